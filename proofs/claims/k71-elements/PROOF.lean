import PyProof.Rows.All
import Wide.All
import OpenK.AllK
import Wide.FinOn
import HandS.ForMost
import HandS.ForExc
import HandS.SortInts
import HandS.IsInst
import HandS.Conv
import HandS.Wide
import HandS.WideBits
import HandS.SetKeys
import HandS.ExcInit
import HandS.TryMany
import HandS.ExcSuper
import KE.KExcLine
import KE.GoesMore
import PyProof.EnumMake
import KE.KRevSl
import HandS.Flow
import HandS.Deep
import HandS.Strs
import HandS.SetFor
import HandS.DictComp
import KE.KDictLaws
import HandS.TupLe
import HandS.TupMul
import HandS.TupAny
import KE.SortData
import HandS.TupLen
import KE.KDictSum
import KE.KDictDisplayH
import PySem.Challenge.RW_kinwork_k71_whole_elements
set_option Elab.async false
set_option linter.all false
set_option maxRecDepth 100000
set_option maxHeartbeats 4000000
set_option autoImplicit false
-- The abstract store: data D, mutable cells CO, states S over the hand layer's readings.
namespace KW
open PySem PySem.Spec L2

-- ### data
inductive D where
  | non
  | bl (b : Bool)
  | int (i : Int)
  | str (s : Str)
  | ty (n : String)
  | tup (l : List D)
  | lst (l : List D)
  | tupK (l : List D)
  | lstS (l : List D)
  | dK (l : List (Key × D))
  | ins (C : Addr) (fs : List (Str × D))
  | adr (a : Addr)

def Ex (H H' : Hp) : Prop := ∀ a o, H a = some o → H' a = some o
theorem Ex.refl (H : Hp) : Ex H H := fun _ _ h => h
theorem Ex.trans {H H1 H2 : Hp} (a : Ex H H1) (b : Ex H1 H2) : Ex H H2 := fun x o h => b x o (a x o h)
theorem Ex.new {H : Hp} {p : Addr} {o : HO} (h : H p = none) : Ex H (upd H p o) := fun a u e => by
  rw [upd_ne (ne_of_none e h)]
  exact e
theorem Ex.upd {F H : Hp} {p : Addr} {o : HO} (e : Ex F H) (h : F p = none) : Ex F (upd H p o) := fun a u ha => by
  rw [upd_ne (ne_of_none ha h)]
  exact e a u ha
theorem Ex.both {F H : Hp} {p : Addr} {o : HO} (e : Ex F H) : Ex (L2.upd F p o) (L2.upd H p o) := fun a u ha => by
  unfold L2.upd at ha ⊢
  split
  · rename_i h
    rw [if_pos h] at ha
    exact ha
  · rename_i h
    rw [if_neg h] at ha
    exact e a u ha
theorem Ex.rd {H H' : Hp} {a : Addr} {u : HO} (e : Ex H H') (h : Rd H a u) : Rd H' a u := by
  rcases h with h | ⟨o, h⟩
  · exact .inl (e a _ h)
  · exact .inr ⟨o, e a _ h⟩
theorem Ex.l {K : PySem.W.Frag} {H H' : Hp} {a : Addr} {xs : List V} (e : Ex H H') (h : SqL K H a xs) : SqL K H' a xs := by
  rcases h with h | h
  · exact .inl (e.rd h)
  · exact .inr h
theorem Ex.t {K : PySem.W.Frag} {H H' : Hp} {a : Addr} {xs : List V} (e : Ex H H') (h : SqT K H a xs) : SqT K H' a xs := by
  rcases h with h | h
  · exact .inl (e.rd h)
  · exact .inr h
theorem Ex.free {H H' : Hp} {p : Addr} (e : Ex H H') (h : H' p = none) : H p = none := by
  cases h1 : H p with
  | none => rfl
  | some o =>
    rw [e p o h1] at h
    cases h

mutual
/-- v is the datum d in the frozen heap F -/
inductive Rep (K : PySem.W.Frag) (F : Hp) : V → D → Prop
  | non : Rep K F .non .non
  | bl (b : Bool) : Rep K F (.bl b) (.bl b)
  | int (i : Int) : Rep K F (.int i) (.int i)
  | str (s : Str) : Rep K F (.str s) (.str s)
  | ty (n : String) : Rep K F (.ty n) (.ty n)
  | tup {a : Addr} {xs : List V} {ds : List D} : F a = some (.tup xs) → Reps K F xs ds → Rep K F (.ref a) (.tup ds)
  | tupK {a : Addr} {xs : List V} {ds : List D} : (∀ H : Hp, SqT K H a xs) → Reps K F xs ds → Rep K F (.ref a) (.tupK ds)
  | lstS {a : Addr} {xs : List V} {ds : List D} : SqL K F a xs → Reps K F xs ds → Rep K F (.ref a) (.lstS ds)
  | lst {a : Addr} {xs : List V} {ds : List D} : F a = some (.lst xs) → Reps K F xs ds → Rep K F (.ref a) (.lst ds)
  | dK {a : Addr} {kvs : List (Key × V)} {kds : List (Key × D)} : Rd F a (.dK kvs) → kvs.map (·.1) = kds.map (·.1) → Reps K F (kvs.map (·.2)) (kds.map (·.2)) → Rep K F (.ref a) (.dK kds)
  | ins {a C dx : Addr} {fvs : List (Str × V)} {fds : List (Str × D)} : F a = some (.ins C dx fvs) → fvs.map (·.1) = fds.map (·.1) → Reps K F (fvs.map (·.2)) (fds.map (·.2)) → Rep K F (.ref a) (.ins C fds)
  | adr (a : Addr) : Rep K F (.ref a) (.adr a)
inductive Reps (K : PySem.W.Frag) (F : Hp) : List V → List D → Prop
  | nil : Reps K F [] []
  | cons {v : V} {vs : List V} {d : D} {ds : List D} : Rep K F v d → Reps K F vs ds → Reps K F (v :: vs) (d :: ds)
end

mutual
theorem Rep.mono {K : PySem.W.Frag} {F F' : Hp} (e : Ex F F') : ∀ {v : V} {d : D}, Rep K F v d → Rep K F' v d
  | _, _, .non => .non
  | _, _, .bl b => .bl b
  | _, _, .int i => .int i
  | _, _, .str s => .str s
  | _, _, .ty n => .ty n
  | _, _, .tup h r => .tup (e _ _ h) (Reps.mono e r)
  | _, _, .tupK h r => .tupK h (Reps.mono e r)
  | _, _, .lstS h r => .lstS (e.l h) (Reps.mono e r)
  | _, _, .lst h r => .lst (e _ _ h) (Reps.mono e r)
  | _, _, .dK h l r => .dK (e.rd h) l (Reps.mono e r)
  | _, _, .ins h l r => .ins (e _ _ h) l (Reps.mono e r)
  | _, _, .adr a => .adr a
theorem Reps.mono {K : PySem.W.Frag} {F F' : Hp} (e : Ex F F') : ∀ {vs : List V} {ds : List D}, Reps K F vs ds → Reps K F' vs ds
  | _, _, .nil => .nil
  | _, _, .cons h r => .cons (Rep.mono e h) (Reps.mono e r)
end
section
variable {K : PySem.W.Frag} {F : Hp} {vs ws : List V} {ds es : List D} {v : V} {d : D} {i : Nat}
theorem Reps.length : ∀ {vs : List V} {ds : List D}, Reps K F vs ds → vs.length = ds.length
  | _, _, .nil => rfl
  | _, _, .cons _ r => by rw [List.length_cons, List.length_cons, Reps.length r]
theorem Reps.get : ∀ {vs : List V} {ds : List D} {i : Nat} {d : D}, Reps K F vs ds → ds[i]? = some d → ∃ v, vs[i]? = some v ∧ Rep K F v d
  | _, _, _, _, .nil, e => by simp at e
  | _, _, 0, _, .cons h _, e => by simp at e; subst e; exact ⟨_, rfl, h⟩
  | _, _, i + 1, d, .cons _ r, e => by
    obtain ⟨v, h1, h2⟩ := Reps.get (i := i) (d := d) r (by simpa using e)
    exact ⟨v, by simpa using h1, h2⟩
theorem Reps.getV : ∀ {vs : List V} {ds : List D} {i : Nat} {v : V}, Reps K F vs ds → vs[i]? = some v → ∃ d, ds[i]? = some d ∧ Rep K F v d
  | _, _, _, _, .nil, e => by simp at e
  | _, _, 0, _, .cons h _, e => by simp at e; subst e; exact ⟨_, rfl, h⟩
  | _, _, i + 1, v, .cons _ r, e => by
    obtain ⟨d, h1, h2⟩ := Reps.getV (i := i) (v := v) r (by simpa using e)
    exact ⟨d, by simpa using h1, h2⟩
theorem Reps.append : ∀ {vs ws : List V} {ds es : List D}, Reps K F vs ds → Reps K F ws es → Reps K F (vs ++ ws) (ds ++ es)
  | _, _, _, _, .nil, s => s
  | _, _, _, _, .cons r t, s => .cons r (Reps.append t s)
theorem Reps.one (h : Rep K F v d) : Reps K F [v] [d] := .cons h .nil
theorem Reps.set (h : Rep K F v d) : ∀ {vs : List V} {ds : List D} (i : Nat), Reps K F vs ds → Reps K F (vs.set i v) (ds.set i d)
  | _, _, _, .nil => .nil
  | _, _, 0, .cons _ t => .cons h t
  | _, _, i + 1, .cons q t => .cons q (Reps.set h i t)
theorem Reps.take : ∀ {vs : List V} {ds : List D} (n : Nat), Reps K F vs ds → Reps K F (vs.take n) (ds.take n)
  | _, _, 0, _ => .nil
  | _, _, _ + 1, .nil => .nil
  | _, _, n + 1, .cons r t => .cons r (Reps.take n t)
theorem Reps.drop : ∀ {vs : List V} {ds : List D} (n : Nat), Reps K F vs ds → Reps K F (vs.drop n) (ds.drop n)
  | _, _, 0, r => r
  | _, _, _ + 1, .nil => .nil
  | _, _, n + 1, .cons _ t => Reps.drop n t
theorem Reps.reverse : ∀ {vs : List V} {ds : List D}, Reps K F vs ds → Reps K F vs.reverse ds.reverse
  | _, _, .nil => .nil
  | _, _, .cons r t => by
    rw [List.reverse_cons, List.reverse_cons]
    exact (Reps.reverse t).append (.one r)
theorem Reps.eraseIdx : ∀ {vs : List V} {ds : List D} (n : Nat), Reps K F vs ds → Reps K F (vs.eraseIdx n) (ds.eraseIdx n)
  | _, _, _, .nil => .nil
  | _, _, 0, .cons _ t => t
  | _, _, n + 1, .cons r t => .cons r (Reps.eraseIdx n t)
theorem Reps.dropLast : ∀ {vs : List V} {ds : List D}, Reps K F vs ds → Reps K F vs.dropLast ds.dropLast := fun {vs ds} r => by
  rw [List.dropLast_eq_take, List.dropLast_eq_take, r.length]
  exact r.take _
theorem Rep.int_inv {i : Int} (h : Rep K F v (.int i)) : v = .int i := by cases h; rfl
theorem Rep.bl_inv {b : Bool} (h : Rep K F v (.bl b)) : v = .bl b := by cases h; rfl
theorem Rep.str_inv {s : Str} (h : Rep K F v (.str s)) : v = .str s := by cases h; rfl
theorem Rep.non_inv (h : Rep K F v .non) : v = .non := by cases h; rfl
theorem Rep.ty_inv {n : String} (h : Rep K F v (.ty n)) : v = .ty n := by cases h; rfl
theorem Rep.adr_inv {a : Addr} (h : Rep K F v (.adr a)) : v = .ref a := by cases h; rfl
theorem Rep.tup_inv {l : List D} (h : Rep K F v (.tup l)) : ∃ a xs, v = .ref a ∧ F a = some (.tup xs) ∧ Reps K F xs l := by
  cases h with
  | tup h r => exact ⟨_, _, rfl, h, r⟩
theorem Rep.tupK_inv {l : List D} (h : Rep K F v (.tupK l)) : ∃ a xs, v = .ref a ∧ (∀ H : Hp, SqT K H a xs) ∧ Reps K F xs l := by
  cases h with
  | tupK h r => exact ⟨_, _, rfl, h, r⟩
theorem Rep.lstS_inv {l : List D} (h : Rep K F v (.lstS l)) : ∃ a xs, v = .ref a ∧ SqL K F a xs ∧ Reps K F xs l := by
  cases h with
  | lstS h r => exact ⟨_, _, rfl, h, r⟩
theorem Rep.lst_inv {l : List D} (h : Rep K F v (.lst l)) : ∃ a xs, v = .ref a ∧ F a = some (.lst xs) ∧ Reps K F xs l := by
  cases h with
  | lst h r => exact ⟨_, _, rfl, h, r⟩
theorem Reps.ints_inv : ∀ {vs : List V} {ns : List Int}, Reps K F vs (ns.map .int) → vs = ns.map .int
  | _, [], .nil => rfl
  | _, _ :: _, .cons h r => by
    rw [List.map_cons, ← Reps.ints_inv r, h.int_inv]
theorem Reps.bls_inv : ∀ {vs : List V} {ns : List Bool}, Reps K F vs (ns.map .bl) → vs = ns.map .bl
  | _, [], .nil => rfl
  | _, _ :: _, .cons h r => by
    rw [List.map_cons, ← Reps.bls_inv r, h.bl_inv]
theorem Reps.strs_inv : ∀ {vs : List V} {ns : List Str}, Reps K F vs (ns.map .str) → vs = ns.map .str
  | _, [], .nil => rfl
  | _, _ :: _, .cons h r => by
    rw [List.map_cons, ← Reps.strs_inv r, h.str_inv]
theorem Reps.ints (ns : List Int) : Reps K F (ns.map .int) (ns.map .int) := by
  induction ns with
  | nil => exact .nil
  | cons n r ih => exact .cons (.int n) ih
theorem Reps.strs (ns : List Str) : Reps K F (ns.map .str) (ns.map .str) := by
  induction ns with
  | nil => exact .nil
  | cons n r ih => exact .cons (.str n) ih
end

-- ### states
/-- what a slot holds: nothing that is known, a datum, the n-th cell -/
inductive AV where
  | un
  | d (x : D)
  | c (n : Nat)
/-- what a cell holds -/
inductive CO where
  | lst (l : List D)
  | dK (l : List (Key × D))
  | dT (l : List (List Key × D))
  | deck
  | ins (C : Addr) (fs : List (Str × AV))
  | dead
structure S where
  env : List AV
  cs : List CO

def AVRep (K : PySem.W.Frag) (F : Hp) (as : List Addr) (v : V) : AV → Prop
  | .un => False
  | .d x => Rep K F v x
  | .c n => ∃ a, as[n]? = some a ∧ v = .ref a
inductive AVReps (K : PySem.W.Frag) (F : Hp) (as : List Addr) : List V → List AV → Prop
  | nil : AVReps K F as [] []
  | cons {v : V} {vs : List V} {d : AV} {ds : List AV} : AVRep K F as v d → AVReps K F as vs ds → AVReps K F as (v :: vs) (d :: ds)
def SlRep (K : PySem.W.Frag) (F : Hp) (as : List Addr) (o : Option V) : AV → Prop
  | .un => True
  | av => ∃ v, o = some v ∧ AVRep K F as v av
/-- the entries of a dict -/
def DReps {κ : Type} (K : PySem.W.Frag) (F : Hp) (kvs : List (κ × V)) (kds : List (κ × D)) : Prop := kvs.map (·.1) = kds.map (·.1) ∧ Reps K F (kvs.map (·.2)) (kds.map (·.2))
/-- the fields of an instance -/
def FReps (K : PySem.W.Frag) (F : Hp) (as : List Addr) (fvs : List (Str × V)) (fds : List (Str × AV)) : Prop := fvs.map (·.1) = fds.map (·.1) ∧ AVReps K F as (fvs.map (·.2)) (fds.map (·.2))
/-- the content of a cell -/
def CRep (K : PySem.W.Frag) (F : Hp) (as : List Addr) (H : Hp) (a : Addr) : CO → Prop
  | .lst ds => ∃ vs, H a = some (.lst vs) ∧ Reps K F vs ds
  | .dK kds => ∃ kvs, H a = some (.dK kvs) ∧ DReps K F kvs kds
  | .dT kds => ∃ kvs, H a = some (.dT kvs) ∧ DReps K F kvs kds
  | .deck => ∃ ns : List Int, H a = some (.lst (ns.map .int))
  | .ins C fs => ∃ dx fvs, H a = some (.ins C dx fvs) ∧ FReps K F as fvs fs
  | .dead => True
def live : CO → Prop
  | .dead => False
  | _ => True
structure Gm (K : PySem.W.Frag) (B F0 F : Hp) (as : List Addr) (cs : List CO) (H : Hp) : Prop where
  fh : Ex F H
  bh : Ex B H
  nw : ∀ p o, F p = some o → (∃ u, F0 p = some u) ∨ B p = none ∨ ∃ xs, o = .tup xs
  len : as.length = cs.length
  nd : as.Nodup
  ha : ∀ (i : Nat) a, as[i]? = some a → ∃ o, H a = some o
  cell : ∀ (i : Nat) a co, as[i]? = some a → cs[i]? = some co → live co → F a = none ∧ B a = none ∧ CRep K F as H a co
/-- what stays through a def's body: the written part, what must stand, what was frozen at the entry, the cells that were handed in -/
structure Bx where
  K : PySem.W.Frag
  B : Hp
  F0 : Hp
  a0 : List Addr
def Pre (xs ys : List Addr) : Prop := ∃ zs, ys = xs ++ zs
structure G (b : Bx) (F : Hp) (as : List Addr) (s : S) (σ : St) (H : Hp) : Prop where
  gm : Gm b.K b.B b.F0 F as s.cs H
  pr : Pre b.a0 as
  e0 : Ex b.F0 F
  len : σ.length = s.env.length
  sl : ∀ (i : Nat) av, s.env[i]? = some av → ∃ o, σ[i]? = some o ∧ SlRep b.K F as o av

theorem Pre.refl (xs : List Addr) : Pre xs xs := ⟨[], by simp⟩
theorem Pre.trans {xs ys zs : List Addr} (a : Pre xs ys) (b : Pre ys zs) : Pre xs zs := by
  obtain ⟨p, rfl⟩ := a
  obtain ⟨q, rfl⟩ := b
  exact ⟨p ++ q, by rw [List.append_assoc]⟩
theorem Pre.get {xs ys : List Addr} (a : Pre xs ys) {n : Nat} {x : Addr} (h : xs[n]? = some x) : ys[n]? = some x := by
  obtain ⟨p, rfl⟩ := a
  have hl : n < xs.length := by
    by_cases hl : n < xs.length
    · exact hl
    · rw [List.getElem?_eq_none (by omega)] at h
      cases h
  rw [List.getElem?_append_left hl]
  exact h
theorem Pre.snoc (xs : List Addr) (p : Addr) : Pre xs (xs ++ [p]) := ⟨[p], rfl⟩
section
variable {K : PySem.W.Frag} {B F0 F F' H H' : Hp} {as as' : List Addr} {s s' : S} {σ σ' : St} {v w : V} {av : AV} {cs cs' : List CO} {a : Addr} {co : CO}
theorem AVRep.mono (e : Ex F F') (p : Pre as as') (h : AVRep K F as v av) : AVRep K F' as' v av := by
  cases av with
  | un => exact h
  | d x => exact Rep.mono e h
  | c n =>
    obtain ⟨a, h1, h2⟩ := h
    exact ⟨a, p.get h1, h2⟩
theorem AVReps.mono (e : Ex F F') (p : Pre as as') : ∀ {vs : List V} {avs : List AV}, AVReps K F as vs avs → AVReps K F' as' vs avs
  | _, _, .nil => .nil
  | _, _, .cons h r => .cons (h.mono e p) (AVReps.mono e p r)
theorem AVReps.length : ∀ {vs : List V} {avs : List AV}, AVReps K F as vs avs → vs.length = avs.length
  | _, _, .nil => rfl
  | _, _, .cons _ r => by rw [List.length_cons, List.length_cons, AVReps.length r]
theorem AVReps.get : ∀ {vs : List V} {avs : List AV} {i : Nat} {av : AV}, AVReps K F as vs avs → avs[i]? = some av → ∃ v, vs[i]? = some v ∧ AVRep K F as v av
  | _, _, _, _, .nil, e => by simp at e
  | _, _, 0, _, .cons h _, e => by simp at e; subst e; exact ⟨_, rfl, h⟩
  | _, _, i + 1, av, .cons _ r, e => by
    obtain ⟨v, h1, h2⟩ := AVReps.get (i := i) (av := av) r (by simpa using e)
    exact ⟨v, by simpa using h1, h2⟩
theorem AVReps.ds : ∀ {vs : List V} {ds : List D}, AVReps K F as vs (ds.map .d) → Reps K F vs ds
  | _, [], .nil => .nil
  | _, _ :: _, .cons h r => .cons h (AVReps.ds r)
theorem AVReps.of_ds : ∀ {vs : List V} {ds : List D}, Reps K F vs ds → AVReps K F as vs (ds.map .d)
  | _, _, .nil => .nil
  | _, _, .cons h r => .cons h (AVReps.of_ds r)
theorem SlRep.mono {o : Option V} (e : Ex F F') (p : Pre as as') (h : SlRep K F as o av) : SlRep K F' as' o av := by
  cases av with
  | un => trivial
  | d x =>
    obtain ⟨v, h1, h2⟩ := h
    exact ⟨v, h1, h2.mono e p⟩
  | c n =>
    obtain ⟨v, h1, h2⟩ := h
    exact ⟨v, h1, h2.mono e p⟩
theorem SlRep.some (h : AVRep K F as v av) : SlRep K F as (some v) av := by
  cases av with
  | un => trivial
  | d x => exact ⟨v, rfl, h⟩
  | c n => exact ⟨v, rfl, h⟩
theorem CRep.mono (e : Ex F F') (p : Pre as as') (ho : ∀ o, H a = some o → H' a = some o) (h : CRep K F as H a co) : CRep K F' as' H' a co := by
  cases co with
  | lst ds =>
    obtain ⟨vs, h1, h2⟩ := h
    exact ⟨vs, ho _ h1, h2.mono e⟩
  | dK kds =>
    obtain ⟨kvs, h1, h2, h3⟩ := h
    exact ⟨kvs, ho _ h1, h2, h3.mono e⟩
  | dT kds =>
    obtain ⟨kvs, h1, h2, h3⟩ := h
    exact ⟨kvs, ho _ h1, h2, h3.mono e⟩
  | deck =>
    obtain ⟨ns, h1⟩ := h
    exact ⟨ns, ho _ h1⟩
  | ins C fs =>
    obtain ⟨dx, fvs, h1, h2, h3⟩ := h
    exact ⟨dx, fvs, ho _ h1, h2, h3.mono e p⟩
  | dead => trivial
theorem CRep.there (l : live co) (h : CRep K F as H a co) : ∃ o, H a = some o := by
  cases co with
  | lst ds => obtain ⟨vs, h1, _⟩ := h; exact ⟨_, h1⟩
  | dK kds => obtain ⟨_, h1, _⟩ := h; exact ⟨_, h1⟩
  | dT kds => obtain ⟨_, h1, _⟩ := h; exact ⟨_, h1⟩
  | deck => obtain ⟨ns, h1⟩ := h; exact ⟨_, h1⟩
  | ins C fs => obtain ⟨_, _, h1, _⟩ := h; exact ⟨_, h1⟩
  | dead => exact l.elim
theorem CRep.notTup (l : live co) (h : CRep K F as H a co) {xs : List V} (e : H a = some (.tup xs)) : False := by
  cases co with
  | lst ds => obtain ⟨vs, h1, _⟩ := h; rw [e] at h1; cases h1
  | dK kds => obtain ⟨_, h1, _⟩ := h; rw [e] at h1; cases h1
  | dT kds => obtain ⟨_, h1, _⟩ := h; rw [e] at h1; cases h1
  | deck => obtain ⟨ns, h1⟩ := h; rw [e] at h1; cases h1
  | ins C fs => obtain ⟨_, _, h1, _⟩ := h; rw [e] at h1; cases h1
  | dead => exact l.elim
/-- no field of it is the n-th cell -/
def noRef (n : Nat) : CO → Prop
  | .ins _ fs => ∀ f ∈ fs, f.2 ≠ .c n
  | _ => True
theorem AVReps.cut {p : Addr} : ∀ {vs : List V} {avs : List AV}, AVReps K F (as ++ [p]) vs avs → (∀ av ∈ avs, av ≠ .c as.length) → AVReps K F as vs avs
  | _, _, .nil, _ => .nil
  | _, _, .cons (d := d) h r, hn => by
    refine .cons ?_ (AVReps.cut r fun av m => hn av (List.mem_cons_of_mem _ m))
    cases d with
    | un => exact h
    | d x => exact h
    | c m =>
      obtain ⟨a, h1, h2⟩ := h
      by_cases hm : m < as.length
      · rw [List.getElem?_append_left hm] at h1
        exact ⟨a, h1, h2⟩
      · by_cases hq : m = as.length
        · exact absurd (by rw [hq]) (hn _ List.mem_cons_self)
        · rw [List.getElem?_eq_none (by rw [List.length_append, List.length_singleton]; omega)] at h1
          cases h1
theorem CRep.cut {p : Addr} (h : CRep K F (as ++ [p]) H a co) (hn : noRef as.length co) : CRep K F as H a co := by
  cases co with
  | lst ds => exact h
  | dK kds => exact h
  | dT kds => exact h
  | deck => exact h
  | dead => exact h
  | ins C fs =>
    obtain ⟨dx, fvs, h1, h2, h3⟩ := h
    refine ⟨dx, fvs, h1, h2, h3.cut fun av m => ?_⟩
    obtain ⟨f, hf, e⟩ := List.mem_map.mp m
    rw [← e]
    exact hn f hf
theorem nd_eq {as : List Addr} (nd : as.Nodup) {i j : Nat} {a : Addr} (h1 : as[i]? = some a) (h2 : as[j]? = some a) : i = j := nd_ix nd h1 h2
theorem lt_of_get {α : Type} {l : List α} {i : Nat} {x : α} (h : l[i]? = some x) : i < l.length := by
  by_cases hl : i < l.length
  · exact hl
  · rw [List.getElem?_eq_none (by omega)] at h
    cases h
theorem Gm.adr (g : Gm K B F0 F as cs H) {n : Nat} (h : cs[n]? = some co) : ∃ a, as[n]? = some a := by
  have := lt_of_get h
  rw [← g.len] at this
  exact ⟨as[n], List.getElem?_eq_getElem this⟩
theorem ne_at {p : Addr} (h : ∃ o, H a = some o) (hp : H p = none) : a ≠ p := by
  obtain ⟨o, e⟩ := h
  exact ne_of_none e hp
theorem there_upd {p : Addr} {o : HO} (h : ∃ u, H a = some u) : ∃ u, upd H p o a = some u := by
  by_cases e : a = p
  · subst e
    exact ⟨o, upd_same⟩
  · rw [upd_ne e]
    exact h
/-- a new object, frozen at once -/
theorem Gm.fz {p : Addr} {o : HO} (g : Gm K B F0 F as cs H) (h : H p = none) : Gm K B F0 (upd F p o) as cs (upd H p o) ∧ Ex F (upd F p o) := by
  have hF : F p = none := g.fh.free h
  refine ⟨⟨g.fh.both, g.bh.upd (g.bh.free h), fun q u e => ?_, g.len, g.nd, fun i a h1 => there_upd (g.ha i a h1), fun i a co h1 h2 h3 => ?_⟩, .new hF⟩
  · by_cases hq : q = p
    · subst hq
      exact .inr (.inl (g.bh.free h))
    · rw [upd_ne hq] at e
      exact g.nw q u e
  · obtain ⟨x1, x2, x3⟩ := g.cell i a co h1 h2 h3
    have ne : a ≠ p := ne_at (g.ha i a h1) h
    refine ⟨by rw [upd_ne ne]; exact x1, x2, x3.mono (.new hF) (.refl as) fun o' e => ?_⟩
    rw [upd_ne ne]
    exact e
/-- a new object, not told of -/
theorem Gm.gb {p : Addr} {o : HO} (g : Gm K B F0 F as cs H) (h : H p = none) : Gm K B F0 F as cs (upd H p o) := by
  have hF : F p = none := g.fh.free h
  refine ⟨g.fh.upd hF, g.bh.upd (g.bh.free h), g.nw, g.len, g.nd, fun i a h1 => there_upd (g.ha i a h1), fun i a co h1 h2 h3 => ?_⟩
  obtain ⟨x1, x2, x3⟩ := g.cell i a co h1 h2 h3
  have ne : a ≠ p := ne_at (g.ha i a h1) h
  refine ⟨x1, x2, x3.mono (.refl F) (.refl as) fun o' e => ?_⟩
  rw [upd_ne ne]
  exact e
theorem snoc_get {α : Type} {l : List α} {x y : α} {i : Nat} (h : (l ++ [x])[i]? = some y) : l[i]? = some y ∨ (i = l.length ∧ y = x) := by
  by_cases hi : i < l.length
  · rw [List.getElem?_append_left hi] at h
    exact .inl h
  · rw [List.getElem?_append_right (by omega)] at h
    have hz : i - l.length = 0 := by
      by_cases z : i - l.length = 0
      · exact z
      · rw [List.getElem?_eq_none (by simp; omega)] at h
        cases h
    rw [hz] at h
    exact .inr ⟨by omega, (Option.some.inj h).symm⟩
theorem nodup_snoc {as : List Addr} {p : Addr} (h : as.Nodup) (hp : p ∉ as) : (as ++ [p]).Nodup := by
  rw [List.nodup_append]
  refine ⟨h, by simp, fun a ha b hb e => ?_⟩
  have : b = p := by simpa using hb
  subst this
  subst e
  exact hp ha
/-- a new object, as a cell -/
theorem Gm.nc {p : Addr} {o : HO} (g : Gm K B F0 F as cs H) (h : H p = none) (hc : CRep K F (as ++ [p]) (upd H p o) p co) : Gm K B F0 F (as ++ [p]) (cs ++ [co]) (upd H p o) := by
  have hF : F p = none := g.fh.free h
  have hn : p ∉ as := fun m => by
    obtain ⟨i, hi⟩ := List.getElem?_of_mem m
    exact ne_at (g.ha i p hi) h rfl
  refine ⟨g.fh.upd hF, g.bh.upd (g.bh.free h), g.nw, by rw [List.length_append, List.length_append, g.len] <;> rfl, nodup_snoc g.nd hn, fun i a h1 => ?_, fun i a co h1 h2 h3 => ?_⟩
  · rcases snoc_get h1 with e | ⟨_, rfl⟩
    · exact there_upd (g.ha i a e)
    · exact ⟨_, upd_same⟩
  · rcases snoc_get h1 with e | ⟨e1, rfl⟩
    · rcases snoc_get h2 with e' | ⟨e2, _⟩
      · obtain ⟨x1, x2, x3⟩ := g.cell i a co e e' h3
        have ne : a ≠ p := ne_at (g.ha i a e) h
        refine ⟨x1, x2, x3.mono (.refl F) (.snoc as p) fun o' z => ?_⟩
        rw [upd_ne ne]
        exact z
      · have := lt_of_get e
        rw [g.len] at this
        omega
    · rcases snoc_get h2 with e' | ⟨_, rfl⟩
      · have := lt_of_get e'
        rw [← g.len] at this
        omega
      · exact ⟨hF, g.bh.free h, hc⟩
/-- a cell is changed -/
theorem Gm.put {n : Nat} {o : HO} {co' : CO} (g : Gm K B F0 F as cs H) (h1 : as[n]? = some a) (h2 : cs[n]? = some co) (h3 : live co) (hc : CRep K F as (upd H a o) a co') : Gm K B F0 F as (cs.set n co') (upd H a o) := by
  obtain ⟨y1, y2, y3⟩ := g.cell n a co h1 h2 h3
  refine ⟨g.fh.upd y1, g.bh.upd y2, g.nw, by rw [List.length_set]; exact g.len, g.nd, fun i b e => there_upd (g.ha i b e), fun i b c e1 e2 e3 => ?_⟩
  by_cases hi : i = n
  · subst hi
    rw [e1] at h1
    obtain rfl : b = a := Option.some.inj h1
    rw [List.getElem?_set_self (lt_of_get h2)] at e2
    obtain rfl : co' = c := Option.some.inj e2
    exact ⟨y1, y2, hc⟩
  · rw [List.getElem?_set_ne (Ne.symm hi)] at e2
    obtain ⟨x1, x2, x3⟩ := g.cell i b c e1 e2 e3
    have ne : b ≠ a := fun z => by
      subst z
      exact hi (nd_eq g.nd e1 h1)
    refine ⟨x1, x2, x3.mono (.refl F) (.refl as) fun o' z => ?_⟩
    rw [upd_ne ne]
    exact z
/-- a cell is frozen -/
theorem Gm.fr {n : Nat} {o : HO} (g : Gm K B F0 F as cs H) (h1 : as[n]? = some a) (h2 : cs[n]? = some co) (h3 : live co) (ho : H a = some o) : Gm K B F0 (upd F a o) as (cs.set n .dead) H ∧ Ex F (upd F a o) := by
  obtain ⟨y1, y2, y3⟩ := g.cell n a co h1 h2 h3
  refine ⟨⟨fun b u e => ?_, g.bh, fun q u e => ?_, by rw [List.length_set]; exact g.len, g.nd, g.ha, fun i b c e1 e2 e3 => ?_⟩, .new y1⟩
  · by_cases hb : b = a
    · subst hb
      rw [upd_same] at e
      rw [← Option.some.inj e]
      exact ho
    · rw [upd_ne hb] at e
      exact g.fh b u e
  · by_cases hq : q = a
    · subst hq
      exact .inr (.inl y2)
    · rw [upd_ne hq] at e
      exact g.nw q u e
  · by_cases hi : i = n
    · subst hi
      rw [List.getElem?_set_self (lt_of_get h2)] at e2
      rw [← Option.some.inj e2] at e3
      exact e3.elim
    · rw [List.getElem?_set_ne (Ne.symm hi)] at e2
      obtain ⟨x1, x2, x3⟩ := g.cell i b c e1 e2 e3
      have ne : b ≠ a := fun z => by
        subst z
        exact hi (nd_eq g.nd e1 h1)
      exact ⟨by rw [upd_ne ne]; exact x1, x2, x3.mono (.new y1) (.refl as) fun o' z => z⟩
/-- a cell is forgotten -/
theorem Gm.fg {n : Nat} (g : Gm K B F0 F as cs H) : Gm K B F0 F as (cs.set n .dead) H := by
  refine ⟨g.fh, g.bh, g.nw, by rw [List.length_set]; exact g.len, g.nd, g.ha, fun i b c e1 e2 e3 => ?_⟩
  by_cases hi : i = n
  · subst hi
    by_cases hl : i < cs.length
    · rw [List.getElem?_set_self hl] at e2
      rw [← Option.some.inj e2] at e3
      exact e3.elim
    · rw [List.getElem?_eq_none (by rw [List.length_set]; omega)] at e2
      cases e2
  · rw [List.getElem?_set_ne (Ne.symm hi)] at e2
    exact g.cell i b c e1 e2 e3
end
end KW

-- Judgements over the abstract store: expressions, tests, arguments, targets, statements.
namespace KW
open PySem PySem.Spec L2

def S.set (s : S) (i : Nat) (av : AV) : S := ⟨s.env.set i av, s.cs⟩
def S.put (s : S) (n : Nat) (co : CO) : S := ⟨s.env, s.cs.set n co⟩
def S.new (s : S) (co : CO) : S := ⟨s.env, s.cs ++ [co]⟩

/-- what is wanted of an exception: class, fields, state -/
abbrev XP := Addr → List (Str × D) → Prop

section
variable (b : Bx)
def WE (te : TE) (s : S) (k : AV → S → Prop) : Prop := ∀ F as σ H, G b F as s σ H → ∀ Q : VK,
  (∀ v av s' F' as' H', k av s' → G b F' as' s' σ H' → Ex F F' → Pre as as' → AVRep b.K F' as' v av → Q v H') → te σ H Q
def WT (tt : TT) (s : S) (k : Bool → S → Prop) : Prop := ∀ F as σ H, G b F as s σ H → ∀ Q : Bool → Hp → Prop,
  (∀ c s' F' as' H', k c s' → G b F' as' s' σ H' → Ex F F' → Pre as as' → Q c H') → tt σ H Q
def WA (ta : TA) (s : S) (k : List AV → S → Prop) : Prop := ∀ F as σ H, G b F as s σ H → ∀ Q : List V → Hp → Prop,
  (∀ vs avs s' F' as' H', k avs s' → G b F' as' s' σ H' → Ex F F' → Pre as as' → AVReps b.K F' as' vs avs → Q vs H') → ta σ H Q
/-- an operation on two values -/
def RO (r : R2) (x y : AV) (s : S) (k : AV → S → Prop) : Prop := ∀ F as σ H v w, G b F as s σ H → AVRep b.K F as v x → AVRep b.K F as w y → ∀ Q : VK,
  (∀ z av s' F' as' H', k av s' → G b F' as' s' σ H' → Ex F F' → Pre as as' → AVRep b.K F' as' z av → Q z H') → r v w H Q
/-- an operation on one value -/
def RU (r : V → Hp → VK → Prop) (x : AV) (s : S) (k : AV → S → Prop) : Prop := ∀ F as σ H v, G b F as s σ H → AVRep b.K F as v x → ∀ Q : VK,
  (∀ z av s' F' as' H', k av s' → G b F' as' s' σ H' → Ex F F' → Pre as as' → AVRep b.K F' as' z av → Q z H') → r v H Q
/-- a call on values -/
def RC (r : List V → Hp → VK → Prop) (xs : List AV) (s : S) (k : AV → S → Prop) : Prop := ∀ F as σ H vs, G b F as s σ H → AVReps b.K F as vs xs → ∀ Q : VK,
  (∀ z av s' F' as' H', k av s' → G b F' as' s' σ H' → Ex F F' → Pre as as' → AVRep b.K F' as' z av → Q z H') → r vs H Q
/-- a method on a value and arguments -/
def RM (r : V → List V → Hp → VK → Prop) (x : AV) (xs : List AV) (s : S) (k : AV → S → Prop) : Prop := ∀ F as σ H v vs, G b F as s σ H → AVRep b.K F as v x → AVReps b.K F as vs xs → ∀ Q : VK,
  (∀ z av s' F' as' H', k av s' → G b F' as' s' σ H' → Ex F F' → Pre as as' → AVRep b.K F' as' z av → Q z H') → r v vs H Q
/-- a store to a target -/
def WG (g : TG) (x : AV) (s : S) (k : S → Prop) : Prop := ∀ F as σ H v, G b F as s σ H → AVRep b.K F as v x → ∀ Q : L2.St → Hp → Prop,
  (∀ s' F' as' σ' H', k s' → G b F' as' s' σ' H' → Ex F F' → Pre as as' → Q σ' H') → g v σ H Q
def WGs (g : TGs) (xs : List AV) (s : S) (k : S → Prop) : Prop := ∀ F as σ H vs, G b F as s σ H → AVReps b.K F as vs xs → ∀ Q : L2.St → Hp → Prop,
  (∀ s' F' as' σ' H', k s' → G b F' as' s' σ' H' → Ex F F' → Pre as as' → Q σ' H') → g vs σ H Q
/-- what is wanted behind a statement -/
structure AE where
  nx : S → Prop
  rt : AV → S → Prop
  bk : S → Prop := fun _ => False
  ct : S → Prop := fun _ => False
structure EndsOk (F : Hp) (A : AE) (E : Ends) : Prop where
  nx : ∀ s F' as' σ H, A.nx s → G b F' as' s σ H → Ex F F' → E.nx σ H
  rt : ∀ v av s F' as' σ H, A.rt av s → G b F' as' s σ H → Ex F F' → AVRep b.K F' as' v av → E.rt v H
  bk : ∀ s F' as' σ H, A.bk s → G b F' as' s σ H → Ex F F' → E.bk σ H
  ct : ∀ s F' as' σ H, A.ct s → G b F' as' s σ H → Ex F F' → E.ct σ H
def WS (ts : TS) (s : S) (A : AE) : Prop := ∀ F as σ H E, G b F as s σ H → EndsOk b F A E → ts E σ H
end

section
variable {b : Bx} {F F' H H' : Hp} {as as' : List Addr} {s s' : S} {σ σ' : L2.St}
theorem EndsOk.mono {A : AE} {E : Ends} (h : EndsOk b F A E) (e : Ex F F') : EndsOk b F' A E :=
  ⟨fun s F2 as2 σ H a g e' => h.nx s F2 as2 σ H a g (e.trans e'), fun v av s F2 as2 σ H a g e' r => h.rt v av s F2 as2 σ H a g (e.trans e') r,
   fun s F2 as2 σ H a g e' => h.bk s F2 as2 σ H a g (e.trans e'), fun s F2 as2 σ H a g e' => h.ct s F2 as2 σ H a g (e.trans e')⟩
theorem G.of (g : G b F as s σ H) (m : Gm b.K b.B b.F0 F' as' s'.cs H') (e : Ex F F') (p : Pre as as') (he : s'.env = s.env) : G b F' as' s' σ H' :=
  ⟨m, g.pr.trans p, g.e0.trans e, by rw [he]; exact g.len, fun i av h => by
    rw [he] at h
    obtain ⟨o, h1, h2⟩ := g.sl i av h
    exact ⟨o, h1, h2.mono e p⟩⟩
theorem G.set {i : Nat} {v : V} {av : AV} (g : G b F as s σ H) (h : AVRep b.K F as v av) : G b F as (s.set i av) (σ.set i (some v)) H :=
  ⟨g.gm, g.pr, g.e0, by rw [List.length_set]; show _ = (s.env.set i av).length; rw [List.length_set]; exact g.len, fun j x e => by
    have e : (s.env.set i av)[j]? = some x := e
    by_cases hj : j = i
    · subst hj
      have hl : j < s.env.length := by
        have := lt_of_get e
        rw [List.length_set] at this
        exact this
      rw [List.getElem?_set_self hl] at e
      obtain rfl : av = x := Option.some.inj e
      refine ⟨some v, ?_, .some h⟩
      rw [List.getElem?_set_self (by rw [g.len]; exact hl)]
    · rw [List.getElem?_set_ne (Ne.symm hj)] at e
      rw [List.getElem?_set_ne (Ne.symm hj)]
      exact g.sl j x e⟩
/-- a slot's value is forgotten -/
theorem G.unset {i : Nat} (g : G b F as s σ H) : G b F as (s.set i .un) σ H :=
  ⟨g.gm, g.pr, g.e0, by show _ = (s.env.set i .un).length; rw [List.length_set]; exact g.len, fun j x e => by
    have e : (s.env.set i .un)[j]? = some x := e
    by_cases hj : j = i
    · subst hj
      have hl : j < s.env.length := by
        have := lt_of_get e
        rw [List.length_set] at this
        exact this
      rw [List.getElem?_set_self hl] at e
      obtain rfl : AV.un = x := Option.some.inj e
      have : j < σ.length := by rw [g.len]; exact hl
      exact ⟨σ[j], List.getElem?_eq_getElem this, trivial⟩
    · rw [List.getElem?_set_ne (Ne.symm hj)] at e
      exact g.sl j x e⟩

-- ### expressions
theorem WE.mono {te : TE} {k k' : AV → S → Prop} (h : WE b te s k) (hk : ∀ av s', k av s' → k' av s') : WE b te s k' :=
  fun F as σ H g Q q => h F as σ H g Q fun v av s' F' as' H' z => q v av s' F' as' H' (hk av s' z)
theorem we_var {i : Nat} {av : AV} {k : AV → S → Prop} (h : s.env[i]? = some av) (hu : av ≠ .un) (hk : k av s) : WE b (tVar i) s k := fun F as σ H g Q q => by
  obtain ⟨o, h1, h2⟩ := g.sl i av h
  cases av with
  | un => exact absurd rfl hu
  | d x =>
    obtain ⟨v, rfl, r⟩ := h2
    exact ⟨v, h1, q v _ s F as H hk g (.refl F) (.refl as) r⟩
  | c n =>
    obtain ⟨v, rfl, r⟩ := h2
    exact ⟨v, h1, q v _ s F as H hk g (.refl F) (.refl as) r⟩
theorem we_vd {i : Nat} {d : D} {k : AV → S → Prop} (h : s.env[i]? = some (.d d)) (hk : k (.d d) s) : WE b (tVar i) s k := we_var h (fun z => nomatch z) hk
theorem we_vc {i n : Nat} {k : AV → S → Prop} (h : s.env[i]? = some (.c n)) (hk : k (.c n) s) : WE b (tVar i) s k := we_var h (fun z => nomatch z) hk
theorem we_cd {v : V} {d : D} {k : AV → S → Prop} (r : ∀ F, Rep b.K F v d) (hk : k (.d d) s) : WE b (tC v) s k := fun F as σ H g Q q => q v _ s F as H hk g (.refl F) (.refl as) (r F)
theorem we_int {i : Int} {k : AV → S → Prop} (hk : k (.d (.int i)) s) : WE b (tC (.int i)) s k := we_cd (fun _ => .int i) hk
theorem we_str {i : Str} {k : AV → S → Prop} (hk : k (.d (.str i)) s) : WE b (tC (.str i)) s k := we_cd (fun _ => .str i) hk
theorem we_bl {i : Bool} {k : AV → S → Prop} (hk : k (.d (.bl i)) s) : WE b (tC (.bl i)) s k := we_cd (fun _ => .bl i) hk
theorem we_non {k : AV → S → Prop} (hk : k (.d .non) s) : WE b (tC .non) s k := we_cd (fun _ => .non) hk
theorem we_ty {n : String} {k : AV → S → Prop} (hk : k (.d (.ty n)) s) : WE b (tC (.ty n)) s k := we_cd (fun _ => .ty n) hk
theorem we_op {r : R2} {ta tb : TE} {k : AV → S → Prop} (h : WE b ta s fun x s1 => WE b tb s1 fun y s2 => RO b r x y s2 k) : WE b (tOp r ta tb) s k := fun F as σ H g Q q =>
  h F as σ H g _ fun v x s1 F1 as1 H1 h1 g1 e1 p1 r1 => h1 F1 as1 σ H1 g1 _ fun w y s2 F2 as2 H2 h2 g2 e2 p2 r2 =>
    h2 F2 as2 σ H2 v w g2 (r1.mono e2 p2) r2 Q fun z av s3 F3 as3 H3 h3 g3 e3 p3 r3 => q z av s3 F3 as3 H3 h3 g3 ((e1.trans e2).trans e3) ((p1.trans p2).trans p3) r3
theorem we_un {r : V → Hp → VK → Prop} {ta : TE} {k : AV → S → Prop} (h : WE b ta s fun x s1 => RU b r x s1 k) : WE b (tUn r ta) s k := fun F as σ H g Q q =>
  h F as σ H g _ fun v x s1 F1 as1 H1 h1 g1 e1 p1 r1 => h1 F1 as1 σ H1 v g1 r1 Q fun z av s3 F3 as3 H3 h3 g3 e3 p3 r3 => q z av s3 F3 as3 H3 h3 g3 (e1.trans e3) (p1.trans p3) r3
theorem wa_nil {k : List AV → S → Prop} (hk : k [] s) : WA b tNil s k := fun F as σ H g Q q => q [] [] s F as H hk g (.refl F) (.refl as) .nil
theorem wa_cons {te : TE} {ta : TA} {k : List AV → S → Prop} (h : WE b te s fun x s1 => WA b ta s1 fun xs s2 => k (x :: xs) s2) : WA b (tCons te ta) s k := fun F as σ H g Q q =>
  h F as σ H g _ fun v x s1 F1 as1 H1 h1 g1 e1 p1 r1 => h1 F1 as1 σ H1 g1 _ fun vs xs s2 F2 as2 H2 h2 g2 e2 p2 r2 =>
    q (v :: vs) (x :: xs) s2 F2 as2 H2 h2 g2 (e1.trans e2) (p1.trans p2) (.cons (r1.mono e2 p2) r2)
theorem we_cb {r : List V → Hp → VK → Prop} {ta : TA} {k : AV → S → Prop} (h : WA b ta s fun xs s1 => RC b r xs s1 k) : WE b (tCB r ta) s k := fun F as σ H g Q q =>
  h F as σ H g _ fun vs xs s1 F1 as1 H1 h1 g1 e1 p1 r1 => h1 F1 as1 σ H1 vs g1 r1 Q fun z av s3 F3 as3 H3 h3 g3 e3 p3 r3 => q z av s3 F3 as3 H3 h3 g3 (e1.trans e3) (p1.trans p3) r3
theorem we_tupd {ta : TA} {k : AV → S → Prop} (h : WA b ta s fun xs s1 => ∃ ds, xs = ds.map .d ∧ ds.length ≤ sizeLine ∧ k (.d (.tup ds)) s1) : WE b (tTup ta) s k := fun F as σ H g Q q =>
  h F as σ H g _ fun vs xs s1 F1 as1 H1 h1 g1 e1 p1 r1 => by
    obtain ⟨ds, rfl, hl, hk⟩ := h1
    have rd := r1.ds
    refine ⟨by rw [rd.length]; exact hl, fun p hp => ?_⟩
    obtain ⟨m, e⟩ := g1.gm.fz (o := .tup vs) hp
    exact q (.ref p) _ s1 _ as1 _ hk (g1.of m e (.refl as1) rfl) (e1.trans e) p1 (.tup upd_same (rd.mono e))
/-- a new list that is never changed -/
theorem we_lstd {ta : TA} {k : AV → S → Prop} (h : WA b ta s fun xs s1 => ∃ ds, xs = ds.map .d ∧ ds.length ≤ sizeLine ∧ k (.d (.lst ds)) s1) : WE b (tLst ta) s k := fun F as σ H g Q q =>
  h F as σ H g _ fun vs xs s1 F1 as1 H1 h1 g1 e1 p1 r1 => by
    obtain ⟨ds, rfl, hl, hk⟩ := h1
    have rd := r1.ds
    refine ⟨by rw [rd.length]; exact hl, fun p hp => ?_⟩
    obtain ⟨m, e⟩ := g1.gm.fz (o := .lst vs) hp
    exact q (.ref p) _ s1 _ as1 _ hk (g1.of m e (.refl as1) rfl) (e1.trans e) p1 (.lst upd_same (rd.mono e))
/-- a new list as a cell -/
theorem we_lstc {ta : TA} {k : AV → S → Prop} (h : WA b ta s fun xs s1 => ∃ ds, xs = ds.map .d ∧ ds.length ≤ sizeLine ∧ k (.c s1.cs.length) (s1.new (.lst ds))) : WE b (tLst ta) s k := fun F as σ H g Q q =>
  h F as σ H g _ fun vs xs s1 F1 as1 H1 h1 g1 e1 p1 r1 => by
    obtain ⟨ds, rfl, hl, hk⟩ := h1
    have rd := r1.ds
    refine ⟨by rw [rd.length]; exact hl, fun p hp => ?_⟩
    have m := g1.gm.nc (o := .lst vs) (co := .lst ds) hp ⟨vs, upd_same, rd⟩
    exact q (.ref p) _ (s1.new (.lst ds)) _ _ _ hk (g1.of m (.refl F1) (.snoc as1 p) rfl) e1 (p1.trans (.snoc as1 p)) ⟨p, by rw [← g1.gm.len, List.getElem?_append_right (Nat.le_refl _), Nat.sub_self] <;> rfl, rfl⟩
/-- a new dict as a cell -/
theorem we_dnewK {k : AV → S → Prop} (h : k (.c s.cs.length) (s.new (.dK []))) : WE b tDNewK s k := fun F as σ H g Q q p hp =>
  q (.ref p) _ (s.new (.dK [])) _ _ _ h (g.of (g.gm.nc (o := .dK []) (co := .dK []) hp ⟨[], upd_same, rfl, .nil⟩) (.refl F) (.snoc as p) rfl) (.refl F) (.snoc as p) ⟨p, by rw [← g.gm.len, List.getElem?_append_right (Nat.le_refl _), Nat.sub_self] <;> rfl, rfl⟩
theorem we_dnewT {k : AV → S → Prop} (h : k (.c s.cs.length) (s.new (.dT []))) : WE b tDNewT s k := fun F as σ H g Q q p hp =>
  q (.ref p) _ (s.new (.dT [])) _ _ _ h (g.of (g.gm.nc (o := .dT []) (co := .dT []) hp ⟨[], upd_same, rfl, .nil⟩) (.refl F) (.snoc as p) rfl) (.refl F) (.snoc as p) ⟨p, by rw [← g.gm.len, List.getElem?_append_right (Nat.le_refl _), Nat.sub_self] <;> rfl, rfl⟩

-- ### tests
theorem wt_test {te : TE} {k : Bool → S → Prop} (h : WE b te s fun x s1 => ∃ b, x = .d (.bl b) ∧ k b s1) : WT b (tTest te) s k := fun F as σ H g Q q =>
  h F as σ H g _ fun v x s1 F1 as1 H1 h1 g1 e1 p1 r1 => by
    obtain ⟨b, rfl, hk⟩ := h1
    exact ⟨b, Rep.bl_inv r1, q b s1 F1 as1 H1 hk g1 e1 p1⟩
theorem wt_B {te : TE} {k : Bool → S → Prop} (h : WE b te s fun x s1 => ∃ b, x = .d (.bl b) ∧ k b s1) : WT b (tB te) s k := fun F as σ H g Q q =>
  h F as σ H g _ fun v x s1 F1 as1 H1 h1 g1 e1 p1 r1 => by
    obtain ⟨b, rfl, hk⟩ := h1
    exact ⟨b, Rep.bl_inv r1, q b s1 F1 as1 H1 hk g1 e1 p1⟩
theorem wt_and {t u : TT} {k : Bool → S → Prop} (h : WT b t s fun c s1 => (c = true → WT b u s1 k) ∧ (c = false → k false s1)) : WT b (tAnd t u) s k := fun F as σ H g Q q =>
  h F as σ H g _ fun c s1 F1 as1 H1 h1 g1 e1 p1 => by
    cases c with
    | true => exact h1.1 rfl F1 as1 σ H1 g1 Q fun y s2 F2 as2 H2 h2 g2 e2 p2 => q y s2 F2 as2 H2 h2 g2 (e1.trans e2) (p1.trans p2)
    | false => exact q false s1 F1 as1 H1 (h1.2 rfl) g1 e1 p1
theorem wt_or {t u : TT} {k : Bool → S → Prop} (h : WT b t s fun c s1 => (c = false → WT b u s1 k) ∧ (c = true → k true s1)) : WT b (tOr t u) s k := fun F as σ H g Q q =>
  h F as σ H g _ fun c s1 F1 as1 H1 h1 g1 e1 p1 => by
    cases c with
    | false => exact h1.1 rfl F1 as1 σ H1 g1 Q fun y s2 F2 as2 H2 h2 g2 e2 p2 => q y s2 F2 as2 H2 h2 g2 (e1.trans e2) (p1.trans p2)
    | true => exact q true s1 F1 as1 H1 (h1.2 rfl) g1 e1 p1
theorem wt_not {t : TT} {k : Bool → S → Prop} (h : WT b t s fun c s1 => k (!c) s1) : WT b (tNot t) s k := fun F as σ H g Q q =>
  h F as σ H g _ fun c s1 F1 as1 H1 h1 g1 e1 p1 => q (!c) s1 F1 as1 H1 h1 g1 e1 p1
theorem wt_yes {k : Bool → S → Prop} (h : k true s) : WT b tYes s k := fun F as σ H g Q q => q true s F as H h g (.refl F) (.refl as)
theorem we_andV {ta tb : TE} {k : AV → S → Prop} (h : WE b ta s fun x s1 => ∃ c, x = .d (.bl c) ∧ (c = true → WE b tb s1 k) ∧ (c = false → k (.d (.bl false)) s1)) : WE b (tAndV ta tb) s k := fun F as σ H g Q q =>
  h F as σ H g _ fun v x s1 F1 as1 H1 h1 g1 e1 p1 r1 => by
    obtain ⟨c, rfl, ht, hf⟩ := h1
    refine ⟨c, Rep.bl_inv r1, ?_⟩
    cases c with
    | true => exact ht rfl F1 as1 σ H1 g1 Q fun w y s2 F2 as2 H2 h2 g2 e2 p2 r2 => q w y s2 F2 as2 H2 h2 g2 (e1.trans e2) (p1.trans p2) r2
    | false => exact q (.bl false) _ s1 F1 as1 H1 (hf rfl) g1 e1 p1 (Rep.bl false)
theorem we_orV {ta tb : TE} {k : AV → S → Prop} (h : WE b ta s fun x s1 => ∃ c, x = .d (.bl c) ∧ (c = false → WE b tb s1 k) ∧ (c = true → k (.d (.bl true)) s1)) : WE b (tOrV ta tb) s k := fun F as σ H g Q q =>
  h F as σ H g _ fun v x s1 F1 as1 H1 h1 g1 e1 p1 r1 => by
    obtain ⟨c, rfl, hf, ht⟩ := h1
    refine ⟨c, Rep.bl_inv r1, ?_⟩
    cases c with
    | false => exact hf rfl F1 as1 σ H1 g1 Q fun w y s2 F2 as2 H2 h2 g2 e2 p2 r2 => q w y s2 F2 as2 H2 h2 g2 (e1.trans e2) (p1.trans p2) r2
    | true => exact q (.bl true) _ s1 F1 as1 H1 (ht rfl) g1 e1 p1 (Rep.bl true)
theorem we_notV {ta : TE} {k : AV → S → Prop} (h : WE b ta s fun x s1 => ∃ c, x = .d (.bl c) ∧ k (.d (.bl (!c))) s1) : WE b (tNotV ta) s k := fun F as σ H g Q q =>
  h F as σ H g _ fun v x s1 F1 as1 H1 h1 g1 e1 p1 r1 => by
    obtain ⟨c, rfl, hk⟩ := h1
    exact ⟨c, Rep.bl_inv r1, q _ _ s1 F1 as1 H1 hk g1 e1 p1 (Rep.bl _)⟩
theorem we_if {t : TT} {ta tb : TE} {k : AV → S → Prop} (h : WT b t s fun c s1 => (c = true → WE b ta s1 k) ∧ (c = false → WE b tb s1 k)) : WE b (tIf t ta tb) s k := fun F as σ H g Q q =>
  h F as σ H g _ fun c s1 F1 as1 H1 h1 g1 e1 p1 => by
    cases c with
    | true => exact h1.1 rfl F1 as1 σ H1 g1 Q fun w y s2 F2 as2 H2 h2 g2 e2 p2 r2 => q w y s2 F2 as2 H2 h2 g2 (e1.trans e2) (p1.trans p2) r2
    | false => exact h1.2 rfl F1 as1 σ H1 g1 Q fun w y s2 F2 as2 H2 h2 g2 e2 p2 r2 => q w y s2 F2 as2 H2 h2 g2 (e1.trans e2) (p1.trans p2) r2

-- ### statements
section
variable {A : AE} {t u : TS} {te : TE} {g : TG}
theorem ws_seq (h : WS b t s { A with nx := fun s' => WS b u s' A }) : WS b (tSeq t u) s A := fun F as σ H E gg ok =>
  h F as σ H { E with nx := u E } gg ⟨fun s1 F1 as1 σ1 H1 h1 g1 e1 => h1 F1 as1 σ1 H1 E g1 (ok.mono e1), ok.rt, ok.bk, ok.ct⟩
theorem ws_next (h : A.nx s) : WS b tNext s A := fun F as σ H E gg ok => ok.nx s F as σ H h gg (.refl F)
theorem ws_break (h : A.bk s) : WS b tBreak s A := fun F as σ H E gg ok => ok.bk s F as σ H h gg (.refl F)
theorem ws_cont (h : A.ct s) : WS b tCont s A := fun F as σ H E gg ok => ok.ct s F as σ H h gg (.refl F)
theorem ws_drop (h : WE b te s fun _ s1 => A.nx s1) : WS b (tDrop te) s A := fun F as σ H E gg ok =>
  h F as σ H gg _ fun v x s1 F1 as1 H1 h1 g1 e1 p1 r1 => ok.nx s1 F1 as1 σ H1 h1 g1 e1
theorem ws_ret (h : WE b te s A.rt) : WS b (tRet te) s A := fun F as σ H E gg ok =>
  h F as σ H gg _ fun v x s1 F1 as1 H1 h1 g1 e1 p1 r1 => ok.rt v x s1 F1 as1 σ H1 h1 g1 e1 r1
theorem ws_retN (h : A.rt (.d .non) s) : WS b tRetN s A := fun F as σ H E gg ok => ok.rt .non _ s F as σ H h gg (.refl F) Rep.non
theorem ws_if {c : TT} (h : WT b c s fun y s1 => (y = true → WS b t s1 A) ∧ (y = false → WS b u s1 A)) : WS b (tIfS c t u) s A := fun F as σ H E gg ok =>
  h F as σ H gg _ fun y s1 F1 as1 H1 h1 g1 e1 p1 => by
    cases y with
    | true => exact h1.1 rfl F1 as1 σ H1 E g1 (ok.mono e1)
    | false => exact h1.2 rfl F1 as1 σ H1 E g1 (ok.mono e1)
theorem ws_asg (h : WE b te s fun x s1 => WG b g x s1 A.nx) : WS b (tAsg te g) s A := fun F as σ H E gg ok =>
  h F as σ H gg _ fun v x s1 F1 as1 H1 h1 g1 e1 p1 r1 => h1 F1 as1 σ H1 v g1 r1 _ fun s2 F2 as2 σ2 H2 h2 g2 e2 p2 => ok.nx s2 F2 as2 σ2 H2 h2 g2 (e1.trans e2)
theorem ws_par {i j : Nat} {ta : TA} (h : WA b ta s fun xs s1 => ∃ x y, xs = [x, y] ∧ A.nx ((s1.set i x).set j y)) : WS b (tPar i j ta) s A := fun F as σ H E gg ok =>
  h F as σ H gg _ fun vs xs s1 F1 as1 H1 h1 g1 e1 p1 r1 => by
    obtain ⟨x, y, rfl, hn⟩ := h1
    cases r1 with
    | cons r1 r2 =>
      cases r2 with
      | cons r2 r3 =>
        cases r3
        exact ⟨_, _, rfl, ok.nx _ F1 as1 _ H1 hn ((g1.set r1).set r2) e1⟩
theorem ws_aug {i : Nat} {ti : TIp} {x : AV} (h0 : s.env[i]? = some x) (hu : x ≠ .un) (h : WE b te s fun y s1 => RO b ti x y s1 fun z s2 => A.nx (s2.set i z)) : WS b (tAug i te ti) s A := fun F as σ H E gg ok => by
  obtain ⟨o, h1, h2⟩ := gg.sl i x h0
  have : ∃ v, o = some v ∧ AVRep b.K F as v x := by
    cases x with
    | un => exact absurd rfl hu
    | d _ => exact h2
    | c _ => exact h2
  obtain ⟨v, rfl, r⟩ := this
  exact ⟨v, h1, h F as σ H gg _ fun w y s1 F1 as1 H1 h1 g1 e1 p1 r1 => h1 F1 as1 σ H1 v w g1 (r.mono e1 p1) r1 _ fun z av s2 F2 as2 H2 h2 g2 e2 p2 r2 =>
    ok.nx _ F2 as2 _ H2 h2 (g2.set r2) (e1.trans e2)⟩
theorem WS.mono {A' : AE} (h : WS b t s A) (hn : ∀ s, A.nx s → A'.nx s) (hr : ∀ v s, A.rt v s → A'.rt v s) (hb : ∀ s, A.bk s → A'.bk s) (hc : ∀ s, A.ct s → A'.ct s) : WS b t s A' := fun F as σ H E gg ok =>
  h F as σ H E gg ⟨fun s F' as' σ H a => ok.nx s F' as' σ H (hn s a), fun v av s F' as' σ H a => ok.rt v av s F' as' σ H (hr av s a), fun s F' as' σ H a => ok.bk s F' as' σ H (hb s a), fun s F' as' σ H a => ok.ct s F' as' σ H (hc s a)⟩
end

-- ### targets
theorem wg_name {i : Nat} {x : AV} {k : S → Prop} (hk : k (s.set i x)) : WG b (gName i) x s k := fun F as σ H v g r Q q => q _ F as _ H hk (g.set r) (.refl F) (.refl as)
theorem wgs_nil {k : S → Prop} (hk : k s) : WGs b gNil [] s k := fun F as σ H vs g r Q q => by
  cases r
  exact ⟨rfl, q s F as σ H hk g (.refl F) (.refl as)⟩
theorem wgs_cons {t : TG} {u : TGs} {x : AV} {xs : List AV} {k : S → Prop} (h : WG b t x s fun s1 => WGs b u xs s1 k) : WGs b (gCons t u) (x :: xs) s k := fun F as σ H vs g r Q q => by
  cases r with
  | cons r1 r2 =>
    exact ⟨_, _, rfl, h F as σ H _ g r1 _ fun s1 F1 as1 σ1 H1 h1 g1 e1 p1 => h1 F1 as1 σ1 H1 _ g1 (r2.mono e1 p1) _ fun s2 F2 as2 σ2 H2 h2 g2 e2 p2 => q s2 F2 as2 σ2 H2 h2 g2 (e1.trans e2) (p1.trans p2)⟩
theorem wg_tup {n : Nat} {t : TGs} {ds : List D} {k : S → Prop} (hn : ds.length = n) (h : WGs b t (ds.map .d) s k) : WG b (gTup b.K n t) (.d (.tup ds)) s k := fun F as σ H v g r Q q => by
  obtain ⟨a, xs, rfl, h1, h2⟩ := Rep.tup_inv r
  exact ⟨a, xs, rfl, .inl (.inl (g.gm.fh _ _ h1)), by rw [h2.length, hn], h F as σ H xs g (.of_ds h2) Q q⟩

-- ### a cell is frozen, forgotten
/-- in place of the cell n its content -/
def thaw (n : Nat) (x : D) : AV → AV
  | .c m => if m = n then .d x else .c m
  | av => av
def thawC (n : Nat) (x : D) : CO → CO
  | .ins C fs => .ins C (fs.map fun f => (f.1, thaw n x f.2))
  | co => co
/-- all fields are data -/
def plainF : List (Str × AV) → Option (List (Str × D))
  | [] => some []
  | (f, .d x) :: r => (plainF r).map fun l => (f, x) :: l
  | _ => none
def frozen : CO → Option D
  | .lst l => some (.lst l)
  | .dK l => some (.dK l)
  | .ins C fs => (plainF fs).map (.ins C)
  | _ => none
theorem plainF_reps {fvs : List (Str × V)} : ∀ {fs : List (Str × AV)} {fds : List (Str × D)} {fvs : List (Str × V)}, plainF fs = some fds → FReps b.K F as fvs fs → fvs.map (·.1) = fds.map (·.1) ∧ Reps b.K F (fvs.map (·.2)) (fds.map (·.2))
  | [], fds, fvs, h, r => by
    obtain rfl : [] = fds := Option.some.inj h
    cases fvs with
    | nil => exact ⟨rfl, .nil⟩
    | cons _ _ => cases r.1
  | (f, .un) :: fs, fds, fvs, h, r => by cases h
  | (f, .c _) :: fs, fds, fvs, h, r => by cases h
  | (f, .d x) :: fs, fds, fvs, h, r => by
    obtain ⟨l, h1, rfl⟩ := Option.map_eq_some_iff.mp h
    cases fvs with
    | nil => cases r.1
    | cons v fvs =>
      obtain ⟨r1, r2⟩ := r
      cases r2 with
      | cons r3 r4 =>
        have e1 : v.1 = f := (List.cons.inj r1).1
        obtain ⟨q1, q2⟩ := plainF_reps (fvs := fvs) h1 ⟨(List.cons.inj r1).2, r4⟩
        exact ⟨by rw [List.map_cons, List.map_cons, q1, e1], .cons r3 q2⟩
theorem rd_of {F : Hp} {a : Addr} {o : HO} (h : F a = some o) : Rd F a o := .inl h
theorem crep_frozen {co : CO} {x : D} {a : Addr} (hc : CRep b.K F as H a co) (hx : frozen co = some x) : ∃ o, H a = some o ∧ ∀ F', Ex F F' → F' a = some o → Rep b.K F' (.ref a) x := by
  cases co with
  | lst l =>
    obtain ⟨vs, h1, h2⟩ := hc
    obtain rfl : D.lst l = x := Option.some.inj hx
    exact ⟨_, h1, fun F' e h => .lst h (h2.mono e)⟩
  | dK l =>
    obtain ⟨kvs, h1, h2, h3⟩ := hc
    obtain rfl : D.dK _ = x := Option.some.inj hx
    exact ⟨_, h1, fun F' e h => .dK (.inl h) h2 (h3.mono e)⟩
  | dT l => cases hx
  | deck => cases hx
  | ins C fs =>
    obtain ⟨dx, fvs, h1, h2⟩ := hc
    obtain ⟨fds, hp, rfl⟩ := Option.map_eq_some_iff.mp hx
    obtain ⟨q1, q2⟩ := plainF_reps (fvs := fvs) hp h2
    exact ⟨_, h1, fun F' e h => .ins h q1 (q2.mono e)⟩
  | dead => cases hx
theorem frozen_live {co : CO} {x : D} (h : frozen co = some x) : live co := by
  cases co <;> first | trivial | cases h
theorem thaw_rep {n : Nat} {x : D} {a : Addr} {av : AV} {v : V} (ha : as[n]? = some a) (r : Rep b.K F (.ref a) x) (h : AVRep b.K F as v av) : AVRep b.K F as v (thaw n x av) := by
  cases av with
  | un => exact h
  | d y => exact h
  | c j =>
    show AVRep b.K F as v (if j = n then .d x else .c j)
    obtain ⟨c, hc, rfl⟩ := h
    by_cases hj : j = n
    · subst hj
      rw [if_pos rfl]
      rw [ha] at hc
      obtain rfl := Option.some.inj hc
      exact r
    · rw [if_neg hj]
      exact ⟨c, hc, rfl⟩
theorem thaw_reps {n : Nat} {x : D} {a : Addr} (ha : as[n]? = some a) (r : Rep b.K F (.ref a) x) : ∀ {vs : List V} {avs : List AV}, AVReps b.K F as vs avs → AVReps b.K F as vs (avs.map (thaw n x))
  | _, _, .nil => .nil
  | _, _, .cons h t => .cons (thaw_rep ha r h) (thaw_reps ha r t)
theorem thaw_crep {n : Nat} {x : D} {a c : Addr} {co : CO} (ha : as[n]? = some a) (r : Rep b.K F (.ref a) x) (h : CRep b.K F as H c co) : CRep b.K F as H c (thawC n x co) := by
  cases co with
  | lst l => exact h
  | dK l => exact h
  | dT l => exact h
  | deck => exact h
  | dead => exact h
  | ins C fs =>
    obtain ⟨dx, fvs, h1, h2, h3⟩ := h
    refine ⟨dx, fvs, h1, ?_, ?_⟩
    · rw [List.map_map]
      exact h2
    · rw [List.map_map]
      have := thaw_reps ha r h3
      rw [List.map_map] at this
      exact this
theorem live_thaw {n : Nat} {x : D} {co : CO} (h : live (thawC n x co)) : live co := by cases co <;> exact h
def S.fr (s : S) (n : Nat) (x : D) : S := ⟨s.env.map (thaw n x), (s.cs.set n .dead).map (thawC n x)⟩
theorem G.fr {n : Nat} {co : CO} {x : D} (g : G b F as s σ H) (h : s.cs[n]? = some co) (hx : frozen co = some x) :
    ∃ F', G b F' as (s.fr n x) σ H ∧ Ex F F' ∧ ∀ a, as[n]? = some a → Rep b.K F' (.ref a) x := by
  obtain ⟨a, ha⟩ := g.gm.adr h
  have lv := frozen_live hx
  obtain ⟨y1, y2, y3⟩ := g.gm.cell n a co ha h lv
  obtain ⟨o, ho, hr⟩ := crep_frozen y3 hx
  obtain ⟨m, e⟩ := g.gm.fr ha h lv ho
  have rep := hr _ e upd_same
  refine ⟨_, ⟨⟨m.fh, m.bh, m.nw, ?_, m.nd, m.ha, fun i c d e1 e2 e3 => ?_⟩, g.pr, g.e0.trans e, ?_, fun i av hi => ?_⟩, e, fun c hb => ?_⟩
  · show as.length = ((s.cs.set n .dead).map _).length
    rw [List.length_map]
    exact m.len
  · have e2 : ((s.cs.set n .dead).map (thawC n x))[i]? = some d := e2
    rw [List.getElem?_map] at e2
    obtain ⟨d0, e4, rfl⟩ := Option.map_eq_some_iff.mp e2
    obtain ⟨x1, x2, x3⟩ := m.cell i c d0 e1 e4 (live_thaw e3)
    exact ⟨x1, x2, thaw_crep ha rep x3⟩
  · show σ.length = (s.env.map _).length
    rw [List.length_map]
    exact g.len
  · have hi : (s.env.map (thaw n x))[i]? = some av := hi
    rw [List.getElem?_map] at hi
    obtain ⟨av0, q, rfl⟩ := Option.map_eq_some_iff.mp hi
    obtain ⟨oo, h1, h2⟩ := g.sl i av0 q
    refine ⟨oo, h1, ?_⟩
    cases av0 with
    | un => trivial
    | d y => exact h2.mono e (.refl as)
    | c j =>
      obtain ⟨v, rfl, hv⟩ := h2
      exact .some (thaw_rep ha rep (hv.mono e (.refl as)))
  · rw [ha] at hb
    obtain rfl := Option.some.inj hb
    exact rep
/-- ahead of a statement a cell is frozen -/
theorem ws_fr {t : TS} {A : AE} (n : Nat) {co : CO} {x : D} (h : s.cs[n]? = some co) (hx : frozen co = some x) (hw : WS b t (s.fr n x) A) : WS b t s A := fun F as σ H E g ok => by
  obtain ⟨F', g', e, _⟩ := g.fr h hx
  exact hw F' as σ H E g' (ok.mono e)
/-- .. and ahead of an expression -/
theorem we_fr {te : TE} {k : AV → S → Prop} (n : Nat) {co : CO} {x : D} (h : s.cs[n]? = some co) (hx : frozen co = some x) (hw : WE b te (s.fr n x) k) : WE b te s k := fun F as σ H g Q q => by
  obtain ⟨F', g', e, _⟩ := g.fr h hx
  exact hw F' as σ H g' Q fun v av s1 F1 as1 H1 h1 g1 e1 p1 r1 => q v av s1 F1 as1 H1 h1 g1 (e.trans e1) p1 r1
/-- a value that is a new cell is frozen behind its making -/
theorem we_frz {te : TE} {k : AV → S → Prop} (hw : WE b te s fun av s1 => ∃ n co x, av = .c n ∧ s1.cs[n]? = some co ∧ frozen co = some x ∧ k (.d x) (s1.fr n x)) : WE b te s k := fun F as σ H g Q q =>
  hw F as σ H g Q fun v av s1 F1 as1 H1 h1 g1 e1 p1 r1 => by
    obtain ⟨n, co, x, rfl, hc, hx, hk⟩ := h1
    obtain ⟨F', g', e, rep⟩ := g1.fr hc hx
    obtain ⟨a, ha, rfl⟩ := r1
    exact q (.ref a) _ _ F' as1 H1 hk g' (e1.trans e) p1 (rep a ha)
/-- the last cell, that nobody names, is dropped -/
theorem G.pop {env : List AV} {cs : List CO} {co : CO} (g : G b F as ⟨env, cs ++ [co]⟩ σ H) (h0 : b.a0.length ≤ cs.length) (hn : ∀ av ∈ env, av ≠ .c cs.length) (hr : ∀ c ∈ cs, noRef cs.length c) : ∃ as0, G b F as0 ⟨env, cs⟩ σ H := by
  have hl : as.length = (cs ++ [co]).length := g.gm.len
  rw [List.length_append] at hl
  have h1 : as ≠ [] := fun z => by
    rw [z] at hl
    simp at hl
  have e : as = as.dropLast ++ [as.getLast h1] := (List.dropLast_concat_getLast h1).symm
  generalize as.dropLast = a0 at e
  generalize as.getLast h1 = a1 at e
  subst e
  have l0 : a0.length = cs.length := by
    rw [List.length_append] at hl
    simpa using hl
  have lift : ∀ {i : Nat} {c : Addr}, a0[i]? = some c → (a0 ++ [a1])[i]? = some c := fun {i c} h => (Pre.snoc a0 a1).get h
  have liftc : ∀ {i : Nat} {c : CO}, cs[i]? = some c → (cs ++ [co])[i]? = some c := fun {i c} h => by
    rw [List.getElem?_append_left (lt_of_get h)]
    exact h
  have hp : Pre b.a0 a0 := by
    obtain ⟨zs, hz⟩ := g.pr
    refine ⟨a0.drop b.a0.length, ?_⟩
    have : (a0 ++ [a1]).take b.a0.length = b.a0 := by rw [hz, List.take_left]
    rw [List.take_append_of_le_length (by omega)] at this
    rw [← this, List.length_take, Nat.min_eq_left (by omega), List.take_append_drop]
  refine ⟨a0, ⟨⟨g.gm.fh, g.gm.bh, g.gm.nw, l0, (List.nodup_append.mp g.gm.nd).1, fun i c h => g.gm.ha i c (lift h), fun i c d e1 e2 e3 => ?_⟩, hp, g.e0, g.len, fun i av h => ?_⟩⟩
  · obtain ⟨x1, x2, x3⟩ := g.gm.cell i c d (lift e1) (liftc e2) e3
    exact ⟨x1, x2, x3.cut (by rw [l0]; exact hr d (List.mem_of_getElem? e2))⟩
  · obtain ⟨o, h2, h3⟩ := g.sl i av h
    refine ⟨o, h2, ?_⟩
    cases av with
    | un => trivial
    | d x => exact h3
    | c n =>
      obtain ⟨v, rfl, c, hc, rfl⟩ := h3
      rcases snoc_get hc with q | ⟨q, _⟩
      · exact ⟨_, rfl, c, q, rfl⟩
      · exact absurd (by rw [q, l0]) (hn _ (List.mem_of_getElem? h))
end
end KW

-- Rules of operators, lists, tuples, dicts, calls over the abstract store.
namespace KW
open PySem PySem.Spec L2

section
variable {b : Bx} {F F' H H' : Hp} {as as' : List Addr} {s s' : S} {σ σ' : L2.St} {k : AV → S → Prop}

-- ### operators
theorem ro_ii {g : Int → Int → Int} {i j : Int} (hk : k (.d (.int (g i j))) s) : RO b (rI0 fun i j => .int (g i j)) (.d (.int i)) (.d (.int j)) s k := fun F as σ H v w gg r1 r2 Q q =>
  ⟨i, j, Rep.int_inv r1, Rep.int_inv r2, q _ _ s F as H hk gg (.refl F) (.refl as) (Rep.int _)⟩
theorem ro_ib {g : Int → Int → Bool} {i j : Int} (hk : k (.d (.bl (g i j))) s) : RO b (rI0 fun i j => .bl (g i j)) (.d (.int i)) (.d (.int j)) s k := fun F as σ H v w gg r1 r2 Q q =>
  ⟨i, j, Rep.int_inv r1, Rep.int_inv r2, q _ _ s F as H hk gg (.refl F) (.refl as) (Rep.bl _)⟩
theorem ro_iC {C : Int → Int → Prop} {g : Int → Int → Int} {i j : Int} (hc : C i j) (hk : k (.d (.int (g i j))) s) : RO b (rI C fun i j => .int (g i j)) (.d (.int i)) (.d (.int j)) s k := fun F as σ H v w gg r1 r2 Q q =>
  ⟨i, j, Rep.int_inv r1, Rep.int_inv r2, hc, q _ _ s F as H hk gg (.refl F) (.refl as) (Rep.int _)⟩
theorem ru_i {g : Int → Int} {i : Int} (hk : k (.d (.int (g i))) s) : RU b (rU fun i => .int (g i)) (.d (.int i)) s k := fun F as σ H v gg r1 Q q =>
  ⟨i, Rep.int_inv r1, q _ _ s F as H hk gg (.refl F) (.refl as) (Rep.int _)⟩
theorem ro_eqi {i j : Int} (hk : k (.d (.bl (decide (i = j)))) s) : RO b rEq (.d (.int i)) (.d (.int j)) s k := fun F as σ H v w gg r1 r2 Q q => by
  obtain rfl := Rep.int_inv r1
  obtain rfl := Rep.int_inv r2
  refine ⟨rfl, ?_⟩
  rw [show decide (V.int i = V.int j) = decide (i = j) by simp]
  exact q _ _ s F as H hk gg (.refl F) (.refl as) (Rep.bl _)
theorem ro_nei {i j : Int} (hk : k (.d (.bl (!decide (i = j)))) s) : RO b rNe (.d (.int i)) (.d (.int j)) s k := fun F as σ H v w gg r1 r2 Q q => by
  obtain rfl := Rep.int_inv r1
  obtain rfl := Rep.int_inv r2
  refine ⟨rfl, ?_⟩
  rw [show decide (V.int i = V.int j) = decide (i = j) by simp]
  exact q _ _ s F as H hk gg (.refl F) (.refl as) (Rep.bl _)
theorem ro_eqs {i j : Str} (hk : k (.d (.bl (decide (i = j)))) s) : RO b rEq (.d (.str i)) (.d (.str j)) s k := fun F as σ H v w gg r1 r2 Q q => by
  obtain rfl := Rep.str_inv r1
  obtain rfl := Rep.str_inv r2
  refine ⟨rfl, ?_⟩
  rw [show decide (V.str i = V.str j) = decide (i = j) by simp]
  exact q _ _ s F as H hk gg (.refl F) (.refl as) (Rep.bl _)
theorem ro_nes {i j : Str} (hk : k (.d (.bl (!decide (i = j)))) s) : RO b rNe (.d (.str i)) (.d (.str j)) s k := fun F as σ H v w gg r1 r2 Q q => by
  obtain rfl := Rep.str_inv r1
  obtain rfl := Rep.str_inv r2
  refine ⟨rfl, ?_⟩
  rw [show decide (V.str i = V.str j) = decide (i = j) by simp]
  exact q _ _ s F as H hk gg (.refl F) (.refl as) (Rep.bl _)
theorem ro_eqb {i j : Bool} (hk : k (.d (.bl (decide (i = j)))) s) : RO b rEq (.d (.bl i)) (.d (.bl j)) s k := fun F as σ H v w gg r1 r2 Q q => by
  obtain rfl := Rep.bl_inv r1
  obtain rfl := Rep.bl_inv r2
  refine ⟨rfl, ?_⟩
  rw [show decide (V.bl i = V.bl j) = decide (i = j) by simp]
  exact q _ _ s F as H hk gg (.refl F) (.refl as) (Rep.bl _)
theorem ro_neb {i j : Bool} (hk : k (.d (.bl (!decide (i = j)))) s) : RO b rNe (.d (.bl i)) (.d (.bl j)) s k := fun F as σ H v w gg r1 r2 Q q => by
  obtain rfl := Rep.bl_inv r1
  obtain rfl := Rep.bl_inv r2
  refine ⟨rfl, ?_⟩
  rw [show decide (V.bl i = V.bl j) = decide (i = j) by simp]
  exact q _ _ s F as H hk gg (.refl F) (.refl as) (Rep.bl _)
/-- a datum is None -/
def isNon : D → Bool
  | .non => true
  | _ => false
theorem rep_non {K : PySem.W.Frag} {F : Hp} {v : V} {d : D} (r : Rep K F v d) : decide (v = .non) = isNon d := by
  cases r <;> first | rfl | exact decide_eq_false (fun z => nomatch z)
theorem ro_isN {d : D} (hk : k (.d (.bl (isNon d))) s) : RO b (fun x y H Q => y = .non ∧ Q (.bl (decide (x = .non))) H) (.d d) (.d .non) s k := fun F as σ H v w gg r1 r2 Q q => by
  refine ⟨Rep.non_inv r2, ?_⟩
  rw [rep_non r1]
  exact q _ _ s F as H hk gg (.refl F) (.refl as) (Rep.bl _)
theorem ro_notN {d : D} (hk : k (.d (.bl (!isNon d))) s) : RO b (fun x y H Q => y = .non ∧ Q (.bl (!decide (x = .non))) H) (.d d) (.d .non) s k := fun F as σ H v w gg r1 r2 Q q => by
  refine ⟨Rep.non_inv r2, ?_⟩
  rw [rep_non r1]
  exact q _ _ s F as H hk gg (.refl F) (.refl as) (Rep.bl _)

-- ### items
theorem Reps.atI {K : PySem.W.Frag} {F : Hp} {vs : List V} {ds : List D} {i : Int} {d : D} (r : Reps K F vs ds) (h : L2.atI ds i = some d) : ∃ v, L2.atI vs i = some v ∧ Rep K F v d := by
  unfold L2.atI at h ⊢
  rw [r.length]
  cases q : ixN ds.length i with
  | none =>
    rw [q] at h
    cases h
  | some j =>
    rw [q] at h
    exact r.get h
theorem ro_ixT {ds : List D} {i : Int} {d : D} (h : L2.atI ds i = some d) (hk : k (.d d) s) : RO b (rIxT b.K) (.d (.tup ds)) (.d (.int i)) s k := fun F as σ H v w gg r1 r2 Q q => by
  obtain ⟨a, xs, rfl, h1, h2⟩ := Rep.tup_inv r1
  obtain ⟨z, h3, h4⟩ := h2.atI h
  exact ⟨a, xs, i, z, rfl, Rep.int_inv r2, (.inl (.inl (gg.gm.fh _ _ h1))), h3, q _ _ s F as H hk gg (.refl F) (.refl as) h4⟩
theorem ro_ixL {ds : List D} {i : Int} {d : D} (h : L2.atI ds i = some d) (hk : k (.d d) s) : RO b (rIxL b.K) (.d (.lst ds)) (.d (.int i)) s k := fun F as σ H v w gg r1 r2 Q q => by
  obtain ⟨a, xs, rfl, h1, h2⟩ := Rep.lst_inv r1
  obtain ⟨z, h3, h4⟩ := h2.atI h
  exact ⟨a, xs, i, z, rfl, Rep.int_inv r2, .inl (.inl (gg.gm.fh _ _ h1)), h3, q _ _ s F as H hk gg (.refl F) (.refl as) h4⟩
/-- what a list's cell is in the heap -/
theorem G.lst {n : Nat} {ds : List D} {v : V} (g : G b F as s σ H) (h : s.cs[n]? = some (.lst ds)) (r : AVRep b.K F as v (.c n)) : ∃ a vs, v = .ref a ∧ as[n]? = some a ∧ H a = some (.lst vs) ∧ Reps b.K F vs ds ∧ F a = none := by
  obtain ⟨a, ha, rfl⟩ := r
  obtain ⟨x1, x2, vs, h1, h2⟩ := g.gm.cell n a _ ha h trivial
  exact ⟨a, vs, rfl, ha, h1, h2, x1⟩
theorem G.dict {n : Nat} {kds : List (Key × D)} {v : V} (g : G b F as s σ H) (h : s.cs[n]? = some (.dK kds)) (r : AVRep b.K F as v (.c n)) :
    ∃ a kvs, v = .ref a ∧ as[n]? = some a ∧ H a = some (.dK kvs) ∧ DReps b.K F kvs kds := by
  obtain ⟨a, ha, rfl⟩ := r
  obtain ⟨x1, x2, kvs, h1, h2⟩ := g.gm.cell n a _ ha h trivial
  exact ⟨a, kvs, rfl, ha, h1, h2⟩
theorem G.dictT {n : Nat} {kds : List (List Key × D)} {v : V} (g : G b F as s σ H) (h : s.cs[n]? = some (.dT kds)) (r : AVRep b.K F as v (.c n)) :
    ∃ a kvs, v = .ref a ∧ as[n]? = some a ∧ H a = some (.dT kvs) ∧ DReps b.K F kvs kds := by
  obtain ⟨a, ha, rfl⟩ := r
  obtain ⟨x1, x2, kvs, h1, h2⟩ := g.gm.cell n a _ ha h trivial
  exact ⟨a, kvs, rfl, ha, h1, h2⟩
theorem G.inst {n : Nat} {C : Addr} {fs : List (Str × AV)} {v : V} (g : G b F as s σ H) (h : s.cs[n]? = some (.ins C fs)) (r : AVRep b.K F as v (.c n)) :
    ∃ a dx fvs, v = .ref a ∧ as[n]? = some a ∧ H a = some (.ins C dx fvs) ∧ FReps b.K F as fvs fs := by
  obtain ⟨a, ha, rfl⟩ := r
  obtain ⟨x1, x2, dx, fvs, h1, h2⟩ := g.gm.cell n a _ ha h trivial
  exact ⟨a, dx, fvs, rfl, ha, h1, h2⟩
/-- the state behind a change of a cell -/
theorem G.put {n : Nat} {a : Addr} {co co' : CO} {o : HO} (g : G b F as s σ H) (ha : as[n]? = some a) (h : s.cs[n]? = some co) (lv : live co) (hc : CRep b.K F as (upd H a o) a co') : G b F as (s.put n co') σ (upd H a o) :=
  g.of (g.gm.put ha h lv hc) (.refl F) (.refl as) rfl
theorem ro_ixLc {n : Nat} {ds : List D} {i : Int} {d : D} (hc : s.cs[n]? = some (.lst ds)) (h : L2.atI ds i = some d) (hk : k (.d d) s) : RO b (rIxL b.K) (.c n) (.d (.int i)) s k := fun F as σ H v w gg r1 r2 Q q => by
  obtain ⟨a, vs, rfl, ha, h1, h2, _⟩ := gg.lst hc r1
  obtain ⟨z, h3, h4⟩ := h2.atI h
  exact ⟨a, vs, i, z, rfl, Rep.int_inv r2, .inl (.inl h1), h3, q _ _ s F as H hk gg (.refl F) (.refl as) h4⟩
theorem ro_ixS {z : Str} {i : Int} {c : Nat} (hl : z.length ≤ sizeLine) (h : L2.atI z.cps.toList i = some c) (hk : k (.d (.str ⟨#[c]⟩)) s) : RO b rIxS (.d (.str z)) (.d (.int i)) s k := fun F as σ H v w gg r1 r2 Q q =>
  ⟨z, i, c, Rep.str_inv r1, Rep.int_inv r2, hl, h, q _ _ s F as H hk gg (.refl F) (.refl as) (Rep.str _)⟩
/-- o[i] = v, o a list's cell -/
theorem wg_setL {to ti : TE} {x : AV} {kk : S → Prop} (h : WE b to s fun o s1 => WE b ti s1 fun i s2 => ∃ n ds z j d, o = .c n ∧ i = .d (.int z) ∧ x = .d d ∧ s2.cs[n]? = some (.lst ds) ∧ ixN ds.length z = some j ∧ kk (s2.put n (.lst (ds.set j d)))) : WG b (gSub to ti rSetL) x s kk := fun F as σ H v g r Q q =>
  h F as σ H g _ fun vo o s1 F1 as1 H1 h1 g1 e1 p1 r1 => h1 F1 as1 σ H1 g1 _ fun vi i s2 F2 as2 H2 h2 g2 e2 p2 r2 => by
    obtain ⟨n, ds, z, j, d, rfl, rfl, rfl, hc, hj, hk⟩ := h2
    obtain ⟨a, vs, rfl, ha, h3, h4, _⟩ := g2.lst hc (r1.mono e2 p2)
    have rd : Rep b.K F2 v d := Rep.mono (e1.trans e2) r
    refine ⟨a, vs, z, j, rfl, Rep.int_inv r2, h3, by rw [h4.length]; exact hj, ?_⟩
    exact q _ F2 as2 σ _ hk (g2.put ha hc trivial ⟨_, upd_same, h4.set rd j⟩) (e1.trans e2) (p1.trans p2)

-- ### methods of lists
theorem we_bm {T : String} {r : V → List V → Hp → VK → Prop} {to : TE} {ta : TA} (h : WE b to s fun x s1 => (∀ F as σ H v, G b F as s1 σ H → AVRep b.K F as v x → tyV b.K T v H) ∧ WA b ta s1 fun xs s2 => RM b r x xs s2 k) : WE b (tBM b.K T r to ta) s k := fun F as σ H g Q q =>
  h F as σ H g _ fun v x s1 F1 as1 H1 h1 g1 e1 p1 r1 => ⟨h1.1 F1 as1 σ H1 v g1 r1, h1.2 F1 as1 σ H1 g1 _ fun vs xs s2 F2 as2 H2 h2 g2 e2 p2 r2 =>
    h2 F2 as2 σ H2 v vs g2 (r1.mono e2 p2) r2 Q fun z av s3 F3 as3 H3 h3 g3 e3 p3 r3 => q z av s3 F3 as3 H3 h3 g3 ((e1.trans e2).trans e3) ((p1.trans p2).trans p3) r3⟩
theorem we_bm0 {T : String} {r : V → List V → Hp → VK → Prop} {to : TE} (h : WE b to s fun x s1 => (∀ F as σ H v, G b F as s1 σ H → AVRep b.K F as v x → tyV b.K T v H) ∧ RM b r x [] s1 k) : WE b (tBM0 b.K T r to) s k := fun F as σ H g Q q =>
  h F as σ H g _ fun v x s1 F1 as1 H1 h1 g1 e1 p1 r1 => ⟨h1.1 F1 as1 σ H1 v g1 r1,
    h1.2 F1 as1 σ H1 v [] g1 r1 .nil Q fun z av s3 F3 as3 H3 h3 g3 e3 p3 r3 => q z av s3 F3 as3 H3 h3 g3 (e1.trans e3) (p1.trans p3) r3⟩
theorem ty_lc {n : Nat} {ds : List D} (hc : s.cs[n]? = some (.lst ds)) : ∀ F as σ H v, G b F as s σ H → AVRep b.K F as v (.c n) → tyV b.K "list" v H := fun F as σ H v g r => by
  obtain ⟨a, vs, rfl, ha, h1, h2, _⟩ := g.lst hc r
  exact .inl ⟨rfl, _, .inl (.inl h1)⟩
theorem ty_l {ds : List D} : ∀ F as σ H v, G b F as s σ H → AVRep b.K F as v (.d (.lst ds)) → tyV b.K "list" v H := fun F as σ H v g r => by
  obtain ⟨a, vs, rfl, h1, h2⟩ := Rep.lst_inv r
  exact .inl ⟨rfl, _, .inl (.inl (g.gm.fh _ _ h1))⟩
theorem ty_s {z : Str} : ∀ F as σ H v, G b F as s σ H → AVRep b.K F as v (.d (.str z)) → tyV b.K "str" v H := fun F as σ H v g r => by
  obtain rfl := Rep.str_inv r
  exact rfl
theorem rm_append {n : Nat} {ds : List D} {d : D} (hc : s.cs[n]? = some (.lst ds)) (hl : ds.length < sizeLine) (hk : k (.d .non) (s.put n (.lst (ds ++ [d])))) : RM b rAppend (.c n) [.d d] s k := fun F as σ H v vs g r rs Q q => by
  obtain ⟨a, xs, rfl, ha, h1, h2, _⟩ := g.lst hc r
  cases rs with
  | cons r1 r2 =>
    cases r2
    refine ⟨a, xs, _, rfl, rfl, h1, by rw [h2.length]; exact hl, ?_⟩
    exact q _ _ _ F as _ hk (g.put ha hc trivial ⟨_, upd_same, h2.append (.one r1)⟩) (.refl F) (.refl as) Rep.non
theorem rm_pop {n : Nat} {ds : List D} {d : D} (hc : s.cs[n]? = some (.lst ds)) (hd : ds.getLast? = some d) (hk : k (.d d) (s.put n (.lst ds.dropLast))) : RM b rPop (.c n) [] s k := fun F as σ H v vs g r rs Q q => by
  obtain ⟨a, xs, rfl, ha, h1, h2, _⟩ := g.lst hc r
  cases rs
  rw [List.getLast?_eq_getElem?] at hd
  obtain ⟨z, h3, h4⟩ := h2.get hd
  refine ⟨a, xs, z, rfl, rfl, h1, by rw [h2.length]; exact h3, ?_⟩
  exact q _ _ _ F as _ hk (g.put ha hc trivial ⟨_, upd_same, h2.dropLast⟩) (.refl F) (.refl as) h4
theorem rm_popAt {n : Nat} {ds : List D} {i : Int} {j : Nat} {d : D} (hc : s.cs[n]? = some (.lst ds)) (h0 : -(2 ^ 63) ≤ i) (h1 : i < 2 ^ 63) (hi : seqIndex? i ds.length = some j) (hd : ds[j]? = some d) (hk : k (.d d) (s.put n (.lst (ds.eraseIdx j)))) : RM b rPopAt (.c n) [.d (.int i)] s k := fun F as σ H v vs g r rs Q q => by
  obtain ⟨a, xs, rfl, ha, h2, h3, _⟩ := g.lst hc r
  cases rs with
  | cons r1 r2 =>
    cases r2
    obtain ⟨z, h4, h5⟩ := h3.get hd
    obtain rfl := Rep.int_inv r1
    refine ⟨a, xs, i, j, z, rfl, rfl, h2, h0, h1, by rw [h3.length]; exact hi, h4, ?_⟩
    exact q _ _ _ F as _ hk (g.put ha hc trivial ⟨_, upd_same, h3.eraseIdx j⟩) (.refl F) (.refl as) h5
theorem rm_reverse {n : Nat} {ds : List D} (hc : s.cs[n]? = some (.lst ds)) (hk : k (.d .non) (s.put n (.lst ds.reverse))) : RM b rReverse (.c n) [] s k := fun F as σ H v vs g r rs Q q => by
  obtain ⟨a, xs, rfl, ha, h1, h2, _⟩ := g.lst hc r
  cases rs
  exact ⟨a, xs, rfl, rfl, h1, q _ _ _ F as _ hk (g.put ha hc trivial ⟨_, upd_same, h2.reverse⟩) (.refl F) (.refl as) Rep.non⟩
theorem rm_extend {n : Nat} {ds es : List D} (hc : s.cs[n]? = some (.lst ds)) (hl : ds.length + es.length ≤ sizeLine) (hk : k (.d .non) (s.put n (.lst (ds ++ es)))) : RM b rExtend (.c n) [.d (.lst es)] s k := fun F as σ H v vs g r rs Q q => by
  obtain ⟨a, xs, rfl, ha, h1, h2, hf⟩ := g.lst hc r
  cases rs with
  | cons r1 r2 =>
    cases r2
    obtain ⟨c, ys, rfl, h3, h4⟩ := Rep.lst_inv r1
    refine ⟨a, c, xs, ys, rfl, rfl, h1, g.gm.fh _ _ h3, by rw [h2.length, h4.length]; exact hl, ?_⟩
    exact q _ _ _ F as _ hk (g.put ha hc trivial ⟨_, upd_same, h2.append h4⟩) (.refl F) (.refl as) Rep.non

-- ### a new frozen object out of an operation
theorem fz_lst {p : Addr} {vs : List V} {ds : List D} (g : G b F as s σ H) (hp : H p = none) (r : Reps b.K F vs ds) :
    G b (upd F p (.lst vs)) as s σ (upd H p (.lst vs)) ∧ Ex F (upd F p (.lst vs)) ∧ Rep b.K (upd F p (.lst vs)) (.ref p) (.lst ds) := by
  obtain ⟨m, e⟩ := g.gm.fz (o := .lst vs) hp
  exact ⟨g.of m e (.refl as) rfl, e, .lst upd_same (r.mono e)⟩
theorem fz_tup {p : Addr} {vs : List V} {ds : List D} (g : G b F as s σ H) (hp : H p = none) (r : Reps b.K F vs ds) :
    G b (upd F p (.tup vs)) as s σ (upd H p (.tup vs)) ∧ Ex F (upd F p (.tup vs)) ∧ Rep b.K (upd F p (.tup vs)) (.ref p) (.tup ds) := by
  obtain ⟨m, e⟩ := g.gm.fz (o := .tup vs) hp
  exact ⟨g.of m e (.refl as) rfl, e, .tup upd_same (r.mono e)⟩
theorem nc_lst {p : Addr} {vs : List V} {ds : List D} (g : G b F as s σ H) (hp : H p = none) (r : Reps b.K F vs ds) :
    G b F (as ++ [p]) (s.new (.lst ds)) σ (upd H p (.lst vs)) ∧ AVRep b.K F (as ++ [p]) (.ref p) (.c s.cs.length) := by
  have m := g.gm.nc (o := .lst vs) (co := .lst ds) hp ⟨vs, upd_same, r⟩
  exact ⟨g.of m (.refl F) (.snoc as p) rfl, p, by rw [← g.gm.len, List.getElem?_append_right (Nat.le_refl _), Nat.sub_self] <;> rfl, rfl⟩
theorem ro_cat {ds es : List D} (hl : ds.length + es.length ≤ sizeLine) (hk : k (.d (.lst (ds ++ es))) s) : RO b rCat (.d (.lst ds)) (.d (.lst es)) s k := fun F as σ H v w g r1 r2 Q q => by
  obtain ⟨a, xs, rfl, h1, h2⟩ := Rep.lst_inv r1
  obtain ⟨c, ys, rfl, h3, h4⟩ := Rep.lst_inv r2
  refine ⟨a, c, xs, ys, rfl, rfl, g.gm.fh _ _ h1, g.gm.fh _ _ h3, by rw [h2.length, h4.length]; exact hl, fun p hp => ?_⟩
  obtain ⟨g', e, r⟩ := fz_lst g hp (h2.append h4)
  exact q _ _ _ _ _ _ hk g' e (.refl as) r
/-- [x] * k as a cell -/
theorem ro_repc {ds : List D} {i : Int} (h0 : -(2 ^ 63) ≤ i) (h1 : i < 2 ^ 63) (hl : ds.length * i.toNat ≤ sizeLine) (hk : k (.c s.cs.length) (s.new (.lst (List.replicate i.toNat ds).flatten))) : RO b rRep (.d (.lst ds)) (.d (.int i)) s k := fun F as σ H v w g r1 r2 Q q => by
  obtain ⟨a, xs, rfl, h2, h3⟩ := Rep.lst_inv r1
  obtain rfl := Rep.int_inv r2
  refine ⟨a, i, xs, rfl, rfl, g.gm.fh _ _ h2, h0, h1, by rw [h3.length]; exact hl, fun p hp => ?_⟩
  have rr : ∀ n, Reps b.K F (List.replicate n xs).flatten (List.replicate n ds).flatten := fun n => by
    induction n with
    | zero => exact .nil
    | succ n ih =>
      rw [List.replicate_succ, List.replicate_succ, List.flatten_cons, List.flatten_cons]
      exact h3.append ih
  obtain ⟨g', r⟩ := nc_lst g hp (rr i.toNat)
  exact q _ _ _ _ _ _ hk g' (.refl F) (.snoc as p) r

-- ### len, tuple, list, sorted
theorem rc_lenL {ds : List D} (hk : k (.d (.int ds.length)) s) : RC b (fun xs H Q => ∃ x n, xs = [x] ∧ LenV b.K x H n ∧ Q (.int n) H) [.d (.lst ds)] s k := fun F as σ H vs g r Q q => by
  cases r with
  | cons r1 r2 =>
    cases r2
    obtain ⟨a, xs, rfl, h1, h2⟩ := Rep.lst_inv r1
    exact ⟨_, _, rfl, .inl ⟨xs, .inl (.inl (g.gm.fh _ _ h1)), rfl⟩, by rw [h2.length]; exact q _ _ s F as H hk g (.refl F) (.refl as) (Rep.int _)⟩
theorem rc_lenT {ds : List D} (hk : k (.d (.int ds.length)) s) : RC b (fun xs H Q => ∃ x n, xs = [x] ∧ LenV b.K x H n ∧ Q (.int n) H) [.d (.tup ds)] s k := fun F as σ H vs g r Q q => by
  cases r with
  | cons r1 r2 =>
    cases r2
    obtain ⟨a, xs, rfl, h1, h2⟩ := Rep.tup_inv r1
    exact ⟨_, _, rfl, .inr ⟨xs, (.inl (.inl (g.gm.fh _ _ h1))), rfl⟩, by rw [h2.length]; exact q _ _ s F as H hk g (.refl F) (.refl as) (Rep.int _)⟩
theorem rc_lenS {z : Str} (hl : z.length ≤ sizeLine) (hk : k (.d (.int z.length)) s) : RC b (fun xs H Q => ∃ x n, xs = [x] ∧ LenV b.K x H n ∧ Q (.int n) H) [.d (.str z)] s k := fun F as σ H vs g r Q q => by
  cases r with
  | cons r1 r2 =>
    cases r2
    obtain rfl := Rep.str_inv r1
    exact ⟨_, _, rfl, ⟨hl, rfl⟩, q _ _ s F as H hk g (.refl F) (.refl as) (Rep.int _)⟩
theorem rc_lenC {n : Nat} {ds : List D} (hc : s.cs[n]? = some (.lst ds)) (hk : k (.d (.int ds.length)) s) : RC b (fun xs H Q => ∃ x n, xs = [x] ∧ LenV b.K x H n ∧ Q (.int n) H) [.c n] s k := fun F as σ H vs g r Q q => by
  cases r with
  | cons r1 r2 =>
    cases r2
    obtain ⟨a, xs, rfl, ha, h1, h2, _⟩ := g.lst hc r1
    exact ⟨_, _, rfl, .inl ⟨xs, .inl (.inl h1), rfl⟩, by rw [h2.length]; exact q _ _ s F as H hk g (.refl F) (.refl as) (Rep.int _)⟩
theorem we_thenTup {ta : TE} (h : WE b ta s fun x s1 => ∃ ds, (x = .d (.lst ds) ∨ x = .d (.tup ds) ∨ ∃ n, x = .c n ∧ s1.cs[n]? = some (.lst ds)) ∧ k (.d (.tup ds)) s1) : WE b (tThen ta (kTup b.K)) s k := fun F as σ H g Q q =>
  h F as σ H g _ fun v x s1 F1 as1 H1 h1 g1 e1 p1 r1 => by
    obtain ⟨ds, hx, hk⟩ := h1
    rcases hx with rfl | rfl | ⟨n, rfl, hc⟩
    · obtain ⟨a, xs, rfl, h2, h3⟩ := Rep.lst_inv r1
      refine .inl ⟨a, xs, rfl, .inl (.inl (g1.gm.fh _ _ h2)), fun p hp => ?_⟩
      obtain ⟨g', e, r⟩ := fz_tup g1 hp h3
      exact q _ _ _ _ _ _ hk g' (e1.trans e) p1 r
    · obtain ⟨a, xs, rfl, h2, h3⟩ := Rep.tup_inv r1
      exact .inr ⟨a, xs, rfl, (.inl (.inl (g1.gm.fh _ _ h2))), q _ _ _ _ _ _ hk g1 e1 p1 (.tup h2 h3)⟩
    · obtain ⟨a, xs, rfl, ha, h2, h3, _⟩ := g1.lst hc r1
      refine .inl ⟨a, xs, rfl, .inl (.inl h2), fun p hp => ?_⟩
      obtain ⟨g', e, r⟩ := fz_tup g1 hp h3
      exact q _ _ _ _ _ _ hk g' (e1.trans e) p1 r
theorem reps_rg (K : PySem.W.Frag) (F : Hp) (x y : Int) : Reps K F (rgV x y) ((List.range (y - x).toNat).map fun i => D.int (x + (i : Nat))) := by
  unfold rgV
  generalize (List.range (y - x).toNat) = l
  induction l with
  | nil => exact .nil
  | cons i r ih => exact .cons (.int _) ih
/-- list(range(n)) as a cell, as a datum -/
theorem we_lstRg1c {ta : TE} (h : WE b ta s fun x s1 => ∃ n : Nat, x = .d (.int n) ∧ n ≤ 16777216 ∧ k (.c s1.cs.length) (s1.new (.lst ((List.range n).map fun i => D.int (i : Nat))))) : WE b (tLstRg (tRg1 ta)) s k := fun F as σ H g Q q =>
  h F as σ H g _ fun v x s1 F1 as1 H1 h1 g1 e1 p1 r1 => by
    obtain ⟨n, rfl, hn, hk⟩ := h1
    refine ⟨n, Rep.int_inv r1, RgOk.of_le (by omega) (by omega) (by omega) (by omega), fun p hp => ?_⟩
    have rr := reps_rg b.K F1 0 n
    rw [show ((n : Int) - 0).toNat = n by omega, show (fun i : Nat => D.int (0 + (i : Nat))) = fun i : Nat => D.int (i : Nat) by funext i; rw [Int.zero_add]] at rr
    obtain ⟨g', r⟩ := nc_lst g1 hp rr
    exact q _ _ _ _ _ _ hk g' e1 (p1.trans (.snoc as1 p)) r
theorem we_lstRg1 {ta : TE} (h : WE b ta s fun x s1 => ∃ n : Nat, x = .d (.int n) ∧ n ≤ 16777216 ∧ k (.d (.lst ((List.range n).map fun i => D.int (i : Nat)))) s1) : WE b (tLstRg (tRg1 ta)) s k := fun F as σ H g Q q =>
  h F as σ H g _ fun v x s1 F1 as1 H1 h1 g1 e1 p1 r1 => by
    obtain ⟨n, rfl, hn, hk⟩ := h1
    refine ⟨n, Rep.int_inv r1, RgOk.of_le (by omega) (by omega) (by omega) (by omega), fun p hp => ?_⟩
    have rr := reps_rg b.K F1 0 n
    rw [show ((n : Int) - 0).toNat = n by omega, show (fun i : Nat => D.int (0 + (i : Nat))) = fun i : Nat => D.int (i : Nat) by funext i; rw [Int.zero_add]] at rr
    obtain ⟨g', e, r⟩ := fz_lst g1 hp rr
    exact q _ _ _ _ _ _ hk g' (e1.trans e) p1 r
theorem we_tupRg1 {ta : TE} (h : WE b ta s fun x s1 => ∃ n : Nat, x = .d (.int n) ∧ n ≤ 16777216 ∧ k (.d (.tup ((List.range n).map fun i => D.int (i : Nat)))) s1) : WE b (tTupRg (tRg1 ta)) s k := fun F as σ H g Q q =>
  h F as σ H g _ fun v x s1 F1 as1 H1 h1 g1 e1 p1 r1 => by
    obtain ⟨n, rfl, hn, hk⟩ := h1
    refine ⟨n, Rep.int_inv r1, RgOk.of_le (by omega) (by omega) (by omega) (by omega), fun p hp => ?_⟩
    have rr := reps_rg b.K F1 0 n
    rw [show ((n : Int) - 0).toNat = n by omega, show (fun i : Nat => D.int (0 + (i : Nat))) = fun i : Nat => D.int (i : Nat) by funext i; rw [Int.zero_add]] at rr
    obtain ⟨g', e, r⟩ := fz_tup g1 hp rr
    exact q _ _ _ _ _ _ hk g' (e1.trans e) p1 r
end
end KW

-- Dicts, fields, loops, comprehensions, calls, errors over the abstract store.
namespace KW
open PySem PySem.Spec L2

section
variable {κ α : Type} [DecidableEq κ]
def lkD (l : List (κ × α)) (k : κ) : Option α := (l.find? fun kv => decide (kv.1 = k)).map (·.2)
def putD (l : List (κ × α)) (k : κ) (v : α) : List (κ × α) :=
  if (l.any fun kv => decide (kv.1 = k)) = true then l.map (fun kv => if kv.1 = k then (kv.1, v) else kv) else l ++ [(k, v)]
theorem lkD_nil (k : κ) : lkD ([] : List (κ × α)) k = none := rfl
theorem lkD_cons (p : κ × α) (l : List (κ × α)) (k : κ) : lkD (p :: l) k = if p.1 = k then some p.2 else lkD l k := by
  unfold lkD
  rw [List.find?_cons]
  by_cases h : p.1 = k
  · rw [if_pos h, decide_eq_true h]
    rfl
  · rw [if_neg h, decide_eq_false h]
theorem lkD_append (l m : List (κ × α)) (k : κ) : lkD (l ++ m) k = (lkD l k).or (lkD m k) := by
  induction l with
  | nil => rfl
  | cons p l ih =>
    rw [List.cons_append, lkD_cons, lkD_cons, ih]
    by_cases h : p.1 = k
    · rw [if_pos h, if_pos h]
      rfl
    · rw [if_neg h, if_neg h]
theorem any_lkD (l : List (κ × α)) (k : κ) : (l.any fun kv => decide (kv.1 = k)) = (lkD l k).isSome := by
  induction l with
  | nil => rfl
  | cons p l ih =>
    rw [List.any_cons, lkD_cons, ih]
    by_cases h : p.1 = k
    · rw [if_pos h, decide_eq_true h]
      rfl
    · rw [if_neg h, decide_eq_false h, Bool.false_or]
theorem lkD_putD (l : List (κ × α)) (k k' : κ) (v : α) : lkD (putD l k v) k' = if k = k' then some v else lkD l k' := by
  unfold putD
  by_cases h : (l.any fun kv => decide (kv.1 = k)) = true
  · rw [if_pos h]
    rw [any_lkD] at h
    have : ∀ l : List (κ × α), lkD (l.map fun kv => if kv.1 = k then (kv.1, v) else kv) k' = if k = k' then (lkD l k').map fun _ => v else lkD l k' := fun l => by
      induction l with
      | nil => split <;> rfl
      | cons p l ih =>
        rw [List.map_cons, lkD_cons, lkD_cons, ih]
        by_cases h1 : p.1 = k
        · rw [if_pos h1]
          by_cases h2 : p.1 = k'
          · rw [if_pos h2, if_pos h2, if_pos (h1.symm.trans h2)]
            rfl
          · have h3 : ¬ k = k' := fun z => h2 (h1.trans z)
            rw [if_neg h2, if_neg h2, if_neg h3]
        · rw [if_neg h1]
          by_cases h2 : p.1 = k'
          · have h3 : ¬ k = k' := fun z => h1 (h2.trans z.symm)
            rw [if_pos h2, if_pos h2, if_neg h3]
          · rw [if_neg h2, if_neg h2]
    rw [this]
    by_cases h3 : k = k'
    · subst h3
      rw [if_pos rfl, if_pos rfl]
      obtain ⟨x, hx⟩ := Option.isSome_iff_exists.mp h
      rw [hx]
      rfl
    · rw [if_neg h3, if_neg h3]
  · rw [if_neg h, lkD_append, lkD_cons, lkD_nil]
    rw [any_lkD] at h
    have hn : lkD l k = none := by
      cases q : lkD l k with
      | none => rfl
      | some x => rw [q] at h; exact absurd rfl h
    by_cases h3 : k = k'
    · subst h3
      rw [if_pos rfl, if_pos rfl, hn]
      rfl
    · rw [if_neg h3, if_neg h3]
      cases lkD l k' <;> rfl
theorem putD_new {l : List (κ × α)} {k : κ} {v : α} (h : lkD l k = none) : putD l k v = l ++ [(k, v)] := by
  unfold putD
  rw [any_lkD, h]
  rfl
theorem putD_length (l : List (κ × α)) (k : κ) (v : α) : (putD l k v).length ≤ l.length + 1 := by
  unfold putD
  split
  · rw [List.length_map]
    omega
  · rw [List.length_append]
    exact Nat.le_refl _
end
section
variable {κ : Type} [DecidableEq κ] {K : PySem.W.Frag} {F F' : Hp}
theorem DReps.mono {kvs : List (κ × V)} {kds : List (κ × D)} (e : Ex F F') (r : DReps K F kvs kds) : DReps K F' kvs kds := ⟨r.1, r.2.mono e⟩
theorem DReps.length {kvs : List (κ × V)} {kds : List (κ × D)} (r : DReps K F kvs kds) : kvs.length = kds.length := by
  have := congrArg List.length r.1
  rwa [List.length_map, List.length_map] at this
theorem DReps.cases {v : κ × V} {kvs : List (κ × V)} {d : κ × D} {kds : List (κ × D)} (r : DReps K F (v :: kvs) (d :: kds)) : v.1 = d.1 ∧ Rep K F v.2 d.2 ∧ DReps K F kvs kds := by
  obtain ⟨r1, r2⟩ := r
  cases r2 with
  | cons r3 r4 => exact ⟨(List.cons.inj r1).1, r3, (List.cons.inj r1).2, r4⟩
theorem DReps.look : ∀ {kvs : List (κ × V)} {kds : List (κ × D)} (r : DReps K F kvs kds) (k : κ), (lkD kds k = none ∧ valV kvs k = none) ∨ ∃ d v, lkD kds k = some d ∧ valV kvs k = some v ∧ Rep K F v d
  | [], [], _, _ => .inl ⟨rfl, rfl⟩
  | [], _ :: _, r, _ => by cases r.1
  | _ :: _, [], r, _ => by cases r.1
  | v :: kvs, d :: kds, r, k => by
    obtain ⟨e, h, t⟩ := r.cases
    have hv : valV (v :: kvs) k = if v.1 = k then some v.2 else valV kvs k := lkD_cons v kvs k
    rw [lkD_cons, hv, e]
    by_cases h1 : d.1 = k
    · rw [if_pos h1, if_pos h1]
      exact .inr ⟨_, _, rfl, rfl, h⟩
    · rw [if_neg h1, if_neg h1]
      exact DReps.look t k
theorem DReps.append {kvs mvs : List (κ × V)} {kds mds : List (κ × D)} (r : DReps K F kvs kds) (q : DReps K F mvs mds) : DReps K F (kvs ++ mvs) (kds ++ mds) :=
  ⟨by rw [List.map_append, List.map_append, r.1, q.1], by rw [List.map_append, List.map_append]; exact r.2.append q.2⟩
theorem DReps.one {k : κ} {v : V} {d : D} (h : Rep K F v d) : DReps K F [(k, v)] [(k, d)] := ⟨rfl, .one h⟩
theorem DReps.cons {k : κ} {v : V} {d : D} {kvs : List (κ × V)} {kds : List (κ × D)} (h : Rep K F v d) (r : DReps K F kvs kds) : DReps K F ((k, v) :: kvs) ((k, d) :: kds) :=
  ⟨by rw [List.map_cons, List.map_cons, r.1], .cons h r.2⟩
theorem DReps.any {kvs : List (κ × V)} {kds : List (κ × D)} (r : DReps K F kvs kds) (k : κ) : (kvs.any fun kv => decide (kv.1 = k)) = (kds.any fun kv => decide (kv.1 = k)) := by
  have : ∀ {β : Type} (l : List (κ × β)), (l.any fun kv => decide (kv.1 = k)) = (l.map (·.1)).any fun x => decide (x = k) := fun l => by
    rw [List.any_map]
    rfl
  rw [this, this, r.1]
theorem DReps.repl {k : κ} {v : V} {d : D} (h : Rep K F v d) : ∀ {kvs : List (κ × V)} {kds : List (κ × D)}, DReps K F kvs kds → DReps K F (kvs.map fun kv => if kv.1 = k then (kv.1, v) else kv) (kds.map fun kv => if kv.1 = k then (kv.1, d) else kv)
  | [], [], _ => ⟨rfl, .nil⟩
  | [], _ :: _, r => by cases r.1
  | _ :: _, [], r => by cases r.1
  | w :: kvs, e :: kds, r => by
    obtain ⟨e1, h1, t⟩ := r.cases
    obtain ⟨w1, w2⟩ := w
    obtain ⟨e', e2⟩ := e
    obtain rfl : w1 = e' := e1
    have ih := DReps.repl (k := k) h t
    rw [List.map_cons, List.map_cons]
    by_cases hk : w1 = k
    · rw [if_pos hk, if_pos hk]
      exact .cons h ih
    · rw [if_neg hk, if_neg hk]
      exact .cons h1 ih
theorem DReps.put {kvs : List (κ × V)} {kds : List (κ × D)} {k : κ} {v : V} {d : D} (r : DReps K F kvs kds) (h : Rep K F v d) : DReps K F (putK kvs k v) (putD kds k d) := by
  unfold putK putD
  rw [r.any k]
  split
  · exact r.repl h
  · exact r.append (.one h)
end
/-- a key as a datum -/
def keyD : Key → D
  | .inl i => .int i
  | .inr x => .str x
theorem rep_key {K : PySem.W.Frag} {F : Hp} {v : V} {k : Key} (r : Rep K F v (keyD k)) : v = kV k := by
  cases k with
  | inl i => exact r.int_inv
  | inr x => exact r.str_inv
theorem reps_keys {K : PySem.W.Frag} {F : Hp} : ∀ {vs : List V} {ks : List Key}, Reps K F vs (ks.map keyD) → vs = ks.map kV
  | _, [], .nil => rfl
  | _, _ :: _, .cons h r => by rw [List.map_cons, ← reps_keys r, rep_key h]

section
variable {b : Bx} {F F' H H' : Hp} {as as' : List Addr} {s s' : S} {σ σ' : L2.St} {k : AV → S → Prop} {A : AE}

-- ### dicts
/-- what the dict x holds at y -/
def DLook (b : Bx) (s : S) (x y : AV) (r : Option D) : Prop := ∀ F as σ H v w, G b F as s σ H → AVRep b.K F as v x → AVRep b.K F as w y →
  ∃ a o, v = .ref a ∧ DGet H a w o ∧ IsD H a ∧ ((r = none ∧ o = none) ∨ ∃ d z, r = some d ∧ o = some z ∧ Rep b.K F z d)
theorem dl_c {n : Nat} {kds : List (Key × D)} {key : Key} (hc : s.cs[n]? = some (.dK kds)) : DLook b s (.c n) (.d (keyD key)) (lkD kds key) := fun F as σ H v w g r1 r2 => by
  obtain ⟨a, kvs, rfl, ha, h1, h2⟩ := g.dict hc r1
  rw [rep_key r2]
  refine ⟨a, _, rfl, DGet.k h1, .inl ⟨_, .inl h1⟩, ?_⟩
  rcases h2.look key with ⟨e1, e2⟩ | ⟨d, z, e1, e2, e3⟩
  · exact .inl ⟨e1, e2⟩
  · exact .inr ⟨d, z, e1, e2, e3⟩
theorem dl_ci {n : Nat} {kds : List (Key × D)} {i : Int} (hc : s.cs[n]? = some (.dK kds)) : DLook b s (.c n) (.d (.int i)) (lkD kds (.inl i)) := dl_c (key := .inl i) hc
theorem dl_cs {n : Nat} {kds : List (Key × D)} {i : Str} (hc : s.cs[n]? = some (.dK kds)) : DLook b s (.c n) (.d (.str i)) (lkD kds (.inr i)) := dl_c (key := .inr i) hc
theorem dl_d {kds : List (Key × D)} {key : Key} : DLook b s (.d (.dK kds)) (.d (keyD key)) (lkD kds key) := fun F as σ H v w g r1 r2 => by
  cases r1 with
  | dK h1 h2 h3 =>
    rw [rep_key r2]
    have h1' := g.gm.fh.rd h1
    refine ⟨_, _, rfl, .inl ⟨_, key, h1', rfl, rfl⟩, .inl ⟨_, h1'⟩, ?_⟩
    rcases DReps.look (K := b.K) (F := F) ⟨h2, h3⟩ key with ⟨e1, e2⟩ | ⟨d, z, e1, e2, e3⟩
    · exact .inl ⟨e1, e2⟩
    · exact .inr ⟨d, z, e1, e2, e3⟩
theorem dl_di {kds : List (Key × D)} {i : Int} : DLook b s (.d (.dK kds)) (.d (.int i)) (lkD kds (.inl i)) := dl_d (key := .inl i)
theorem dl_ds {kds : List (Key × D)} {i : Str} : DLook b s (.d (.dK kds)) (.d (.str i)) (lkD kds (.inr i)) := dl_d (key := .inr i)
theorem dl_t {n : Nat} {kds : List (List Key × D)} {key : List Key} (hc : s.cs[n]? = some (.dT kds)) : DLook b s (.c n) (.d (.tup (key.map keyD))) (lkD kds key) := fun F as σ H v w g r1 r2 => by
  obtain ⟨a, kvs, rfl, ha, h1, h2⟩ := g.dictT hc r1
  obtain ⟨c, xs, rfl, h3, h4⟩ := Rep.tup_inv r2
  rw [reps_keys h4] at h3
  refine ⟨a, _, rfl, DGet.t h1 (g.gm.fh _ _ h3), .inr ⟨_, .inl h1⟩, ?_⟩
  rcases h2.look key with ⟨e1, e2⟩ | ⟨d, z, e1, e2, e3⟩
  · exact .inl ⟨e1, e2⟩
  · exact .inr ⟨d, z, e1, e2, e3⟩
theorem we_dget {td ty : TE} (h : WE b td s fun x s1 => WE b ty s1 fun y s2 => ∃ d, DLook b s2 x y (some d) ∧ k (.d d) s2) : WE b (tDGet td ty) s k := fun F as σ H g Q q =>
  h F as σ H g _ fun v x s1 F1 as1 H1 h1 g1 e1 p1 r1 => h1 F1 as1 σ H1 g1 _ fun w y s2 F2 as2 H2 h2 g2 e2 p2 r2 => by
    obtain ⟨d, hl, hk⟩ := h2
    obtain ⟨a, o, rfl, hg, _, hr⟩ := hl F2 as2 σ H2 v w g2 (r1.mono e2 p2) r2
    rcases hr with ⟨z, _⟩ | ⟨d', z, e, rfl, r⟩
    · cases z
    · obtain rfl := Option.some.inj e
      exact ⟨a, z, rfl, hg, q z _ s2 F2 as2 H2 hk g2 (e1.trans e2) (p1.trans p2) r⟩
theorem we_din {td ty : TE} (h : WE b ty s fun y s1 => WE b td s1 fun x s2 => ∃ o, DLook b s2 x y o ∧ k (.d (.bl o.isSome)) s2) : WE b (tDIn ty td) s k := fun F as σ H g Q q =>
  h F as σ H g _ fun w y s1 F1 as1 H1 h1 g1 e1 p1 r1 => h1 F1 as1 σ H1 g1 _ fun v x s2 F2 as2 H2 h2 g2 e2 p2 r2 => by
    obtain ⟨o, hl, hk⟩ := h2
    obtain ⟨a, o', rfl, hg, _, hr⟩ := hl F2 as2 σ H2 v w g2 r2 (r1.mono e2 p2)
    have e : o.isSome = o'.isSome := by
      rcases hr with ⟨rfl, rfl⟩ | ⟨d', z, rfl, rfl, r⟩ <;> rfl
    refine ⟨a, o', rfl, hg, ?_⟩
    rw [← e]
    exact q _ _ s2 F2 as2 H2 hk g2 (e1.trans e2) (p1.trans p2) (Rep.bl _)
theorem we_dnin {td ty : TE} (h : WE b ty s fun y s1 => WE b td s1 fun x s2 => ∃ o, DLook b s2 x y o ∧ k (.d (.bl (!o.isSome))) s2) : WE b (tDNotIn ty td) s k := fun F as σ H g Q q =>
  h F as σ H g _ fun w y s1 F1 as1 H1 h1 g1 e1 p1 r1 => h1 F1 as1 σ H1 g1 _ fun v x s2 F2 as2 H2 h2 g2 e2 p2 r2 => by
    obtain ⟨o, hl, hk⟩ := h2
    obtain ⟨a, o', rfl, hg, _, hr⟩ := hl F2 as2 σ H2 v w g2 r2 (r1.mono e2 p2)
    have e : o.isSome = o'.isSome := by
      rcases hr with ⟨rfl, rfl⟩ | ⟨d', z, rfl, rfl, r⟩ <;> rfl
    refine ⟨a, o', rfl, hg, ?_⟩
    rw [← e]
    exact q _ _ s2 F2 as2 H2 hk g2 (e1.trans e2) (p1.trans p2) (Rep.bl _)
/-- d.get(k) -/
theorem we_dget1 {td ty : TE} (h : WE b td s fun x s1 => (∀ F as σ H v, G b F as s1 σ H → AVRep b.K F as v x → ∃ a, v = .ref a ∧ IsD H a) ∧ WE b ty s1 fun y s2 => ∃ o, DLook b s2 x y o ∧ k (.d (o.getD .non)) s2) : WE b (tDGet1 td ty) s k := fun F as σ H g Q q =>
  h F as σ H g _ fun v x s1 F1 as1 H1 h1 g1 e1 p1 r1 => by
    obtain ⟨a, rfl, hd⟩ := h1.1 F1 as1 σ H1 v g1 r1
    refine ⟨a, rfl, hd, h1.2 F1 as1 σ H1 g1 _ fun w y s2 F2 as2 H2 h2 g2 e2 p2 r2 => ?_⟩
    obtain ⟨o, hl, hk⟩ := h2
    obtain ⟨a', o', e, hg, _, hr⟩ := hl F2 as2 σ H2 _ w g2 (r1.mono e2 p2) r2
    cases e
    refine ⟨o', hg, q _ _ s2 F2 as2 H2 hk g2 (e1.trans e2) (p1.trans p2) ?_⟩
    rcases hr with ⟨rfl, rfl⟩ | ⟨d', z, rfl, rfl, r⟩
    · exact Rep.non
    · exact r
theorem isd_d {kds : List (Key × D)} : ∀ F as σ H v, G b F as s σ H → AVRep b.K F as v (.d (.dK kds)) → ∃ a, v = .ref a ∧ IsD H a := fun F as σ H v g r => by
  cases r with
  | dK h1 h2 h3 => exact ⟨_, rfl, .inl ⟨_, g.gm.fh.rd h1⟩⟩
theorem isd_c {n : Nat} {kds : List (Key × D)} (hc : s.cs[n]? = some (.dK kds)) : ∀ F as σ H v, G b F as s σ H → AVRep b.K F as v (.c n) → ∃ a, v = .ref a ∧ IsD H a := fun F as σ H v g r => by
  obtain ⟨a, kvs, rfl, ha, h1, h2⟩ := g.dict hc r
  exact ⟨_, rfl, .inl ⟨_, .inl h1⟩⟩
theorem isd_t {n : Nat} {kds : List (List Key × D)} (hc : s.cs[n]? = some (.dT kds)) : ∀ F as σ H v, G b F as s σ H → AVRep b.K F as v (.c n) → ∃ a, v = .ref a ∧ IsD H a := fun F as σ H v g r => by
  obtain ⟨a, kvs, rfl, ha, h1, h2⟩ := g.dictT hc r
  exact ⟨_, rfl, .inr ⟨_, .inl h1⟩⟩
/-- d[k] = v -/
theorem ws_dput {td ty tv : TE} (h : WE b tv s fun v s1 => WE b td s1 fun x s2 => WE b ty s2 fun y s3 => ∃ n kds key d, x = .c n ∧ y = .d (keyD key) ∧ v = .d d ∧ s3.cs[n]? = some (.dK kds) ∧ kds.length < sizeLine ∧ A.nx (s3.put n (.dK (putD kds key d)))) : WS b (sDPut td ty tv) s A := fun F as σ H E g ok =>
  h F as σ H g _ fun u v s1 F1 as1 H1 h1 g1 e1 p1 r1 => h1 F1 as1 σ H1 g1 _ fun w x s2 F2 as2 H2 h2 g2 e2 p2 r2 => h2 F2 as2 σ H2 g2 _ fun z y s3 F3 as3 H3 h3 g3 e3 p3 r3 => by
    obtain ⟨n, kds, key, d, rfl, rfl, rfl, hc, hl, hn⟩ := h3
    obtain ⟨a, kvs, rfl, ha, q1, q2⟩ := g3.dict hc (r2.mono e3 p3)
    have rd : Rep b.K F3 u d := Rep.mono (e2.trans e3) r1
    refine ⟨a, _, rfl, .inl ⟨kvs, key, q1, rep_key r3, by rw [q2.length]; exact hl, rfl⟩, ?_⟩
    exact ok.nx _ F3 as3 σ _ hn (g3.put ha hc trivial ⟨_, upd_same, q2.put rd⟩) ((e1.trans e2).trans e3)
theorem ws_dputT {td ty tv : TE} (h : WE b tv s fun v s1 => WE b td s1 fun x s2 => WE b ty s2 fun y s3 => ∃ n kds key d, x = .c n ∧ y = .d (.tup (key.map keyD)) ∧ v = .d d ∧ s3.cs[n]? = some (.dT kds) ∧ kds.length < sizeLine ∧ A.nx (s3.put n (.dT (putD kds key d)))) : WS b (sDPut td ty tv) s A := fun F as σ H E g ok =>
  h F as σ H g _ fun u v s1 F1 as1 H1 h1 g1 e1 p1 r1 => h1 F1 as1 σ H1 g1 _ fun w x s2 F2 as2 H2 h2 g2 e2 p2 r2 => h2 F2 as2 σ H2 g2 _ fun z y s3 F3 as3 H3 h3 g3 e3 p3 r3 => by
    obtain ⟨n, kds, key, d, rfl, rfl, rfl, hc, hl, hn⟩ := h3
    obtain ⟨a, kvs, rfl, ha, q1, q2⟩ := g3.dictT hc (r2.mono e3 p3)
    obtain ⟨c, xs, rfl, q3, q4⟩ := Rep.tup_inv r3
    rw [reps_keys q4] at q3
    have rd : Rep b.K F3 u d := Rep.mono (e2.trans e3) r1
    refine ⟨a, _, rfl, .inr ⟨kvs, key, c, q1, rfl, g3.gm.fh _ _ q3, by rw [q2.length]; exact hl, rfl⟩, ?_⟩
    exact ok.nx _ F3 as3 σ _ hn (g3.put ha hc trivial ⟨_, upd_same, q2.put rd⟩) ((e1.trans e2).trans e3)

-- ### fields
def lkF {α : Type} (fs : List (Str × α)) (f : Str) : Option α := fs.lookup f
theorem lookup_reps {K : PySem.W.Frag} {F : Hp} {f : Str} {d : D} : ∀ {fvs : List (Str × V)} {fds : List (Str × D)}, fvs.map (·.1) = fds.map (·.1) → Reps K F (fvs.map (·.2)) (fds.map (·.2)) → fds.lookup f = some d → ∃ v, fvs.lookup f = some v ∧ Rep K F v d
  | [], [], _, _, h => by cases h
  | [], _ :: _, h, _, _ => by cases h
  | _ :: _, [], h, _, _ => by cases h
  | (f1, v) :: fvs, (f2, d2) :: fds, he, hr, h => by
    obtain rfl : f1 = f2 := (List.cons.inj he).1
    cases hr with
    | cons r1 r2 =>
      rw [List.lookup_cons] at h ⊢
      by_cases q : (f == f1) = true
      · rw [q] at h ⊢
        obtain rfl := Option.some.inj h
        exact ⟨v, rfl, r1⟩
      · have q' : (f == f1) = false := by simpa using q
        rw [q'] at h ⊢
        exact lookup_reps (List.cons.inj he).2 r2 h
theorem lookup_areps {K : PySem.W.Frag} {F : Hp} {f : Str} {d : AV} : ∀ {fvs : List (Str × V)} {fds : List (Str × AV)}, fvs.map (·.1) = fds.map (·.1) → AVReps K F as (fvs.map (·.2)) (fds.map (·.2)) → fds.lookup f = some d → ∃ v, fvs.lookup f = some v ∧ AVRep K F as v d
  | [], [], _, _, h => by cases h
  | [], _ :: _, h, _, _ => by cases h
  | _ :: _, [], h, _, _ => by cases h
  | (f1, v) :: fvs, (f2, d2) :: fds, he, hr, h => by
    obtain rfl : f1 = f2 := (List.cons.inj he).1
    cases hr with
    | cons r1 r2 =>
      rw [List.lookup_cons] at h ⊢
      by_cases q : (f == f1) = true
      · rw [q] at h ⊢
        obtain rfl := Option.some.inj h
        exact ⟨v, rfl, r1⟩
      · have q' : (f == f1) = false := by simpa using q
        rw [q'] at h ⊢
        exact lookup_areps (List.cons.inj he).2 r2 h
theorem we_fld {te : TE} {f : Str} (h : WE b te s fun x s1 => ∃ C fs d, x = .d (.ins C fs) ∧ Cls b.K C ∧ NoAttr b.K C f ∧ fs.lookup f = some d ∧ k (.d d) s1) : WE b (tFld b.K te f) s k := fun F as σ H g Q q =>
  h F as σ H g _ fun v x s1 F1 as1 H1 h1 g1 e1 p1 r1 => by
    obtain ⟨C, fs, d, rfl, hC, hn, hl, hk⟩ := h1
    cases r1 with
    | ins q1 q2 q3 =>
      obtain ⟨w, e, r⟩ := lookup_reps q2 q3 hl
      exact ⟨_, C, _, _, w, rfl, g1.gm.fh _ _ q1, hC, hn, e, q _ _ s1 F1 as1 H1 hk g1 e1 p1 r⟩
theorem we_fldc {te : TE} {f : Str} (h : WE b te s fun x s1 => ∃ n C fs av, x = .c n ∧ s1.cs[n]? = some (.ins C fs) ∧ Cls b.K C ∧ NoAttr b.K C f ∧ fs.lookup f = some av ∧ k av s1) : WE b (tFld b.K te f) s k := fun F as σ H g Q q =>
  h F as σ H g _ fun v x s1 F1 as1 H1 h1 g1 e1 p1 r1 => by
    obtain ⟨n, C, fs, av, rfl, hc, hC, hn, hl, hk⟩ := h1
    obtain ⟨a, dx, fvs, rfl, ha, q1, q2, q3⟩ := g1.inst hc r1
    obtain ⟨w, e, r⟩ := lookup_areps q2 q3 hl
    exact ⟨a, C, dx, fvs, w, rfl, q1, hC, hn, e, q _ _ s1 F1 as1 H1 hk g1 e1 p1 r⟩
def putFA (f : Str) (v : AV) : List (Str × AV) → List (Str × AV)
  | [] => [(f, v)]
  | (g, x) :: r => if g = f then (g, v) :: r else (g, x) :: putFA f v r
theorem FReps.put {K : PySem.W.Frag} {F : Hp} {f : Str} {v : V} {av : AV} (h : AVRep K F as v av) : ∀ {fvs : List (Str × V)} {fs : List (Str × AV)}, FReps K F as fvs fs → FReps K F as (putF f v fvs) (putFA f av fs)
  | [], [], _ => ⟨rfl, .cons h .nil⟩
  | [], _ :: _, r => by cases r.1
  | _ :: _, [], r => by cases r.1
  | (g, x) :: fvs, (g', y) :: fs, r => by
    obtain ⟨r1, r2⟩ := r
    obtain rfl : g = g' := (List.cons.inj r1).1
    cases r2 with
    | cons r3 r4 =>
      have ih := FReps.put h ⟨(List.cons.inj r1).2, r4⟩ (f := f)
      show FReps K F as (if g = f then (g, v) :: fvs else (g, x) :: putF f v fvs) (if g = f then (g, av) :: fs else (g, y) :: putFA f av fs)
      by_cases hg : g = f
      · rw [if_pos hg, if_pos hg]
        exact ⟨r1, .cons h r4⟩
      · rw [if_neg hg, if_neg hg]
        exact ⟨by rw [List.map_cons, List.map_cons, ih.1], .cons r3 ih.2⟩
theorem FReps.length {K : PySem.W.Frag} {F : Hp} {fvs : List (Str × V)} {fs : List (Str × AV)} (r : FReps K F as fvs fs) : fvs.length = fs.length := by
  have := congrArg List.length r.1
  rwa [List.length_map, List.length_map] at this
/-- o.f = v, o a cell -/
theorem ws_fld {to tv : TE} {f : Str} (h : WE b tv s fun v s1 => WE b to s1 fun x s2 => ∃ n C fs, x = .c n ∧ s2.cs[n]? = some (.ins C fs) ∧ Cls b.K C ∧ NoAttr b.K C f ∧ fs.length < 1000 ∧ A.nx (s2.put n (.ins C (putFA f v fs)))) : WS b (sFld b.K to tv f) s A := fun F as σ H E g ok =>
  h F as σ H g _ fun u v s1 F1 as1 H1 h1 g1 e1 p1 r1 => h1 F1 as1 σ H1 g1 _ fun w x s2 F2 as2 H2 h2 g2 e2 p2 r2 => by
    obtain ⟨n, C, fs, rfl, hc, hC, hn, hl, hk⟩ := h2
    obtain ⟨a, dx, fvs, rfl, ha, q1, q2⟩ := g2.inst hc r2
    refine ⟨a, C, dx, fvs, rfl, q1, hC, hn, by rw [q2.length]; exact hl, ?_⟩
    exact ok.nx _ F2 as2 σ _ hk (g2.put ha hc trivial ⟨dx, _, upd_same, q2.put (r1.mono e2 p2)⟩) (e1.trans e2)

-- ### while
theorem ws_while {c : TT} {tb : TS} (I : Nat → S → Prop) (m : Nat) (h0 : I m s) (hs : ∀ m s1, I m s1 → WT b c s1 fun y s2 => (y = true → WS b tb s2 { A with nx := fun s3 => ∃ m', m' < m ∧ I m' s3, ct := fun s3 => ∃ m', m' < m ∧ I m' s3, bk := A.nx }) ∧ (y = false → A.nx s2)) : WS b (tWhile c tb) s A := fun F as σ H E g ok => by
  refine ⟨fun m σ H => ∃ s1 F1 as1, I m s1 ∧ G b F1 as1 s1 σ H ∧ Ex F F1, ⟨m, s, F, as, h0, g, .refl F⟩, fun m σ1 H1 hw => ?_⟩
  obtain ⟨s1, F1, as1, h1, g1, e1⟩ := hw
  refine hs m s1 h1 F1 as1 σ1 H1 g1 _ fun y s2 F2 as2 H2 h2 g2 e2 p2 => ?_
  cases y with
  | true =>
    refine ⟨_, fun σ' H' z => z, h2.1 rfl F2 as2 σ1 H2 _ g2 ⟨fun s3 F3 as3 σ3 H3 h3 g3 e3 => ?_, fun v av s3 F3 as3 σ3 H3 h3 g3 e3 r => ok.rt v av s3 F3 as3 σ3 H3 h3 g3 ((e1.trans e2).trans e3) r, fun s3 F3 as3 σ3 H3 h3 g3 e3 => ok.nx s3 F3 as3 σ3 H3 h3 g3 ((e1.trans e2).trans e3), fun s3 F3 as3 σ3 H3 h3 g3 e3 => ?_⟩⟩
    · obtain ⟨m', hm, hi⟩ := h3
      exact ⟨m', hm, s3, F3, as3, hi, g3, (e1.trans e2).trans e3⟩
    · obtain ⟨m', hm, hi⟩ := h3
      exact ⟨m', hm, s3, F3, as3, hi, g3, (e1.trans e2).trans e3⟩
  | false => exact ok.nx s2 F2 as2 σ1 H2 (h2.2 rfl) g2 (e1.trans e2)

-- ### what is walked
structure Walks (b : Bx) (J : It) (F1 : Hp) (ds : List D) : Prop where
  go : ∀ F as s σ H (i : Nat) d, Ex F1 F → G b F as s σ H → ds[i]? = some d → J.go i H ∧ ∀ x H', J.yld i H x H' → ∃ F', Ex F F' ∧ G b F' as s σ H' ∧ Rep b.K F' x d
  stop : ∀ F as s σ H (i : Nat), Ex F1 F → G b F as s σ H → ds.length ≤ i → J.stop i H
def WI (b : Bx) (wi : TI) (s : S) (kk : List D → S → Prop) : Prop := ∀ F as σ H, G b F as s σ H → ∀ R : It → Hp → Prop,
  (∀ J ds s1 F1 as1 H1, kk ds s1 → G b F1 as1 s1 σ H1 → Ex F F1 → Pre as as1 → Walks b J F1 ds → R J H1) → wi σ H R
theorem ws_for {wi : TI} {g : TG} {tb : TS} (h : WI b wi s fun ds s1 => ∃ I : Nat → S → Prop, I 0 s1 ∧ (∀ (i : Nat) d s2, ds[i]? = some d → I i s2 → WG b g (.d d) s2 fun s3 => WS b tb s3 { A with nx := I (i + 1), ct := I (i + 1), bk := A.nx }) ∧ ∀ s2, I ds.length s2 → A.nx s2) : WS b (tFor wi g tb) s A := fun F as σ H E gg ok =>
  h F as σ H gg _ fun J ds s1 F1 as1 H1 h1 g1 e1 p1 wk => by
    obtain ⟨I, i0, hs, hd⟩ := h1
    refine ⟨fun i m σ H => m = ds.length - i ∧ i ≤ ds.length ∧ ∃ s2 F2 as2, I i s2 ∧ G b F2 as2 s2 σ H ∧ Ex F1 F2, ⟨ds.length, by omega, Nat.zero_le _, s1, F1, as1, i0, g1, .refl F1⟩, ?_⟩
    rintro i m σ2 H2 ⟨rfl, hi, s2, F2, as2, h2, g2, e2⟩
    by_cases hlt : i < ds.length
    · have hx : ds[i]? = some ds[i] := List.getElem?_eq_getElem hlt
      obtain ⟨go, yl⟩ := wk.go F2 as2 s2 σ2 H2 i _ e2 g2 hx
      refine .inr ⟨go, fun σ H => ∃ s3 F3 as3, I (i + 1) s3 ∧ G b F3 as3 s3 σ H ∧ Ex F1 F3, fun σ' H' z => ⟨ds.length - (i + 1), by omega, rfl, hlt, z⟩, fun x H' y => ?_⟩
      obtain ⟨F3, e3, g3, r3⟩ := yl x H' y
      refine hs i _ s2 hx h2 F3 as2 σ2 H' x g3 r3 _ fun s4 F4 as4 σ4 H4 h4 g4 e4 p4 => ?_
      have e14 : Ex F1 F4 := (e2.trans e3).trans e4
      exact h4 F4 as4 σ4 H4 _ g4 ⟨fun s5 F5 as5 σ5 H5 h5 g5 e5 => ⟨s5, F5, as5, h5, g5, e14.trans e5⟩, fun v av s5 F5 as5 σ5 H5 h5 g5 e5 r => ok.rt v av s5 F5 as5 σ5 H5 h5 g5 ((e1.trans e14).trans e5) r,
        fun s5 F5 as5 σ5 H5 h5 g5 e5 => ok.nx s5 F5 as5 σ5 H5 h5 g5 ((e1.trans e14).trans e5), fun s5 F5 as5 σ5 H5 h5 g5 e5 => ⟨s5, F5, as5, h5, g5, e14.trans e5⟩⟩
    · have hq : i = ds.length := by omega
      subst hq
      exact .inl ⟨wk.stop F2 as2 s2 σ2 H2 _ e2 g2 (Nat.le_refl _), ok.nx s2 F2 as2 σ2 H2 (hd s2 h2) g2 (e1.trans e2)⟩
theorem wi_list {tl : TE} {kk : List D → S → Prop} (h : WE b tl s fun x s1 => ∃ ds, x = .d (.lst ds) ∧ kk ds s1) : WI b (iList b.K tl) s kk := fun F as σ H g R q =>
  h F as σ H g _ fun v x s1 F1 as1 H1 h1 g1 e1 p1 r1 => by
    obtain ⟨ds, rfl, hk⟩ := h1
    obtain ⟨a, xs, rfl, h2, h3⟩ := Rep.lst_inv r1
    have sq : ∀ {F H}, Ex F1 F → Ex F H → SqL b.K H a xs := fun {F H} e1 e2 => .inl (.inl (e2 _ _ (e1 _ _ h2)))
    refine ⟨a, rfl, ⟨xs, sq (.refl F1) g1.gm.fh⟩, q _ ds s1 F1 as1 H1 hk g1 e1 p1 ⟨fun F2 as2 s2 σ2 H2 i d e g2 hd => ?_, fun F2 as2 s2 σ2 H2 i e g2 hl => ⟨xs, sq e g2.gm.fh, by rw [h3.length]; exact hl⟩⟩⟩
    obtain ⟨y, hy, ry⟩ := h3.get hd
    refine ⟨⟨xs, y, sq e g2.gm.fh, hy⟩, fun x H' hx => ?_⟩
    obtain ⟨rfl, hx⟩ := hx
    have := (hx xs (sq e g2.gm.fh)).symm.trans hy
    obtain rfl := Option.some.inj this
    exact ⟨F2, .refl F2, g2, ry.mono e⟩
theorem wi_tup {tl : TE} {kk : List D → S → Prop} (h : WE b tl s fun x s1 => ∃ ds, (x = .d (.tup ds) ∨ x = .d (.tupK ds)) ∧ kk ds s1) : WI b (iTup b.K tl) s kk := fun F as σ H g R q =>
  h F as σ H g _ fun v x s1 F1 as1 H1 h1 g1 e1 p1 r1 => by
    obtain ⟨ds, hx, hk⟩ := h1
    have : ∃ a xs, v = .ref a ∧ (∀ {F H}, Ex F1 F → Ex F H → SqT b.K H a xs) ∧ Reps b.K F1 xs ds := by
      rcases hx with rfl | rfl
      · obtain ⟨a, xs, rfl, h2, h3⟩ := Rep.tup_inv r1
        exact ⟨a, xs, rfl, fun {F H} e1 e2 => .inl (.inl (e2 _ _ (e1 _ _ h2))), h3⟩
      · obtain ⟨a, xs, rfl, h2, h3⟩ := Rep.tupK_inv r1
        exact ⟨a, xs, rfl, fun {F H} _ _ => h2 H, h3⟩
    obtain ⟨a, xs, rfl, sq, h3⟩ := this
    refine ⟨a, rfl, ⟨xs, sq (.refl F1) g1.gm.fh⟩, q _ ds s1 F1 as1 H1 hk g1 e1 p1 ⟨fun F2 as2 s2 σ2 H2 i d e g2 hd => ?_, fun F2 as2 s2 σ2 H2 i e g2 hl => ⟨xs, sq e g2.gm.fh, by rw [h3.length]; exact hl⟩⟩⟩
    obtain ⟨y, hy, ry⟩ := h3.get hd
    refine ⟨⟨xs, y, sq e g2.gm.fh, hy⟩, fun x H' hx => ?_⟩
    obtain ⟨rfl, hx⟩ := hx
    have := (hx xs (sq e g2.gm.fh)).symm.trans hy
    obtain rfl := Option.some.inj this
    exact ⟨F2, .refl F2, g2, ry.mono e⟩
/-- the ints lo, lo + 1, .. -/
def rgD (lo : Int) (n : Nat) : List D := (List.range n).map fun i => D.int (lo + (i : Nat))
theorem rgD_length (lo : Int) (n : Nat) : (rgD lo n).length = n := by unfold rgD; rw [List.length_map, List.length_range]
theorem rgD_get {lo : Int} {n i : Nat} {d : D} (h : (rgD lo n)[i]? = some d) : i < n ∧ d = .int (lo + (i : Nat)) := by
  have hl := lt_of_get h
  rw [rgD_length] at hl
  unfold rgD at h
  rw [List.getElem?_map, List.getElem?_range hl] at h
  exact ⟨hl, (Option.some.inj h).symm⟩
theorem walks_rg {F1 : Hp} (lo : Int) (n : Nat) : Walks b (Itr lo n) F1 (rgD lo n) :=
  ⟨fun F as s σ H i d e g hd => by
    obtain ⟨hl, rfl⟩ := rgD_get hd
    refine ⟨hl, fun x H' hx => ?_⟩
    obtain ⟨rfl, rfl⟩ := hx
    exact ⟨F, .refl F, g, .int _⟩, fun F as s σ H i e g hl => by rw [rgD_length] at hl; exact hl⟩
theorem wi_rng1 {ta : TA} {kk : List D → S → Prop} (h : WA b ta s fun xs s1 => ∃ n : Int, xs = [.d (.int n)] ∧ n < 2 ^ 62 ∧ -(2 ^ 62) ≤ n ∧ kk (rgD 0 n.toNat) s1) : WI b (iRng1 ta) s kk := fun F as σ H g R q =>
  h F as σ H g _ fun vs xs s1 F1 as1 H1 h1 g1 e1 p1 r1 => by
    obtain ⟨n, rfl, hn, hm, hk⟩ := h1
    cases r1 with
    | cons r1 r2 =>
      cases r2
      obtain rfl := Rep.int_inv r1
      exact ⟨n, rfl, hm, hn, q _ _ s1 F1 as1 H1 hk g1 e1 p1 (walks_rg 0 n.toNat)⟩
theorem wi_rng2 {ta : TA} {kk : List D → S → Prop} (h : WA b ta s fun xs s1 => ∃ m n : Int, xs = [.d (.int m), .d (.int n)] ∧ (-(2 ^ 62) ≤ m ∧ m < 2 ^ 62 ∧ -(2 ^ 62) ≤ n ∧ n < 2 ^ 62) ∧ kk (rgD m (n - m).toNat) s1) : WI b (iRng2 ta) s kk := fun F as σ H g R q =>
  h F as σ H g _ fun vs xs s1 F1 as1 H1 h1 g1 e1 p1 r1 => by
    obtain ⟨m, n, rfl, hn, hk⟩ := h1
    cases r1 with
    | cons r1 r2 =>
      cases r2 with
      | cons r2 r3 =>
        cases r3
        obtain rfl := Rep.int_inv r1
        obtain rfl := Rep.int_inv r2
        exact ⟨m, n, rfl, hn, q _ _ s1 F1 as1 H1 hk g1 e1 p1 (walks_rg m _)⟩
/-- the signs of a text -/
def signs (x : Str) : List D := x.cps.toList.map fun c => D.str ⟨#[c]⟩
theorem wi_str {te : TE} {kk : List D → S → Prop} (h : WE b te s fun v s1 => ∃ x, v = .d (.str x) ∧ kk (signs x) s1) : WI b (iStr te) s kk := fun F as σ H g R q =>
  h F as σ H g _ fun v x s1 F1 as1 H1 h1 g1 e1 p1 r1 => by
    obtain ⟨z, rfl, hk⟩ := h1
    refine ⟨z, Rep.str_inv r1, q _ _ s1 F1 as1 H1 hk g1 e1 p1 ⟨fun F2 as2 s2 σ2 H2 i d e g2 hd => ?_, fun F2 as2 s2 σ2 H2 i e g2 hl => ?_⟩⟩
    · unfold signs at hd
      rw [List.getElem?_map] at hd
      obtain ⟨c, hc, rfl⟩ := Option.map_eq_some_iff.mp hd
      have hl := lt_of_get hc
      rw [Array.length_toList] at hl
      refine ⟨hl, fun x H' hx => ?_⟩
      obtain ⟨rfl, c', hc', rfl⟩ := hx
      rw [Array.getElem?_toList] at hc
      rw [hc] at hc'
      obtain rfl := Option.some.inj hc'
      exact ⟨F2, .refl F2, g2, .str _⟩
    · unfold signs at hl
      rw [List.length_map, Array.length_toList] at hl
      exact hl
theorem wi_enum {ta : TA} {kk : List D → S → Prop} (h : WA b ta s fun xs s1 => ∃ ds, xs = [.d (.lst ds)] ∧ kk (ds.mapIdx fun i d => D.tup [.int (i : Nat), d]) s1) : WI b (iEnum b.K ta) s kk := fun F as σ H g R q =>
  h F as σ H g _ fun vs xs s1 F1 as1 H1 h1 g1 e1 p1 r1 => by
    obtain ⟨ds, rfl, hk⟩ := h1
    cases r1 with
    | cons r1 r2 =>
      cases r2
      obtain ⟨a, xs, rfl, h2, h3⟩ := Rep.lst_inv r1
      have sq : ∀ {F H}, Ex F1 F → Ex F H → SqL b.K H a xs := fun {F H} e1 e2 => .inl (.inl (e2 _ _ (e1 _ _ h2)))
      refine ⟨a, xs, rfl, sq (.refl F1) g1.gm.fh, q _ _ s1 F1 as1 H1 hk g1 e1 p1 ⟨fun F2 as2 s2 σ2 H2 i d e g2 hd => ?_, fun F2 as2 s2 σ2 H2 i e g2 hl => ⟨xs, sq e g2.gm.fh, by rw [List.length_mapIdx] at hl; rw [h3.length]; exact hl⟩⟩⟩
      rw [List.getElem?_mapIdx] at hd
      obtain ⟨d0, hd0, rfl⟩ := Option.map_eq_some_iff.mp hd
      obtain ⟨y, hy, ry⟩ := h3.get hd0
      refine ⟨⟨xs, y, sq e g2.gm.fh, hy⟩, fun x H' hx => ?_⟩
      obtain ⟨T, z, rfl, hT, rfl, hx⟩ := hx
      have := (hx xs (sq e g2.gm.fh)).symm.trans hy
      obtain rfl := Option.some.inj this
      obtain ⟨g', e', r'⟩ := fz_tup g2 hT (.cons (.int (i : Nat)) (.one (ry.mono e)))
      exact ⟨_, e', g', r'⟩
theorem wi_zip {ta : TA} {kk : List D → S → Prop} (h : WA b ta s fun xs s1 => ∃ ds es, xs = [.d (.lst ds), .d (.lst es)] ∧ kk ((ds.zip es).map fun p => D.tup [p.1, p.2]) s1) : WI b (iZip b.K ta) s kk := fun F as σ H g R q =>
  h F as σ H g _ fun vs xs s1 F1 as1 H1 h1 g1 e1 p1 r1 => by
    obtain ⟨ds, es, rfl, hk⟩ := h1
    cases r1 with
    | cons r1 r2 =>
      cases r2 with
      | cons r2 r3 =>
        cases r3
        obtain ⟨a, xs, rfl, h2, h3⟩ := Rep.lst_inv r1
        obtain ⟨c, ys, rfl, h4, h5⟩ := Rep.lst_inv r2
        have sq : ∀ {F H}, Ex F1 F → Ex F H → SqL b.K H a xs := fun {F H} e1 e2 => .inl (.inl (e2 _ _ (e1 _ _ h2)))
        have sq2 : ∀ {F H}, Ex F1 F → Ex F H → SqL b.K H c ys := fun {F H} e1 e2 => .inl (.inl (e2 _ _ (e1 _ _ h4)))
        refine ⟨a, c, xs, ys, rfl, sq (.refl F1) g1.gm.fh, sq2 (.refl F1) g1.gm.fh, q _ _ s1 F1 as1 H1 hk g1 e1 p1 ⟨fun F2 as2 s2 σ2 H2 i d e g2 hd => ?_, fun F2 as2 s2 σ2 H2 i e g2 hl => ⟨xs, ys, sq e g2.gm.fh, sq2 e g2.gm.fh, ?_⟩⟩⟩
        · rw [List.getElem?_map] at hd
          obtain ⟨p, hp, rfl⟩ := Option.map_eq_some_iff.mp hd
          rw [List.getElem?_zip_eq_some] at hp
          obtain ⟨y, hy, ry⟩ := h3.get hp.1
          obtain ⟨z, hz, rz⟩ := h5.get hp.2
          refine ⟨⟨xs, ys, y, z, sq e g2.gm.fh, sq2 e g2.gm.fh, hy, hz⟩, fun x H' hx => ?_⟩
          obtain ⟨T, y', z', rfl, hT, rfl, hx1, hx2⟩ := hx
          obtain rfl := Option.some.inj ((hx1 xs (sq e g2.gm.fh)).symm.trans hy)
          obtain rfl := Option.some.inj ((hx2 ys (sq2 e g2.gm.fh)).symm.trans hz)
          obtain ⟨g', e', r'⟩ := fz_tup g2 hT (.cons (ry.mono e) (.one (rz.mono e)))
          exact ⟨_, e', g', r'⟩
        · rw [List.length_map, List.length_zip] at hl
          rw [h3.length, h5.length]
          omega
end
end KW

-- Comprehensions, calls, errors over the abstract store.
namespace KW
open PySem PySem.Spec L2

def wipeA (env : List AV) : List Nat → List AV
  | [] => env
  | i :: r => (wipeA env r).set i .un
/-- a target that stores to the slots vs alone -/
def Own (g : TG) (vs : List Nat) : Prop := ∀ v σ H (Q : L2.St → Hp → Prop), g v σ H Q → g v σ H fun σ' H' => Q σ' H' ∧ wipe σ' vs = wipe σ vs
def Owns (g : TGs) (vs : List Nat) : Prop := ∀ xs σ H (Q : L2.St → Hp → Prop), g xs σ H Q → g xs σ H fun σ' H' => Q σ' H' ∧ wipe σ' vs = wipe σ vs
theorem wipe_set (σ : L2.St) (i : Nat) (o : Option V) : ∀ vs : List Nat, i ∈ vs → wipe (σ.set i o) vs = wipe σ vs
  | [], h => by cases h
  | j :: vs, h => by
    show (wipe (σ.set i o) vs).set j none = (wipe σ vs).set j none
    by_cases hm : i ∈ vs
    · rw [wipe_set σ i o vs hm]
    · have hj : i = j := by
        rcases List.mem_cons.mp h with e | e
        · exact e
        · exact absurd e hm
      subst hj
      have : ∀ vs : List Nat, i ∉ vs → (wipe (σ.set i o) vs).set i none = (wipe σ vs).set i none := fun vs => by
        induction vs with
        | nil =>
          intro _
          show (σ.set i o).set i none = σ.set i none
          rw [List.set_set]
        | cons k vs ih =>
          intro hk
          have h1 : i ≠ k := fun e => hk (by rw [e]; exact List.mem_cons_self)
          have h2 := ih fun m => hk (List.mem_cons_of_mem _ m)
          show ((wipe (σ.set i o) vs).set k none).set i none = ((wipe σ vs).set k none).set i none
          rw [List.set_comm _ _ (Ne.symm h1), h2, List.set_comm _ _ h1]
      exact this vs hm
theorem wipe_sub (σ : L2.St) (vs : List Nat) : ∀ ws : List Nat, (∀ i ∈ ws, i ∈ vs) → wipe (wipe σ ws) vs = wipe σ vs
  | [], _ => rfl
  | i :: ws, h => by
    show wipe ((wipe σ ws).set i none) vs = wipe σ vs
    rw [wipe_set _ i none vs (h i List.mem_cons_self)]
    exact wipe_sub σ vs ws fun j m => h j (List.mem_cons_of_mem _ m)
theorem wipe_wipe (σ : L2.St) (vs : List Nat) : wipe (wipe σ vs) vs = wipe σ vs := wipe_sub σ vs vs fun _ h => h
theorem own_name {i : Nat} {vs : List Nat} (h : i ∈ vs) : Own (gName i) vs := fun v σ H Q q => ⟨q, wipe_set σ i _ vs h⟩
theorem owns_nil {vs : List Nat} : Owns gNil vs := fun xs σ H Q q => ⟨q.1, q.2, rfl⟩
theorem owns_cons {g : TG} {gs : TGs} {vs : List Nat} (hg : Own g vs) (hm : ∀ v σ H (Q Q' : L2.St → Hp → Prop), (∀ σ H, Q σ H → Q' σ H) → g v σ H Q → g v σ H Q') (hs : Owns gs vs) (hms : ∀ v σ H (Q Q' : L2.St → Hp → Prop), (∀ σ H, Q σ H → Q' σ H) → gs v σ H Q → gs v σ H Q') : Owns (gCons g gs) vs := fun xs σ H Q q => by
  obtain ⟨v, r, e, q⟩ := q
  refine ⟨v, r, e, hm _ _ _ _ _ (fun σ1 H1 z => ?_) (hg _ _ _ _ q)⟩
  refine hms _ _ _ _ _ (fun σ2 H2 z2 => ⟨z2.1, z2.2.trans z.2⟩) (hs _ _ _ _ z.1)
theorem own_tup {K : PySem.W.Frag} {n : Nat} {gs : TGs} {vs : List Nat} (hs : Owns gs vs) : Own (gTup K n gs) vs := fun v σ H Q q => by
  obtain ⟨a, xs, e, h, hl, q⟩ := q
  exact ⟨a, xs, e, h, hl, hs _ _ _ _ q⟩
theorem gm_name {i : Nat} : ∀ v σ H (Q Q' : L2.St → Hp → Prop), (∀ σ H, Q σ H → Q' σ H) → gName i v σ H Q → gName i v σ H Q' := fun _ _ _ _ _ h q => h _ _ q
theorem gm_nil : ∀ v σ H (Q Q' : L2.St → Hp → Prop), (∀ σ H, Q σ H → Q' σ H) → gNil v σ H Q → gNil v σ H Q' := fun _ _ _ _ _ h q => ⟨q.1, h _ _ q.2⟩
theorem gm_cons {g : TG} {gs : TGs} (hm : ∀ v σ H (Q Q' : L2.St → Hp → Prop), (∀ σ H, Q σ H → Q' σ H) → g v σ H Q → g v σ H Q') (hms : ∀ v σ H (Q Q' : L2.St → Hp → Prop), (∀ σ H, Q σ H → Q' σ H) → gs v σ H Q → gs v σ H Q') :
    ∀ v σ H (Q Q' : L2.St → Hp → Prop), (∀ σ H, Q σ H → Q' σ H) → gCons g gs v σ H Q → gCons g gs v σ H Q' := fun _ _ _ _ _ h ⟨v, r, e, q⟩ => ⟨v, r, e, hm _ _ _ _ _ (fun _ _ z => hms _ _ _ _ _ h z) q⟩
/-- two names -/
theorem own_two {K : PySem.W.Frag} {i j : Nat} {vs : List Nat} (hi : i ∈ vs) (hj : j ∈ vs) : Own (gTup K 2 (gCons (gName i) (gCons (gName j) gNil))) vs :=
  own_tup (owns_cons (own_name hi) gm_name (owns_cons (own_name hj) gm_name owns_nil gm_nil) (gm_cons gm_name gm_nil))
theorem own_three {K : PySem.W.Frag} {i j l : Nat} {vs : List Nat} (hi : i ∈ vs) (hj : j ∈ vs) (hl : l ∈ vs) : Own (gTup K 3 (gCons (gName i) (gCons (gName j) (gCons (gName l) gNil)))) vs :=
  own_tup (owns_cons (own_name hi) gm_name (owns_cons (own_name hj) gm_name (owns_cons (own_name hl) gm_name owns_nil gm_nil) (gm_cons gm_name gm_nil)) (gm_cons gm_name (gm_cons gm_name gm_nil)))

section
variable {b : Bx} {F F' H H' : Hp} {as as' : List Addr} {s s' : S} {σ σ' : L2.St} {k : AV → S → Prop} {A : AE}

/-- a set of slots is emptied -/
theorem sl_wipe {env : List AV} (hl : σ.length = env.length) (h : ∀ (i : Nat) av, env[i]? = some av → ∃ o, σ[i]? = some o ∧ SlRep b.K F as o av) : ∀ vs : List Nat, (wipe σ vs).length = (wipeA env vs).length ∧ ∀ (i : Nat) av, (wipeA env vs)[i]? = some av → ∃ o, (wipe σ vs)[i]? = some o ∧ SlRep b.K F as o av
  | [] => ⟨hl, h⟩
  | j :: vs => by
    obtain ⟨h1, h2⟩ := sl_wipe hl h vs
    refine ⟨by show ((wipe σ vs).set j none).length = ((wipeA env vs).set j .un).length; rw [List.length_set, List.length_set, h1], fun i av e => ?_⟩
    have e : ((wipeA env vs).set j .un)[i]? = some av := e
    show ∃ o, ((wipe σ vs).set j none)[i]? = some o ∧ _
    by_cases hj : i = j
    · subst hj
      have hli : i < (wipeA env vs).length := by
        have := lt_of_get e
        rwa [List.length_set] at this
      rw [List.getElem?_set_self hli] at e
      obtain rfl := Option.some.inj e
      exact ⟨none, by rw [List.getElem?_set_self (by omega)], trivial⟩
    · rw [List.getElem?_set_ne (Ne.symm hj)] at e ⊢
      exact h2 i av e
/-- the state within a comprehension's block: its own names empty, the new list the last cell -/
def S.blk (s : S) (vs : List Nat) (acc : List D) : S := ⟨wipeA s.env vs, s.cs ++ [.lst acc]⟩
theorem G.blk {vs : List Nat} {acc : List D} {F2 H2 : Hp} {as2 : List Addr} (g : G b F as s σ H) (m : Gm b.K b.B b.F0 F2 as2 (s.cs ++ [.lst acc]) H2) (e : Ex F F2) (p : Pre as as2) : G b F2 as2 (s.blk vs acc) (wipe σ vs) H2 := by
  obtain ⟨h1, h2⟩ := sl_wipe (F := F2) (as := as2) (b := b) g.len (fun i av h => by
    obtain ⟨o, q1, q2⟩ := g.sl i av h
    exact ⟨o, q1, q2.mono e p⟩) vs
  exact ⟨m, g.pr.trans p, g.e0.trans e, h1, h2⟩
/-- behind the block: the list is frozen, the state as it was -/
theorem blk_end {acc : List D} {F2 H2 : Hp} {as2 : List Addr} {p : Addr} (g : G b F as s σ H) (m : Gm b.K b.B b.F0 F2 (as ++ [p]) (s.cs ++ [.lst acc]) H2) (e : Ex F F2) (hr : ∀ c ∈ s.cs, noRef s.cs.length c) : ∃ F3, G b F3 as s σ H2 ∧ Ex F F3 ∧ Rep b.K F3 (.ref p) (.lst acc) := by
  have hla : as.length = s.cs.length := g.gm.len
  have h1 : (as ++ [p])[s.cs.length]? = some p := by rw [← hla, List.getElem?_append_right (Nat.le_refl _), Nat.sub_self] <;> rfl
  have h2 : (s.cs ++ [CO.lst acc])[s.cs.length]? = some (.lst acc) := by rw [List.getElem?_append_right (Nat.le_refl _), Nat.sub_self] <;> rfl
  obtain ⟨x1, x2, vs, x3, x4⟩ := m.cell _ _ _ h1 h2 trivial
  obtain ⟨m', e'⟩ := m.fr h1 h2 trivial x3
  have lift : ∀ {i : Nat} {c : Addr}, as[i]? = some c → (as ++ [p])[i]? = some c := fun {i c} h => (Pre.snoc as p).get h
  refine ⟨_, g.of (F' := upd F2 p (.lst vs)) (as' := as) (s' := s) ⟨m'.fh, m'.bh, m'.nw, hla, g.gm.nd, fun i c h => m'.ha i c (lift h), fun i c d e1 e2 e3 => ?_⟩ (e.trans e') (.refl as) rfl, e.trans e', .lst upd_same (x4.mono e')⟩
  have hi : i < s.cs.length := lt_of_get e2
  have q : ((s.cs ++ [CO.lst acc]).set s.cs.length .dead)[i]? = some d := by
    rw [List.getElem?_set_ne (by omega), List.getElem?_append_left hi]
    exact e2
  obtain ⟨y1, y2, y3⟩ := m'.cell i c d (lift e1) q e3
  exact ⟨y1, y2, y3.cut (by rw [hla]; exact hr d (List.mem_of_getElem? e2))⟩
/-- [e for target in source if test] -/
theorem we_lc {wi : TI} {g : TG} {tt : TT} {te : TE} {vs : List Nat} (ho : Own g vs) (h : WI b wi s fun ds s1 => ds.length ≤ sizeLine ∧ (∀ c ∈ s1.cs, noRef s1.cs.length c) ∧ ∃ I : Nat → List D → Prop, I 0 [] ∧
    (∀ (i : Nat) d acc, ds[i]? = some d → I i acc → WG b g (.d d) (s1.blk vs acc) fun s2 => WT b tt s2 fun y s3 => (y = true → WE b te s3 fun av s4 => ∃ z, av = .d z ∧ s4.cs = s1.cs ++ [.lst acc] ∧ I (i + 1) (acc ++ [z])) ∧ (y = false → s3.cs = s1.cs ++ [.lst acc] ∧ I (i + 1) acc)) ∧
    ∀ acc, I ds.length acc → k (.d (.lst acc)) s1) : WE b (tLc wi g tt te vs) s k := fun F as σ H gg Q q =>
  h F as σ H gg _ fun J ds s1 F1 as1 H1 h1 g1 e1 p1 wk => fun p hp => by
    obtain ⟨hsz, hr, I, i0, hs, hd⟩ := h1
    have m0 := g1.gm.nc (o := .lst []) (co := .lst []) hp ⟨[], upd_same, .nil⟩
    refine ⟨fun i m H => m = ds.length - i ∧ i ≤ ds.length ∧ ∃ acc F2, I i acc ∧ acc.length ≤ i ∧ Gm b.K b.B b.F0 F2 (as1 ++ [p]) (s1.cs ++ [.lst acc]) H ∧ Ex F1 F2, ⟨ds.length, by omega, Nat.zero_le _, [], F1, i0, Nat.le_refl _, m0, .refl F1⟩, ?_⟩
    rintro i m H2 ⟨rfl, hi, acc, F2, h2, hal, m2, e2⟩
    have g2 : G b F2 (as1 ++ [p]) (s1.blk vs acc) (wipe σ vs) H2 := g1.blk m2 e2 (.snoc as1 p)
    by_cases hlt : i < ds.length
    · have hx : ds[i]? = some ds[i] := List.getElem?_eq_getElem hlt
      obtain ⟨go, yl⟩ := wk.go F2 _ _ _ H2 i _ e2 g2 hx
      refine .inr ⟨go, fun H => ∃ acc F3, I (i + 1) acc ∧ acc.length ≤ i + 1 ∧ Gm b.K b.B b.F0 F3 (as1 ++ [p]) (s1.cs ++ [.lst acc]) H ∧ Ex F1 F3, fun H' z => ⟨ds.length - (i + 1), by omega, rfl, hlt, z⟩, fun x H' y => ?_⟩
      obtain ⟨F3, e3, g3, r3⟩ := yl x H' y
      have same : ∀ {as4 : List Addr} {F4 H4 : Hp}, Gm b.K b.B b.F0 F4 as4 (s1.cs ++ [.lst acc]) H4 → Pre (as1 ++ [p]) as4 → as4 = as1 ++ [p] := fun {as4 F4 H4} m4 hp4 => by
        obtain ⟨zs, rfl⟩ := hp4
        have := m4.len
        have h5 := m2.len
        rw [List.length_append] at this
        have : zs.length = 0 := by omega
        rw [List.length_eq_zero_iff.mp this, List.append_nil]
      have step := hs i _ acc hx h2 F3 _ _ H' x g3 r3 (fun σ' H'' => tt σ' H'' fun c H3 => if c = true then te σ' H3 fun y H4 => ∃ accV, H4 p = some (.lst accV) ∧ accV.length < sizeLine ∧ (∃ acc F3, I (i + 1) acc ∧ acc.length ≤ i + 1 ∧ Gm b.K b.B b.F0 F3 (as1 ++ [p]) (s1.cs ++ [.lst acc]) (upd H4 p (.lst (accV ++ [y]))) ∧ Ex F1 F3) else ∃ acc F3, I (i + 1) acc ∧ acc.length ≤ i + 1 ∧ Gm b.K b.B b.F0 F3 (as1 ++ [p]) (s1.cs ++ [.lst acc]) H3 ∧ Ex F1 F3) fun s4 F4 as4 σ4 H4 h4 g4 e4 p4 => ?_
      · have := ho _ _ _ _ step
        refine cast ?_ this
        congr 1
        funext σ2 H2'
        rw [wipe_wipe]
        exact propext ⟨fun z => ⟨z.2, z.1⟩, fun z => ⟨z.2, z.1⟩⟩
      · refine h4 F4 as4 σ4 H4 g4 _ fun c s5 F5 as5 H5 h5 g5 e5 p5 => ?_
        cases c with
        | true =>
          refine h5.1 rfl F5 as5 σ4 H5 g5 _ fun v av s6 F6 as6 H6 h6 g6 e6 p6 r6 => ?_
          obtain ⟨z, rfl, hcs, hI⟩ := h6
          have m6 := g6.gm
          rw [hcs] at m6
          have := same m6 ((p4.trans p5).trans p6)
          subst this
          have hla : as1.length = s1.cs.length := g1.gm.len
          have q1 : (as1 ++ [p])[s1.cs.length]? = some p := by rw [← hla, List.getElem?_append_right (Nat.le_refl _), Nat.sub_self] <;> rfl
          have q2 : (s1.cs ++ [CO.lst acc])[s1.cs.length]? = some (.lst acc) := by rw [List.getElem?_append_right (Nat.le_refl _), Nat.sub_self] <;> rfl
          obtain ⟨x1, x2, accV, x3, x4⟩ := m6.cell _ _ _ q1 q2 trivial
          refine ⟨accV, x3, by rw [x4.length]; omega, acc ++ [z], F6, hI, by rw [List.length_append, List.length_singleton]; omega, ?_, (((e2.trans e3).trans e4).trans e5).trans e6⟩
          have m7 := m6.put (o := .lst (accV ++ [v])) (co' := .lst (acc ++ [z])) q1 q2 trivial ⟨_, upd_same, x4.append (.one r6)⟩
          rw [List.set_append_right _ _ (Nat.le_refl _), Nat.sub_self] at m7
          exact m7
        | false =>
          obtain ⟨hcs, hI⟩ := h5.2 rfl
          have m5 := g5.gm
          rw [hcs] at m5
          have := same m5 (p4.trans p5)
          subst this
          exact ⟨acc, F5, hI, by omega, m5, ((e2.trans e3).trans e4).trans e5⟩
    · have hq : i = ds.length := by omega
      subst hq
      refine .inl ⟨wk.stop F2 _ _ _ H2 _ e2 g2 (Nat.le_refl _), ?_⟩
      obtain ⟨F3, g3, e3, r3⟩ := blk_end (as2 := as1) g1 m2 e2 hr
      exact q _ _ s1 F3 as1 H2 (hd acc h2) g3 (e1.trans e3) p1 r3
/-- .. each element by f -/
theorem we_lcmap {wi : TI} {g : TG} {te : TE} {vs : List Nat} (ho : Own g vs) (h : WI b wi s fun ds s1 => ds.length ≤ sizeLine ∧ (∀ c ∈ s1.cs, noRef s1.cs.length c) ∧ ∃ f : D → D,
    (∀ (i : Nat) d acc, ds[i]? = some d → WG b g (.d d) (s1.blk vs acc) fun s2 => WE b te s2 fun av s4 => av = .d (f d) ∧ s4.cs = s1.cs ++ [.lst acc]) ∧ k (.d (.lst (ds.map f))) s1) : WE b (tLc wi g tYes te vs) s k := by
  refine we_lc ho fun F as σ H gg R q => h F as σ H gg R fun J ds s1 F1 as1 H1 h1 => ?_
  obtain ⟨h1, h2, f, h3, h4⟩ := h1
  refine q J ds s1 F1 as1 H1 ⟨h1, h2, fun i acc => acc = (ds.take i).map f, rfl, fun i d acc hd ha => ?_, fun acc ha => ?_⟩
  · intro F2 as2 σ2 H2 v g2 r2 Q q2
    refine h3 i d acc hd F2 as2 σ2 H2 v g2 r2 Q fun s3 F3 as3 σ3 H3 h3' => q2 s3 F3 as3 σ3 H3 ?_
    refine wt_yes ⟨fun _ => ?_, fun z => by cases z⟩
    refine WE.mono h3' fun av s4 h4 => ⟨f d, h4.1, h4.2, ?_⟩
    subst ha
    rw [List.take_add_one, hd, List.map_append]
    rfl
  · subst ha
    rw [List.take_length]
    exact h4
/-- .. where p holds, by f -/
theorem we_lcfil {wi : TI} {g : TG} {tt : TT} {te : TE} {vs : List Nat} (ho : Own g vs) (h : WI b wi s fun ds s1 => ds.length ≤ sizeLine ∧ (∀ c ∈ s1.cs, noRef s1.cs.length c) ∧ ∃ (p : D → Bool) (f : D → D),
    (∀ (i : Nat) d acc, ds[i]? = some d → WG b g (.d d) (s1.blk vs acc) fun s2 => WT b tt s2 fun y s3 => y = p d ∧ s3.cs = s1.cs ++ [.lst acc] ∧ (p d = true → WE b te s3 fun av s4 => av = .d (f d) ∧ s4.cs = s1.cs ++ [.lst acc])) ∧ k (.d (.lst ((ds.filter p).map f))) s1) : WE b (tLc wi g tt te vs) s k := by
  refine we_lc ho fun F as σ H gg R q => h F as σ H gg R fun J ds s1 F1 as1 H1 h1 => ?_
  obtain ⟨h1, h2, p, f, h3, h4⟩ := h1
  refine q J ds s1 F1 as1 H1 ⟨h1, h2, fun i acc => acc = ((ds.take i).filter p).map f, rfl, fun i d acc hd ha => ?_, fun acc ha => ?_⟩
  · intro F2 as2 σ2 H2 v g2 r2 Q q2
    refine h3 i d acc hd F2 as2 σ2 H2 v g2 r2 Q fun s3 F3 as3 σ3 H3 h3' => q2 s3 F3 as3 σ3 H3 ?_
    intro F4 as4 σ4 H4 g4 Q4 q4
    refine h3' F4 as4 σ4 H4 g4 Q4 fun y s5 F5 as5 H5 h5 => q4 y s5 F5 as5 H5 ?_
    obtain ⟨rfl, hc, h6⟩ := h5
    have et : ((ds.take (i + 1)).filter p).map f = ((ds.take i).filter p).map f ++ (if p d = true then [f d] else []) := by
      rw [List.take_add_one, hd, List.filter_append, List.map_append]
      congr 1
      show (List.filter p [d]).map f = _
      by_cases hp : p d = true
      · rw [List.filter_cons_of_pos hp, if_pos hp]
        rfl
      · rw [List.filter_cons_of_neg hp, if_neg hp]
        rfl
    refine ⟨fun hp => WE.mono (h6 hp) fun av s7 h7 => ⟨f d, h7.1, h7.2, ?_⟩, fun hp => ⟨hc, ?_⟩⟩
    · show _ = ((ds.take (i + 1)).filter p).map f
      rw [et, if_pos hp, ha]
    · show _ = ((ds.take (i + 1)).filter p).map f
      rw [et, if_neg (by rw [hp]; exact Bool.false_ne_true), List.append_nil, ha]
  · subst ha
    rw [List.take_length]
    exact h4

-- ### exceptions
/-- the fields of an exception, its own dict at d -/
def XRep (K : PySem.W.Frag) (F : Hp) (d : Option Addr) (fs : List (Str × D)) : Prop := ∃ dd fvs, d = some dd ∧ F dd = some (.xd fvs) ∧ fvs.map (·.1) = fs.map (·.1) ∧ Reps K F (fvs.map (·.2)) (fs.map (·.2))
theorem XRep.mono {K : PySem.W.Frag} {d : Option Addr} {fs : List (Str × D)} (e : Ex F F') (h : XRep K F d fs) : XRep K F' d fs := by
  obtain ⟨dd, fvs, h1, h2, h3, h4⟩ := h
  exact ⟨dd, fvs, h1, e _ _ h2, h3, h4.mono e⟩
/-- what is wished of exceptions takes those that ex tells -/
def XOk (b : Bx) (W : WX) (ex : Addr → List (Str × D) → S → Prop) : Prop := ∀ C d fs s F as σ H, ex C fs s → G b F as s σ H → XRep b.K F d fs → W (.ref C) d σ H
/-- C(e, ..): an error of the class at C with its fields -/
def tErr (C : Addr) (names : List Str) (ta : TA) : L2.St → Hp → XK → Prop := fun σ H Q => ta σ H fun vs H1 => vs.length = names.length ∧ ∀ d, H1 d = none → Q (.ref C) (some d) (upd H1 d (.xd (names.zip vs)))
theorem ws_raise {W : WX} {ex : Addr → List (Str × D) → S → Prop} {C : Addr} {names : List Str} {ta : TA} (hW : XOk b W ex) (h : WA b ta s fun xs s1 => ∃ ds, xs = ds.map .d ∧ ds.length = names.length ∧ ex C (names.zip ds) s1) :
    WS b (fun _ σ H => tErr C names ta σ H fun cls d H' => W cls d σ H') s A := fun F as σ H E g ok =>
  h F as σ H g _ fun vs xs s1 F1 as1 H1 h1 g1 e1 p1 r1 => by
    obtain ⟨ds, rfl, hl, hx⟩ := h1
    have rd := r1.ds
    refine ⟨by rw [rd.length, hl], fun d hd => ?_⟩
    obtain ⟨m, e⟩ := g1.gm.fz (o := .xd (names.zip vs)) hd
    refine hW C (some d) _ s1 _ as1 σ _ hx (g1.of m e (.refl as1) rfl) ⟨d, _, rfl, upd_same, ?_, ?_⟩
    · have l1 := rd.length
      show List.map Prod.fst (List.zip names vs) = List.map Prod.fst (List.zip names ds)
      rw [List.map_fst_zip (by omega), List.map_fst_zip (by omega)]
    · have l1 := rd.length
      show Reps b.K _ (List.map Prod.snd (List.zip names vs)) (List.map Prod.snd (List.zip names ds))
      rw [List.map_snd_zip (by omega), List.map_snd_zip (by omega)]
      exact rd.mono e

-- ### calls
/-- what a def is worth: by its arguments and the cells handed in; k behind it, ex at an error -/
abbrev Wp := List AV → List CO → (AV → List CO → Prop) → (Addr → List (Str × D) → List CO → Prop) → Prop
def spG (K : PySem.W.Frag) (φ : Wp) : Sp := fun vs H Q E => ∃ (B F : Hp) (as : List Addr) (avs : List AV) (cs : List CO), Gm K B F F as cs H ∧ AVReps K F as vs avs ∧
  φ avs cs (fun av cs' => ∀ v F' as' H', Gm K B F F' as' cs' H' → Ex F F' → Pre as as' → AVRep K F' as' v av → Q v H') (fun C fs cs' => ∀ d F' as' H', Gm K B F F' as' cs' H' → Ex F F' → Pre as as' → XRep K F' d fs → E (.ref C) d H')
/-- a def of data alone -/
def wpD (pre : List D → Prop) (post : List D → D → Prop) (exc : List D → Addr → List (Str × D) → Prop) : Wp := fun avs cs k ex => cs = [] ∧ ∃ ds, avs = ds.map .d ∧ pre ds ∧ (∀ d cs', post ds d → k (.d d) cs') ∧ ∀ C fs cs', exc ds C fs → ex C fs cs'
abbrev spD (K : PySem.W.Frag) (pre : List D → Prop) (post : List D → D → Prop) (exc : List D → Addr → List (Str × D) → Prop) : Sp := spG K (wpD pre post exc)
/-- the state of a callee that gets no cells, over the caller's -/
theorem Gm.callee {K : PySem.W.Frag} {B F0 : Hp} {cs : List CO} (g : Gm K B F0 F as cs H) : Gm K H F F [] [] H :=
  ⟨g.fh, .refl H, fun p o e => .inl ⟨o, e⟩, rfl, List.nodup_nil, fun i a e => by simp at e, fun i a co e => by simp at e⟩
/-- .. and back -/
theorem Gm.back {K : PySem.W.Frag} {B F0 : Hp} {cs cs' : List CO} (g : Gm K B F0 F as cs H) (m : Gm K H F F' as' cs' H') (e : Ex F F') : Gm K B F0 F' as cs H' := by
  refine ⟨m.fh, g.bh.trans m.bh, fun p o h => ?_, g.len, g.nd, fun i a h => ?_, fun i a co h1 h2 h3 => ?_⟩
  · rcases m.nw p o h with ⟨u, hu⟩ | hn | ht
    · rcases g.nw p u hu with z | z | ⟨xs, z⟩
      · exact .inl z
      · exact .inr (.inl z)
      · refine .inr (.inr ⟨xs, ?_⟩)
        have := e p u hu
        rw [h] at this
        rw [Option.some.inj this, z]
    · exact .inr (.inl (g.bh.free hn))
    · exact .inr (.inr ht)
  · obtain ⟨o, ho⟩ := g.ha i a h
    exact ⟨o, m.bh _ _ ho⟩
  · obtain ⟨x1, x2, x3⟩ := g.cell i a co h1 h2 h3
    refine ⟨?_, x2, x3.mono e (.refl as) fun o ho => m.bh _ _ ho⟩
    cases q : F' a with
    | none => rfl
    | some o =>
      rcases m.nw a o q with ⟨u, hu⟩ | hn | ⟨xs, ht⟩
      · rw [x1] at hu
        cases hu
      · obtain ⟨u, hu⟩ := x3.there h3
        rw [hn] at hu
        cases hu
      · obtain ⟨u, hu⟩ := x3.there h3
        have z1 := m.bh a u hu
        have z2 := m.fh a o q
        rw [z1] at z2
        rw [Option.some.inj z2, ht] at hu
        exact (x3.notTup h3 hu).elim
theorem we_callD {pre : List D → Prop} {post : List D → D → Prop} {exc : List D → Addr → List (Str × D) → Prop} {E : L2.St → XK} {ex : Addr → List (Str × D) → S → Prop} {ta : TA} (hW : XOk b (fun c d σ H => E σ c d H) ex)
    (h : WA b ta s fun xs s1 => ∃ ds, xs = ds.map .d ∧ pre ds ∧ (∀ d, post ds d → k (.d d) s1) ∧ ∀ C fs, exc ds C fs → ex C fs s1) : WE b (tCallS (spD b.K pre post exc) E ta) s k := fun F as σ H g Q q =>
  h F as σ H g _ fun vs xs s1 F1 as1 H1 h1 g1 e1 p1 r1 => by
    obtain ⟨ds, rfl, hp, hk, hx⟩ := h1
    have rd := r1.ds
    refine ⟨H1, F1, [], ds.map .d, [], g1.gm.callee, .of_ds rd, rfl, ds, rfl, hp, fun d cs' hd v F' as' H' m e _ r => ?_, fun C fs cs' hc d F' as' H' m e _ xr => ?_⟩
    · exact q v (.d d) s1 F' as1 H' (hk d hd) (g1.of (g1.gm.back m e) e (.refl as1) rfl) (e1.trans e) p1 r
    · exact hW C d fs s1 F' as1 σ H' (hx C fs hc) (g1.of (g1.gm.back m e) e (.refl as1) rfl) xr
/-- no exception is wished -/
theorem XOk.no {W : WX} : XOk b W fun _ _ _ => False := fun _ _ _ _ _ _ _ _ h => h.elim
theorem we_callD0 {pre : List D → Prop} {post : List D → D → Prop} {exc : List D → Addr → List (Str × D) → Prop} {ta : TA}
    (h : WA b ta s fun xs s1 => ∃ ds, xs = ds.map .d ∧ pre ds ∧ (∀ d, post ds d → k (.d d) s1) ∧ ∀ C fs, ¬ exc ds C fs) : WE b (tCall (spD b.K pre post exc) [] E0 ta) s k := fun F as σ H g Q q =>
  h F as σ H g _ fun vs xs s1 F1 as1 H1 h1 g1 e1 p1 r1 => by
    obtain ⟨ds, rfl, hp, hk, hx⟩ := h1
    have rd := r1.ds
    show spD b.K pre post exc (vs ++ []) H1 Q E0
    rw [List.append_nil]
    refine ⟨H1, F1, [], ds.map .d, [], g1.gm.callee, .of_ds rd, rfl, ds, rfl, hp, fun d cs' hd v F' as' H' m e _ r => ?_, fun C fs cs' hc d F' as' H' m e _ xr => ?_⟩
    · exact q v (.d d) s1 F' as1 H' (hk d hd) (g1.of (g1.gm.back m e) e (.refl as1) rfl) (e1.trans e) p1 r
    · exact absurd hc (hx C fs)
/-- THE RULE for a def of the text: its body's derivation, and the reading over states -/
theorem okG {P : Program} {w : World} {K : PySem.W.Frag} {mg : Str → Option Value} {base : Heap} {x qual : Str} {st : Stmt} {f : Addr} {fd : FuncData} {N ps : List Str} {n : Nat} {φ : Wp} (Fn : Fun K x qual st f fd) (Sc : FnScope N ps (defScope st)) (len : ∀ avs cs k ex, φ avs cs k ex → avs.length = ps.length)
    (hbody : ∀ (cdv : Value) (A : Around) (outer : List Env) (sh : Shared) (H : Hp) (E : XK), Room n (A.deeper (PyProof.Rows.envOfC qual (defScope st) sh.heap.objs.size f cdv)) →
      ∃ t, PSs (cxOf (L2.CX P w) P w K mg base N qual (defScope st) f cdv A outer sh H E) (defBody st) t ∧ ∀ (B F0 : Hp) (a0 : List Addr) (avs : List AV) (cs : List CO) (kk : AV → List CO → Prop) (ex : Addr → List (Str × D) → List CO → Prop),
        XOk ⟨K, B, F0, a0⟩ (fun cls d _ H => E cls d H) (fun C fs s => ex C fs s.cs) → φ avs cs kk ex → WS ⟨K, B, F0, a0⟩ t ⟨avs ++ List.replicate (N.length - ps.length) .un, cs⟩ { nx := fun s => kk (.d .non) s.cs, rt := fun av s => kk av s.cs }) :
    FnOk P w K mg base (L2.CX P w) (n + 1) f fd ps (spG K φ) := by
  refine Fn.okX Sc (fun vs H Q E h => ?_) (fun cdv A outer sh H vs Q E hr h => ?_)
  · obtain ⟨B, F, as, avs, cs, g, r, p⟩ := h
    rw [r.length]
    exact len _ _ _ _ p
  · obtain ⟨t, ht, hw⟩ := hbody cdv A outer sh H E hr
    refine ⟨t, ht, ?_⟩
    obtain ⟨B, F, as, avs, cs, g, r, p⟩ := h
    have hl := len _ _ _ _ p
    have hpl : ps.length ≤ N.length := by
      have := congrArg List.length Sc.pre
      rw [List.length_take] at this
      omega
    refine hw B F as avs cs _ _ (fun C d fs s F' as' σ' H' hx g' xr => hx d F' as' H' g'.gm g'.e0 g'.pr xr) p F as (L2.start N vs) H _ ⟨g, .refl as, .refl F, ?_, fun i av hi => ?_⟩ ⟨fun s F' as' σ' H' hk g' e' => hk .non F' as' H' g'.gm e' g'.pr Rep.non, fun v av s F' as' σ' H' hk g' e' r' => hk v F' as' H' g'.gm e' g'.pr r', fun _ _ _ _ _ h => h.elim, fun _ _ _ _ _ h => h.elim⟩
    · have := r.length
      show (L2.start N vs).length = (avs ++ List.replicate (N.length - ps.length) AV.un).length
      unfold L2.start
      rw [List.length_append, List.length_map, List.length_replicate, List.length_append, List.length_replicate, this, hl]
    · have hi : (avs ++ List.replicate (N.length - ps.length) AV.un)[i]? = some av := hi
      have hvl := r.length
      unfold L2.start
      by_cases hlt : i < avs.length
      · rw [List.getElem?_append_left hlt] at hi
        obtain ⟨v, h1, h2⟩ := r.get hi
        refine ⟨some v, ?_, .some h2⟩
        rw [List.getElem?_append_left (by rw [List.length_map]; omega), List.getElem?_map, h1]
        rfl
      · rw [List.getElem?_append_right (by omega), List.getElem?_replicate] at hi
        split at hi
        · rename_i hh
          obtain rfl := Option.some.inj hi
          refine ⟨none, ?_, trivial⟩
          rw [List.getElem?_append_right (by rw [List.length_map]; omega), List.getElem?_replicate, if_pos (by rw [List.length_map]; omega)]
        · cases hi
end
end KW

-- Own errors whose __init__ says super().__init__(what), self.what = what (and one field more).
namespace PySem
namespace KwX
open PySem.W PySem.Calls PyProof.Rows PySem.HandSPX
-- ### the text of __init__
def a1 (p1 p2 : Pos) : Arguments := { posonlyargs := [], args := [{ arg := "self", annotation := none, pos := p1 }, { arg := "what", annotation := none, pos := p2 }], vararg := none, kwonlyargs := [], kw_defaults := [], kwarg := none, defaults := [] }
def sup (q0 q1 q2 q3 q4 q5 : Pos) : Stmt := .Expr (.Call (.Attribute (.Call (.Name "super" q0) [] [] q1) "__init__" q2) [.Name "what" q3] [] q4) q5
def fldS (f : Str) (r1 r2 r3 r4 : Pos) : Stmt := .Assign [.Attribute (.Name "self" r1) f r2] (.Name f r3) r4
def sc1 : Scope := { kind := .function, names := [(PySem.Str.ofString "self", .local), (PySem.Str.ofString "what", .local), (PySem.Str.ofString "__class__", .free), (PySem.Str.ofString "super", .globalImplicit)], isGenerator := false, isCoroutine := false, more := [] }
def a2 (p1 p2 p3 : Pos) : Arguments := { posonlyargs := [], args := [{ arg := "self", annotation := none, pos := p1 }, { arg := "what", annotation := none, pos := p2 }, { arg := "many", annotation := none, pos := p3 }], vararg := none, kwonlyargs := [], kw_defaults := [], kwarg := none, defaults := [] }
def sc2 : Scope := { kind := .function, names := [(PySem.Str.ofString "self", .local), (PySem.Str.ofString "what", .local), (PySem.Str.ofString "many", .local), (PySem.Str.ofString "__class__", .free), (PySem.Str.ofString "super", .globalImplicit)], isGenerator := false, isCoroutine := false, more := [] }

/-- what the written part says of the class at C, its __init__ at fI, the cell of __class__ at cc -/
structure ErrTxt (K : Frag) (mg : Str → Option Value) (main : Str) (C fI : Addr) (scope : Scope) (qual : Str) (fd : FuncData) (cc cda : Addr) : Prop where
  cls : ∃ nm q N bs bm sn sub ab col dd k0 k1 k2 k3 k5, K.lookup C = some (excClassObj nm q C N bs bm true sn sub ab col dd k0 k1 k2 k3 k5 "ValueError.__new__") ∧ refsVE bm = true
  sa : findIn K (.ref C) "__setattr__" = some (some (.builtin "object.__setattr__"))
  ga : findIn K (.ref C) "__getattribute__" = some (some (.builtin "BaseException.__getattribute__"))
  gg : findIn K (.ref C) "__getattr__" = some none
  nW : findIn K (.ref C) "what" = some none
  nM : findIn K (.ref C) "many" = some none
  iC : findIn K (.ref C) "__init__" = some (some (.ref fI))
  tC : typeIn K (.ref fI) = some (.type "function")
  kC : keepIn K (.ref C) = true
  exC : subIn K (.ref C) (.type "BaseException") = some true
  veC : subIn K (.ref C) (.type "ValueError") = some true
  tyC : typeIn K (.ref C) = some (.type "type")
  hdC : hasDictIn K C = true
  te : exmOne K (.ref C) (.ref C) = some true
  fn : ∃ (oc : Value) (od : Option Addr) (osl : Array (Option Value)), K.lookup fI = some ⟨oc, od, .func fd, osl⟩ ∧ codeIn K (.ref cda) qual = true
  code : ∃ cl dd vs sl tf file, K.lookup cda = some ⟨cl, dd, .fields vs, sl⟩ ∧ vs[2]? = some (.str file tf) ∧ (main == file) = true
  cell : ∃ cl dd sl, K.lookup cc = some ⟨cl, dd, .cell (some (.ref C)), sl⟩
  sm : mroIn K C (.ref C) = some true
  su : ks_superIn K C C "__init__" = some (some (.builtin "ValueError.__init__"))
  ms : mg "super" = none
  mt : nsIn K cStatics "thirdparty.any" = some none
/-- how the text evaluates where it stands -/
def EvS (q0 q1 q2 q3 q4 q5 : Pos) (env : Env) : Prop := (∃ pl, eval (.Call (.Attribute (.Call (.Name "super" q0) [] [] q1) "__init__" q2) [.Name "what" q3] [] q4) env = (do
      let ov ← attributeBase (.Call (.Name "super" q0) [] [] q1) "__init__" env (eval (.Call (.Name "super" q0) [] [] q1) env)
      standAt q2.atName
      let (f, first) ← holding [ov] (getMethod ov "__init__" pl)
      callWith q4 f first (backTo q4 (starEach [.Name "what" q3] env)) [])) ∧
  swapsWith (.Call (.Attribute (.Call (.Name "super" q0) [] [] q1) "__init__" q2) [.Name "what" q3] [] q4) none q5.line env = pure false
theorem ldL {M : Model} {s : Shared} {m : Str → Option Value} {x : Str} {pos : Pos} {v : Value} {Q : Value → Shared → Prop} {A : Around} {E : Value → Shared → Prop} {env : Env} (hn : s.heap.Ns env.locals m) (hv : m x = some v) (h : Q v s)
    (hk : env.scope.kind = .function := by rfl) (hl : env.kindOf x = some .local := by rfl) (hd : (x == ("__debug__" : Str)) = false := by decide) :
    wpAny M A (eval (.Name x pos) env) Q E s := wpAny_Name (wpAny_loadName_local hk hl hn hv h) hd
/-- the call of ValueError.__init__ bound to the new error -/
theorem call_mw {prog : Program} {w : World} {A : Around} {E : Value → Shared → Prop} {h : Heap} {g : Array GenState} {d : Drawn} {t : Nat} {os : OsState} {nm q : Str} {C N : Addr} {bs bm : List Value} {hdct : Bool} {sn : List Str} {sub : List Value} {ab : Bool} {col : Option Bool} {dd : Option Addr} {k0 k1 k2 k3 k5 : Option Value}
    {u e t0 : Addr} {rest : List Value} {Q : Value → Shared → Prop}
    (hC : h.get? C = some (excClassObj nm q C N bs bm hdct sn sub ab col dd k0 k1 k2 k3 k5 "ValueError.__new__")) (he : h.get? e = some (excO C t0)) (hu : h.get? u = some (kxs_mw "ValueError.__init__" e)) (hrest : rest.length ≤ sizeLine)
    (hq : ∀ h' t1, (∀ b o, b ≠ e → h.get? b = some o → h'.get? b = some o) → h'.get? e = some (excO C t1) → Q .none ⟨h', g, d, t, os⟩) :
    wpAny (model prog w) A (call (.ref u) rest) Q E ⟨h, g, d, t, os⟩ := by
  refine wpAny_call (codeAny_of_tree ?_)
  show wpAny _ A.in1 (callAny (.ref u) ⟨rest, []⟩) _ _ _
  simp only [callAny]
  refine wpAny_bind (wpAny_load hu ?_)
  simp only [kxs_mw, show (Value.type "method-wrapper" == Value.type "method" || Value.type "method-wrapper" == Value.type "builtin_function_or_method" || Value.type "method-wrapper" == Value.type "method-wrapper") = true by decide, if_true]
  refine W.KFB.if_so (by decide) ?_
  refine wpAny_bind (check_bound_init F.excBase_ValueError.toExcCallFacts hC he rfl ?_)
  refine wpAny_bind (wpAny_pure (wpAny_pure ?_))
  refine ⟨Code.quiet_builtin _ (by decide +kernel), codeAny_builtin F.excBase_ValueError.initEntry ?_⟩
  rw [Around.under_plainId F.excBase_ValueError.init.plain _]
  wp_walk
  refine hq _ h.objs.size (fun b o hb ho => ?_) ?_
  · rw [Heap.get?_update_other _ _ (Ne.symm hb)]
    exact Heap.get?_push_of_some _ ho
  · rw [Heap.get?_update_self _ (Heap.get?_push_of_some _ he) rfl]
    rfl

theorem mw_callWith {M : Model} {A : Around} {E : Value → Shared → Prop} {s : Shared} {i : String} {u x : Addr} {pos : Pos} {env : Env} {e : Expr} {rest : List Expr} {Q : Value → Shared → Prop}
    (h : wpAny M A (spliced (backTo pos (starEach (e :: rest) env))) (fun vs s₁ => KxsAt i u x s₁.heap ∧ wpAny M A (call (.ref u) vs) Q E s₁) E s)
    (he : starEach (e :: rest) env = (false, eval e env) :: starEach rest env) (hplain : (backTo pos (starEach rest env)).any (·.1) = false) :
    wpAny M A (callWith pos (.ref u) [] (backTo pos (starEach (e :: rest) env)) []) Q E s := by
  rw [he] at h ⊢
  refine kxs_callWith (i := i) (x := x) (by show (false || (backTo pos (starEach rest env)).any (·.1)) = false; rw [hplain]; rfl) ?_
  exact evalArgs_plain h

section
variable {prog : Program} {w : World} {A : Around} {E : Value → Shared → Prop} {s : Shared} {K : Frag} {mg : Str → Option Value} {C fI cc cda : Addr} {scope : Scope} {qual : Str} {fd : FuncData}
/-- super().__init__(what) -/
theorem sup_ok (T : ErrTxt K mg prog.main.file C fI scope qual fd cc cda) {x t0 L : Addr} {v : Value} {m : Str → Option Value} {body rest : List Stmt} {q0 q1 q2 q3 q4 q5 : Pos} {Q : Flow → Shared → Prop} {ar : Arg}
    (X : K.In s.heap) (hG : s.heap.Ns mainGlobals mg) (hB : ∃ mb, s.heap.Ns builtinsNs mb ∧ ∀ x : Str, x ≠ "__name__" → mb x = bootBuiltins x) (hx : s.heap.get? x = some (excO C t0))
    (hn : s.heap.Ns L m) (hs : m "self" = some (.ref x)) (hv : m "what" = some v) (hp : (fd.params.posonlyargs ++ fd.params.args).head? = some ar) (har : ar.arg = "self")
    (hks : scope.names.lookup ("super" : Str) = some .globalImplicit) (hkc : scope.names.lookup ("__class__" : Str) = some .free) (hka : scope.names.lookup ("self" : Str) = some .local) (hkw : scope.names.lookup ("what" : Str) = some .local) (hk : scope.kind = .function)
    (htop : (prog.main.scope.names.lookup ("super" : Str)).isSome = false) (hLx : L ≠ x) (hev : EvS q0 q1 q2 q3 q4 q5 (ksEnv qual scope L fI (.ref cda) cc))
    (hq : ∀ h' tk t1, (∀ b o, b ≠ x → s.heap.get? b = some o → h'.get? b = some o) → h'.get? x = some (excO C t1) → h'.Ns L m →
      wpAt (model prog w) A (.func body (ksEnv qual scope L fI (.ref cda) cc)) (execs rest (ksEnv qual scope L fI (.ref cda) cc)) Q E { s with heap := h', toks := tk }) :
    wpAt (model prog w) A (.func body (ksEnv qual scope L fI (.ref cda) cc)) (execs (sup q0 q1 q2 q3 q4 q5 :: rest) (ksEnv qual scope L fI (.ref cda) cc)) Q E s := by
  obtain ⟨nm, q, N, bs, bm, sn, sub, ab, col, dd, k0, k1, k2, k3, k5, hC, hbm⟩ := T.cls
  obtain ⟨oc, od, osl, hf, hcd⟩ := T.fn
  obtain ⟨ccl, cdd, vs, ccs, tf, file, hcode, hvs, hfile⟩ := T.code
  obtain ⟨cl, cld, csl, hcell⟩ := T.cell
  obtain ⟨mb, hB1, hB2⟩ := hB
  have hcl : clsIn K C = some { name := nm, bases := bs, mro := .ref C :: bm, ns := N, qualname := q, hasDict := true, slotNames := sn, subclasses := sub, abstract := ab, collection := col, hasDel := false } := by unfold clsIn; rw [hC] <;> rfl
  have I : InstAt s.heap x (excO C t0) C none := ⟨hx, rfl, rfl, trivial⟩
  have hxC : x ≠ C := ks_ne X I hcl
  obtain ⟨⟨pl, hpl⟩, hsw⟩ := hev
  obtain ⟨hh, g, d, t, os⟩ := s
  refine ks_wpAt_execs_cons (ks_wpAt_Expr_any (ks_wpAt_MethodCall (pl := pl) ?_ hpl) (by simp [interactive, hk]) hsw)
  · refine ks_wpAt_super_base (env := ksEnv qual scope L fI (.ref cda) cc) hks hkc (by decide) rfl (X _ _ hf) rfl hp rfl (X _ _ hcode) rfl hvs hfile htop ?_
    refine ks_loadName_global hk hks (loadGlobal_builtin (env := ksEnv qual scope L fI (.ref cda) cc) hG T.ms hB1 ((hB2 _ (by decide +kernel)).trans (by decide +kernel)) ⟨rfl, ?_⟩)
    refine wpAny_loadName_free hk hkc rfl ⟨_, X _ _ hcell, rfl⟩ ?_
    rw [har]
    refine wpAny_loadName_local hk hka hn hs ?_
    refine ks_wpAny_isType_cls (X _ _ hC) rfl ⟨rfl, ?_⟩
    refine ks_wpAny_call_super (X _ _ hC) rfl I.at_ I.cls (fun c e => ?_) (looks_mroIn X T.sm) (fun h1 e1 k1' => ?_)
    · have := I.no
      unfold notCls at this
      rw [e] at this
      exact Bool.noConfusion this
    · -- getMethod
      have X1 : K.In h1 := X.keeps k1'
      have I1 : InstAt h1 x (excO C t0) C none := ⟨k1' _ _ hx, rfl, rfl, trivial⟩
      have su : alongIn K "__init__" (((Value.ref C :: bm).dropWhile (· != .ref C)).drop 1) = some (some (.builtin "ValueError.__init__")) := by
        have := T.su
        unfold ks_superIn at this
        rw [hcl] at this
        exact this
      refine kxs_getMethod kxs_ValueError e1 (looks_opaque X1 T.mt) (l₀ := .ref C :: bm) ?_ rfl X1 su (I1.type.andThen (looks_subIn X1 T.veC)) hxC (by decide) ?_
      · exact fun A Q E s k q => wpAny_bind ((looks_clsIn X1 hcl) A _ E s k (wpAny_pure q))
      · have k2' : ∀ b o, h1.get? b = some o → (h1.push (kxs_mw "ValueError.__init__" x)).get? b = some o := fun b o e => Heap.get?_push_of_some _ e
        show wpAny _ _ (callWith q4 (.ref h1.objs.size) [] (backTo q4 (starEach [.Name "what" q3] _)) []) _ _ _
        have hkeep : ∀ b o, hh.get? b = some o → (h1.push (kxs_mw "ValueError.__init__" x)).get? b = some o := fun b o e => k2' b o (k1' b o e)
        have hn2 : (h1.push (kxs_mw "ValueError.__init__" x)).Ns L m := hn.keeps hkeep
        have he : starEach [Expr.Name "what" q3] (ksEnv qual scope L fI (.ref cda) cc) = (false, eval (.Name "what" q3) (ksEnv qual scope L fI (.ref cda) cc)) :: starEach [] (ksEnv qual scope L fI (.ref cda) cc) := by rfl
        refine mw_callWith (i := "ValueError.__init__") (x := x) ?_ he rfl
        refine PyProof.Rows.args_cons (ldL hn2 hv ?_ hk hkw (by decide)) he
        refine PyProof.Rows.args_nil ?_
        refine ⟨Heap.get?_push_at rfl rfl, ?_⟩
        refine call_mw (hkeep _ _ (X _ _ hC)) (hkeep _ _ hx) (Heap.get?_push_at rfl rfl) (by show 1 ≤ sizeLine; rw [sizeLine_eq]; decide) fun h3 t1 k3' hx3 => ?_
        have hn3 : h3.Ns L m := by
          obtain ⟨oL, es, ep, hL, r⟩ := hn2
          exact ⟨oL, es, ep, k3' _ _ hLx hL, r⟩
        exact hq h3 _ t1 (fun b o hb e => k3' b o hb (hkeep b o e)) hx3 hn3
/-- what __init__ leaves of a fresh error at x -/
structure InitEnd (h h' : Heap) (x C dx t1 : Addr) (mo : Str → Option Value) : Prop where
  keep : ∀ b o, b ≠ x → h.get? b = some o → h'.get? b = some o
  obj : h'.get? x = some { cls := .ref C, dict := some dx, data := .fields #[.ref t1, .none, .none, .none, .bool false, .none] }
  dbig : h.objs.size ≤ dx
  dne : dx ≠ x
  ns : h'.Ns1 dx mo
/-- a made error -/
structure OwnMade (h h' : Heap) (e C d : Addr) (mo : Str → Option Value) : Prop where
  keep : ∀ b o, h.get? b = some o → h'.get? b = some o
  new : h.objs.size ≤ e
  obj : ∃ oe vs, h'.get? e = some oe ∧ oe.cls = .ref C ∧ oe.dict = some d ∧ oe.data = .fields vs ∧ vs[1]? = some .none
  dbig : h.objs.size ≤ d
  dne : d ≠ e
  ns : h'.Ns1 d mo
def mo1 (v : Value) : Str → Option Value := fun y => if y = "what" then some v else none
def mo2 (v u : Value) : Str → Option Value := fun y => if y = "many" then some u else if y = "what" then some v else none
variable {R : Result → Shared → Prop}
theorem kept_but {K : Frag} {h h' : Heap} {x : Addr} (X : K.In h) (hx : K.lookup x = none) (k : ∀ b o, b ≠ x → h.get? b = some o → h'.get? b = some o) : K.In h' := fun a o e =>
  k a o (fun z => by rw [z, hx] at e; cases e) (X a o e)
theorem ns_but {h h' : Heap} {L x : Addr} {m : Str → Option Value} (hn : h.Ns L m) (hx : L ≠ x) (k : ∀ b o, b ≠ x → h.get? b = some o → h'.get? b = some o) : h'.Ns L m := by
  obtain ⟨oL, es, ep, hL, r⟩ := hn
  exact ⟨oL, es, ep, k _ _ hx hL, r⟩
theorem hkc1 : ∀ x ∈ sc1.names, x.2 ≠ NameKind.cell := by decide +kernel
theorem hkc2 : ∀ x ∈ sc2.names, x.2 ≠ NameKind.cell := by decide +kernel
theorem l1s (x v : Value) : (List.lookup (PySem.Str.ofString "self") [(PySem.Str.ofString "self", x), (PySem.Str.ofString "what", v)].reverse) = some x := by with_unfolding_all rfl
theorem l1w (x v : Value) : (List.lookup (PySem.Str.ofString "what") [(PySem.Str.ofString "self", x), (PySem.Str.ofString "what", v)].reverse) = some v := by with_unfolding_all rfl
theorem l2s (x v u : Value) : (List.lookup (PySem.Str.ofString "self") [(PySem.Str.ofString "self", x), (PySem.Str.ofString "what", v), (PySem.Str.ofString "many", u)].reverse) = some x := by with_unfolding_all rfl
theorem l2w (x v u : Value) : (List.lookup (PySem.Str.ofString "what") [(PySem.Str.ofString "self", x), (PySem.Str.ofString "what", v), (PySem.Str.ofString "many", u)].reverse) = some v := by with_unfolding_all rfl
theorem l2m (x v u : Value) : (List.lookup (PySem.Str.ofString "many") [(PySem.Str.ofString "self", x), (PySem.Str.ofString "what", v), (PySem.Str.ofString "many", u)].reverse) = some u := by with_unfolding_all rfl
theorem hloc1 (x v : Value) : ∀ y ∈ [(PySem.Str.ofString "self", x), (PySem.Str.ofString "what", v)], sc1.names.lookup y.1 = some .local := fun y hy => by
  simp only [List.mem_cons, List.not_mem_nil, or_false] at hy
  rcases hy with rfl | rfl
  · exact (by decide +kernel : sc1.names.lookup (PySem.Str.ofString "self") = some NameKind.local)
  · exact (by decide +kernel : sc1.names.lookup (PySem.Str.ofString "what") = some NameKind.local)
theorem hloc2 (x v u : Value) : ∀ y ∈ [(PySem.Str.ofString "self", x), (PySem.Str.ofString "what", v), (PySem.Str.ofString "many", u)], sc2.names.lookup y.1 = some .local := fun y hy => by
  simp only [List.mem_cons, List.not_mem_nil, or_false] at hy
  rcases hy with rfl | rfl | rfl
  · exact (by decide +kernel : sc2.names.lookup (PySem.Str.ofString "self") = some NameKind.local)
  · exact (by decide +kernel : sc2.names.lookup (PySem.Str.ofString "what") = some NameKind.local)
  · exact (by decide +kernel : sc2.names.lookup (PySem.Str.ofString "many") = some NameKind.local)
theorem within1 (v : Value) : Within (mo1 v) ["what"] := fun y hy => by
  unfold mo1 at hy
  by_cases h : y = "what"
  · rw [h]; exact List.mem_cons_self
  · rw [if_neg h] at hy; exact absurd rfl hy
theorem init1 {kV doc pm ct : Value} {an : Option Addr} {p1 p2 q0 q1 q2 q3 q4 q5 r1 r2 r3 r4 : Pos}
    (T : ErrTxt K mg prog.main.file C fI sc1 qual (ksFn "__init__" qual (a1 p1 p2) [sup q0 q1 q2 q3 q4 q5, fldS "what" r1 r2 r3 r4] sc1 .none kV doc pm an (.ref cda) ct cc) cc cda)
    (hev : ∀ L, EvS q0 q1 q2 q3 q4 q5 (ksEnv qual sc1 L fI (.ref cda) cc)) {x t0 : Addr} {v : Value} (X : K.In s.heap) (hlim : s.heap.NoLimit) (hG : s.heap.Ns mainGlobals mg) (hB : ∃ mb, s.heap.Ns builtinsNs mb ∧ ∀ x : Str, x ≠ "__name__" → mb x = bootBuiltins x)
    (htop : (prog.main.scope.names.lookup ("super" : Str)).isSome = false) (hx : s.heap.get? x = some (excO C t0)) (hnx : K.lookup x = none) (hroom : A.depth < recursionLimit)
    (hq : ∀ h' tk dx t1, InitEnd s.heap h' x C dx t1 (mo1 v) → R (.ok (.ret .none)) { s with heap := h', toks := tk }) :
    codeAny (model prog w) A (.call (.ref fI) ⟨[.ref x, v], []⟩) R s := by
  obtain ⟨nm, q, N, bs, bm, sn, sub, ab, col, dd, k0, k1, k2, k3, k5, hC, hbm⟩ := T.cls
  obtain ⟨oc, od, osl, hf, hcd⟩ := T.fn
  have hcl : clsIn K C = some { name := nm, bases := bs, mro := .ref C :: bm, ns := N, qualname := q, hasDict := true, slotNames := sn, subclasses := sub, abstract := ab, collection := col, hasDel := false } := by unfold clsIn; rw [hC] <;> rfl
  refine ks_codeAny_call_defAt (fd := ksFn "__init__" qual (a1 p1 p2) [sup q0 q1 q2 q3 q4 q5, fldS "what" r1 r2 r3 r4] sc1 .none kV doc pm an (.ref cda) ct cc) (body := [sup q0 q1 q2 q3 q4 q5, fldS "what" r1 r2 r3 r4]) (binds := [("self", .ref x), ("what", v)]) hroom (X _ _ hf) rfl hlim (codeRec_of X hcd) rfl (BindsTo.of_eq (by first | rfl | with_unfolding_all rfl)) hkc1 (hloc1 _ _) (fun h₁ hns hk₁ => ?_) rfl rfl rfl
  have X₁ : K.In h₁ := X.keeps hk₁
  have hx₁ := hk₁ _ _ hx
  have hLx : s.heap.objs.size ≠ x := Nat.ne_of_gt (Heap.lt_size hx)
  obtain ⟨mb, hB1, hB2⟩ := hB
  refine sup_ok (v := v) (s := { s with heap := h₁, toks := s.toks + 2 }) (fd := ksFn "__init__" qual (a1 p1 p2) [sup q0 q1 q2 q3 q4 q5, fldS "what" r1 r2 r3 r4] sc1 .none kV doc pm an (.ref cda) ct cc) T X₁ (hG.keeps hk₁) ⟨mb, hB1.keeps hk₁, hB2⟩ hx₁ hns (l1s _ _) (l1w _ _) rfl rfl rfl rfl rfl rfl rfl htop hLx (hev _) fun h₂ tk t1 k₂ hx₂ hn₂ => ?_
  have X₂ : K.In h₂ := kept_but X₁ hnx k₂
  refine wpAt_of_wpAny (wpAny_execs_cons (plainObj_wpAny_Assign_Attribute ?_))
  refine ldL (v := v) hn₂ (l1w _ _) (ldL (v := .ref x) hn₂ (l1s _ _) ?_)
  refine set_plain X₂ (ox := excO C t1) (od := none) ⟨hx₂, rfl, rfl, trivial⟩ T.sa ?_
  refine exc_osa X₂ hx₂ hcl (show refsVE (.ref C :: bm) = true from hbm) rfl T.nW (fun h₃ tk₃ dx k₃ dn dne hx₃ hn₃ => ?_)
  show wpAny _ _ (execs _ _) _ _ _
  have z : s.heap.objs.size < h₂.objs.size := hn₂.lt
  exact wpAny_execs_nil (hq h₃ tk₃ dx t1 ⟨fun b o hb e => k₃ b o hb (k₂ b o hb (hk₁ b o e)), hx₃, Nat.le_of_lt (Nat.lt_of_lt_of_le z dn), dne, hn₃⟩)
theorem init2 {kV doc pm ct : Value} {an : Option Addr} {p1 p2 p3 q0 q1 q2 q3 q4 q5 r1 r2 r3 r4 u1 u2 u3 u4 : Pos}
    (T : ErrTxt K mg prog.main.file C fI sc2 qual (ksFn "__init__" qual (a2 p1 p2 p3) [sup q0 q1 q2 q3 q4 q5, fldS "what" r1 r2 r3 r4, fldS "many" u1 u2 u3 u4] sc2 .none kV doc pm an (.ref cda) ct cc) cc cda)
    (hev : ∀ L, EvS q0 q1 q2 q3 q4 q5 (ksEnv qual sc2 L fI (.ref cda) cc)) {x t0 : Addr} {v u : Value} (X : K.In s.heap) (hlim : s.heap.NoLimit) (hG : s.heap.Ns mainGlobals mg) (hB : ∃ mb, s.heap.Ns builtinsNs mb ∧ ∀ x : Str, x ≠ "__name__" → mb x = bootBuiltins x)
    (htop : (prog.main.scope.names.lookup ("super" : Str)).isSome = false) (hx : s.heap.get? x = some (excO C t0)) (hnx : K.lookup x = none) (hroom : A.depth < recursionLimit)
    (hq : ∀ h' tk dx t1, InitEnd s.heap h' x C dx t1 (mo2 v u) → R (.ok (.ret .none)) { s with heap := h', toks := tk }) :
    codeAny (model prog w) A (.call (.ref fI) ⟨[.ref x, v, u], []⟩) R s := by
  obtain ⟨nm, q, N, bs, bm, sn, sub, ab, col, dd, k0, k1, k2, k3, k5, hC, hbm⟩ := T.cls
  obtain ⟨oc, od, osl, hf, hcd⟩ := T.fn
  have hcl : clsIn K C = some { name := nm, bases := bs, mro := .ref C :: bm, ns := N, qualname := q, hasDict := true, slotNames := sn, subclasses := sub, abstract := ab, collection := col, hasDel := false } := by unfold clsIn; rw [hC] <;> rfl
  refine ks_codeAny_call_defAt (fd := ksFn "__init__" qual (a2 p1 p2 p3) [sup q0 q1 q2 q3 q4 q5, fldS "what" r1 r2 r3 r4, fldS "many" u1 u2 u3 u4] sc2 .none kV doc pm an (.ref cda) ct cc) (body := [sup q0 q1 q2 q3 q4 q5, fldS "what" r1 r2 r3 r4, fldS "many" u1 u2 u3 u4]) (binds := [("self", .ref x), ("what", v), ("many", u)]) hroom (X _ _ hf) rfl hlim (codeRec_of X hcd) rfl (BindsTo.of_eq (by first | rfl | with_unfolding_all rfl)) hkc2 (hloc2 _ _ _) (fun h₁ hns hk₁ => ?_) rfl rfl rfl
  have X₁ : K.In h₁ := X.keeps hk₁
  have hx₁ := hk₁ _ _ hx
  have hLx : s.heap.objs.size ≠ x := Nat.ne_of_gt (Heap.lt_size hx)
  obtain ⟨mb, hB1, hB2⟩ := hB
  refine sup_ok (v := v) (s := { s with heap := h₁, toks := s.toks + 3 }) (fd := ksFn "__init__" qual (a2 p1 p2 p3) [sup q0 q1 q2 q3 q4 q5, fldS "what" r1 r2 r3 r4, fldS "many" u1 u2 u3 u4] sc2 .none kV doc pm an (.ref cda) ct cc) T X₁ (hG.keeps hk₁) ⟨mb, hB1.keeps hk₁, hB2⟩ hx₁ hns (l2s _ _ _) (l2w _ _ _) rfl rfl rfl rfl rfl rfl rfl htop hLx (hev _) fun h₂ tk t1 k₂ hx₂ hn₂ => ?_
  have X₂ : K.In h₂ := kept_but X₁ hnx k₂
  refine wpAt_of_wpAny (wpAny_execs_cons (plainObj_wpAny_Assign_Attribute ?_))
  refine ldL (v := v) hn₂ (l2w _ _ _) (ldL (v := .ref x) hn₂ (l2s _ _ _) ?_)
  refine set_plain X₂ (ox := excO C t1) (od := none) ⟨hx₂, rfl, rfl, trivial⟩ T.sa ?_
  refine exc_osa X₂ hx₂ hcl (show refsVE (.ref C :: bm) = true from hbm) rfl T.nW (fun h₃ tk₃ dx k₃ dn dne hx₃ hn₃ => ?_)
  have X₃ : K.In h₃ := kept_but X₂ hnx k₃
  have hn₃' := ns_but hn₂ hLx k₃
  have z : s.heap.objs.size < h₂.objs.size := hn₂.lt
  have hLd : s.heap.objs.size ≠ dx := Nat.ne_of_lt (Nat.lt_of_lt_of_le z dn)
  show wpAny _ _ (execs _ _) _ _ _
  refine wpAny_execs_cons (plainObj_wpAny_Assign_Attribute ?_)
  refine ldL (v := u) hn₃' (l2m _ _ _) (ldL (v := .ref x) hn₃' (l2s _ _ _) ?_)
  obtain ⟨oD, _, _, hoD, _, _⟩ := hn₃.count (within1 v)
  refine set_plain X₃ (ox := { cls := .ref C, dict := some dx, data := .fields #[.ref t1, .none, .none, .none, .bool false, .none] }) (od := some oD) ⟨hx₃, rfl, rfl, hoD⟩ T.sa ?_
  refine PySem.OEX.osa_old X₃ hx₃ hn₃ (within1 v) (by decide) hcl (show refsVE (.ref C :: bm) = true from hbm) rfl T.nM (fun h₄ tk₄ k₄ hn₄ => ?_)
  show wpAny _ _ (execs _ _) _ _ _
  refine wpAny_execs_nil (hq h₄ tk₄ dx t1 ⟨fun b o hb e => ?_, k₄ _ _ (Ne.symm dne) hx₃, Nat.le_of_lt (Nat.lt_of_lt_of_le z dn), dne, hn₄⟩)
  have e2 := k₂ b o hb (hk₁ b o e)
  have hbd : b ≠ dx := Nat.ne_of_lt (Nat.lt_of_lt_of_le (Heap.lt_size e) (Nat.le_of_lt (Nat.lt_of_lt_of_le z dn)))
  exact k₄ b o hbd (k₃ b o hb e2)
theorem made1 {kV doc pm ct : Value} {an : Option Addr} {p1 p2 q0 q1 q2 q3 q4 q5 r1 r2 r3 r4 : Pos}
    (T : ErrTxt K mg prog.main.file C fI sc1 qual (ksFn "__init__" qual (a1 p1 p2) [sup q0 q1 q2 q3 q4 q5, fldS "what" r1 r2 r3 r4] sc1 .none kV doc pm an (.ref cda) ct cc) cc cda)
    (hev : ∀ L, EvS q0 q1 q2 q3 q4 q5 (ksEnv qual sc1 L fI (.ref cda) cc)) {v : Value} (X : K.In s.heap) (hlim : s.heap.NoLimit) (hG : s.heap.Ns mainGlobals mg) (hB : ∃ mb, s.heap.Ns builtinsNs mb ∧ ∀ x : Str, x ≠ "__name__" → mb x = bootBuiltins x)
    (htop : (prog.main.scope.names.lookup ("super" : Str)).isSome = false) (hroom : A.depth + 1 < recursionLimit)
    (hq : ∀ h' tk e d, OwnMade s.heap h' e C d (mo1 v) → R (.ok (.ret (.ref e))) { s with heap := h', toks := tk }) :
    codeAny (model prog w) A (.call (.ref C) ⟨[v], []⟩) R s := by
  obtain ⟨nm, q, N, bs, bm, sn, sub, ab, col, dd, k0, k1, k2, k3, k5, hC, hbm⟩ := T.cls
  obtain ⟨mb, hB1, hB2⟩ := hB
  obtain ⟨hp, g, dr, tk, os⟩ := s
  have k : ∀ b o, hp.get? b = some o → ((hp.push (kdv_tup [v])).push (excO C hp.objs.size)).get? b = some o := fun b o e => Heap.get?_push_of_some _ (Heap.get?_push_of_some _ e)
  have hget : ((hp.push (kdv_tup [v])).push (excO C hp.objs.size)).get? (hp.objs.size + 1) = some (excO C hp.objs.size) := by heap_get
  have hnx : K.lookup (hp.objs.size + 1) = none := by
    cases e : K.lookup (hp.objs.size + 1) with
    | none => rfl
    | some o =>
      have z : hp.get? (hp.objs.size + 1) = some o := X _ _ e
      exact absurd (Nat.lt_of_succ_lt (Heap.lt_size z)) (Nat.lt_irrefl _)
  refine call_own F.excBase_ValueError (fun X => refsVE_contains X bm hbm) (X _ _ hC) (looks_findIn X T.iC) (fun self => bind_fn X self T.tC) (by show 1 ≤ sizeLine; rw [sizeLine_eq]; decide) ?_
  refine init1 (s := ⟨(hp.push (kdv_tup [v])).push (excO C hp.objs.size), g, dr, tk, os⟩) T hev (X.keeps k) (hlim.keeps k) (hG.keeps k) ⟨mb, hB1.keeps k, hB2⟩ htop hget hnx ?_ fun h' tk' dx t1 ⟨k', hx, dn, dne, hns⟩ => ?_
  · show A.depth + 1 < recursionLimit
    exact hroom
  · have old : ∀ b o, hp.get? b = some o → h'.get? b = some o := fun b o e => k' b o (Nat.ne_of_lt (Nat.lt_succ_of_lt (Heap.lt_size e))) (k b o e)
    have z : hp.objs.size + 1 + 1 ≤ dx := by
      first
        | (simpa only [Heap.size_push] using dn)
        | exact dn
        | (have q := dn; rw [Heap.size_push, Heap.size_push] at q; exact q)
    exact ⟨rfl, hq h' tk' (hp.objs.size + 1) dx ⟨old, Nat.le_succ _, ⟨_, _, hx, rfl, rfl, rfl, rfl⟩, Nat.le_trans (Nat.le_trans (Nat.le_succ _) (Nat.le_succ _)) z, dne, hns⟩⟩
theorem made2 {kV doc pm ct : Value} {an : Option Addr} {p1 p2 p3 q0 q1 q2 q3 q4 q5 r1 r2 r3 r4 u1 u2 u3 u4 : Pos}
    (T : ErrTxt K mg prog.main.file C fI sc2 qual (ksFn "__init__" qual (a2 p1 p2 p3) [sup q0 q1 q2 q3 q4 q5, fldS "what" r1 r2 r3 r4, fldS "many" u1 u2 u3 u4] sc2 .none kV doc pm an (.ref cda) ct cc) cc cda)
    (hev : ∀ L, EvS q0 q1 q2 q3 q4 q5 (ksEnv qual sc2 L fI (.ref cda) cc)) {v u : Value} (X : K.In s.heap) (hlim : s.heap.NoLimit) (hG : s.heap.Ns mainGlobals mg) (hB : ∃ mb, s.heap.Ns builtinsNs mb ∧ ∀ x : Str, x ≠ "__name__" → mb x = bootBuiltins x)
    (htop : (prog.main.scope.names.lookup ("super" : Str)).isSome = false) (hroom : A.depth + 1 < recursionLimit)
    (hq : ∀ h' tk e d, OwnMade s.heap h' e C d (mo2 v u) → R (.ok (.ret (.ref e))) { s with heap := h', toks := tk }) :
    codeAny (model prog w) A (.call (.ref C) ⟨[v, u], []⟩) R s := by
  obtain ⟨nm, q, N, bs, bm, sn, sub, ab, col, dd, k0, k1, k2, k3, k5, hC, hbm⟩ := T.cls
  obtain ⟨mb, hB1, hB2⟩ := hB
  obtain ⟨hp, g, dr, tk, os⟩ := s
  have k : ∀ b o, hp.get? b = some o → ((hp.push (kdv_tup [v, u])).push (excO C hp.objs.size)).get? b = some o := fun b o e => Heap.get?_push_of_some _ (Heap.get?_push_of_some _ e)
  have hget : ((hp.push (kdv_tup [v, u])).push (excO C hp.objs.size)).get? (hp.objs.size + 1) = some (excO C hp.objs.size) := by heap_get
  have hnx : K.lookup (hp.objs.size + 1) = none := by
    cases e : K.lookup (hp.objs.size + 1) with
    | none => rfl
    | some o =>
      have z : hp.get? (hp.objs.size + 1) = some o := X _ _ e
      exact absurd (Nat.lt_of_succ_lt (Heap.lt_size z)) (Nat.lt_irrefl _)
  refine call_own F.excBase_ValueError (fun X => refsVE_contains X bm hbm) (X _ _ hC) (looks_findIn X T.iC) (fun self => bind_fn X self T.tC) (by show 2 ≤ sizeLine; rw [sizeLine_eq]; decide) ?_
  refine init2 (s := ⟨(hp.push (kdv_tup [v, u])).push (excO C hp.objs.size), g, dr, tk, os⟩) T hev (X.keeps k) (hlim.keeps k) (hG.keeps k) ⟨mb, hB1.keeps k, hB2⟩ htop hget hnx ?_ fun h' tk' dx t1 ⟨k', hx, dn, dne, hns⟩ => ?_
  · show A.depth + 1 < recursionLimit
    exact hroom
  · have old : ∀ b o, hp.get? b = some o → h'.get? b = some o := fun b o e => k' b o (Nat.ne_of_lt (Nat.lt_succ_of_lt (Heap.lt_size e))) (k b o e)
    have z : hp.objs.size + 1 + 1 ≤ dx := by
      first
        | (simpa only [Heap.size_push] using dn)
        | exact dn
        | (have q := dn; rw [Heap.size_push, Heap.size_push] at q; exact q)
    exact ⟨rfl, hq h' tk' (hp.objs.size + 1) dx ⟨old, Nat.le_succ _, ⟨_, _, hx, rfl, rfl, rfl, rfl⟩, Nat.le_trans (Nat.le_trans (Nat.le_succ _) (Nat.le_succ _)) z, dne, hns⟩⟩
end
end KwX
end PySem

-- Own errors made, raised, caught and read: over the hand layer, and over the abstract store.
namespace KW
open PySem PySem.Spec L2
open PySem.KwX (OwnMade ErrTxt EvS mo1 mo2)

/-- fields by their names -/
def moN (names : List Str) (vs : List Value) : Str → Option Value := fun y => (names.zip vs).lookup y
/-- a class of errors of the program: how one is made -/
structure ErrK (P : Program) (K : PySem.W.Frag) (mg : Str → Option Value) (C : Addr) (names : List Str) : Prop where
  made : ∀ (w : World) (A : Around) (R : Result → Shared → Prop) (s : Shared) (vs : List Value), vs.length = names.length → K.In s.heap → s.heap.NoLimit → s.heap.Ns mainGlobals mg → (∃ mb, s.heap.Ns builtinsNs mb ∧ ∀ x : Str, x ≠ "__name__" → mb x = bootBuiltins x) →
    A.depth + 1 < recursionLimit → (∀ h' tk e d, OwnMade s.heap h' e C d (moN names vs) → R (.ok (.ret (.ref e))) { s with heap := h', toks := tk }) → codeAny (model P w) A (.call (.ref C) ⟨vs, []⟩) R s
  ga : PySem.W.findIn K (.ref C) "__getattribute__" = some (some (.builtin "BaseException.__getattribute__"))
  gg : PySem.W.findIn K (.ref C) "__getattr__" = some none
  no : ∀ f ∈ names, PySem.W.findIn K (.ref C) f = some none
  kC : PySem.W.keepIn K (.ref C) = true
  exC : PySem.W.subIn K (.ref C) (.type "BaseException") = some true
  tyC : PySem.W.typeIn K (.ref C) = some (.type "type")
  hdC : PySem.W.hasDictIn K C = true
  te : PySem.W.exmOne K (.ref C) (.ref C) = some true
section
variable {P : Program} {K : PySem.W.Frag} {mg : Str → Option Value} {C fI cc cda : Addr} {qual : Str}
theorem moN1 (v : Value) : moN ["what"] [v] = mo1 v := by
  funext y
  show List.lookup y [(("what" : Str), v)] = if y = "what" then some v else none
  rw [List.lookup_cons]
  by_cases h : y = "what"
  · subst h
    rw [if_pos rfl, beq_self_eq_true]
  · have : (y == ("what" : Str)) = false := by simpa using h
    rw [this, if_neg h]
    rfl
theorem moN2 (v u : Value) : moN ["what", "many"] [v, u] = mo2 v u := by
  funext y
  show List.lookup y [(("what" : Str), v), (("many" : Str), u)] = if y = "many" then some u else if y = "what" then some v else none
  rw [List.lookup_cons, List.lookup_cons]
  by_cases h : y = "what"
  · subst h
    rw [beq_self_eq_true, if_neg (by decide), if_pos rfl]
  · have : (y == ("what" : Str)) = false := by simpa using h
    rw [this, if_neg h]
    by_cases h2 : y = "many"
    · subst h2
      rw [if_pos rfl, beq_self_eq_true]
    · have : (y == ("many" : Str)) = false := by simpa using h2
      rw [this, if_neg h2]
      rfl
theorem errK1 {kV doc pm ct : Value} {an : Option Addr} {p1 p2 q0 q1 q2 q3 q4 q5 r1 r2 r3 r4 : Pos}
    (T : ErrTxt K mg P.main.file C fI PySem.KwX.sc1 qual (PySem.W.ksFn "__init__" qual (PySem.KwX.a1 p1 p2) [PySem.KwX.sup q0 q1 q2 q3 q4 q5, PySem.KwX.fldS "what" r1 r2 r3 r4] PySem.KwX.sc1 .none kV doc pm an (.ref cda) ct cc) cc cda)
    (hev : ∀ L, EvS q0 q1 q2 q3 q4 q5 (PySem.W.ksEnv qual PySem.KwX.sc1 L fI (.ref cda) cc)) (htop : (P.main.scope.names.lookup ("super" : Str)).isSome = false) : ErrK P K mg C ["what"] where
  made := fun w A R s vs hl X lim hG hB hr q => by
    match vs, hl with
    | [v], _ => exact PySem.KwX.made1 T hev X lim hG hB htop hr fun h' tk e d M => q h' tk e d (by rw [moN1]; exact M)
  ga := T.ga
  gg := T.gg
  no := fun f hf => by
    have : f = "what" := by simpa using hf
    rw [this]
    exact T.nW
  kC := T.kC
  exC := T.exC
  tyC := T.tyC
  hdC := T.hdC
  te := T.te
theorem errK2 {kV doc pm ct : Value} {an : Option Addr} {p1 p2 p3 q0 q1 q2 q3 q4 q5 r1 r2 r3 r4 u1 u2 u3 u4 : Pos}
    (T : ErrTxt K mg P.main.file C fI PySem.KwX.sc2 qual (PySem.W.ksFn "__init__" qual (PySem.KwX.a2 p1 p2 p3) [PySem.KwX.sup q0 q1 q2 q3 q4 q5, PySem.KwX.fldS "what" r1 r2 r3 r4, PySem.KwX.fldS "many" u1 u2 u3 u4] PySem.KwX.sc2 .none kV doc pm an (.ref cda) ct cc) cc cda)
    (hev : ∀ L, EvS q0 q1 q2 q3 q4 q5 (PySem.W.ksEnv qual PySem.KwX.sc2 L fI (.ref cda) cc)) (htop : (P.main.scope.names.lookup ("super" : Str)).isSome = false) : ErrK P K mg C ["what", "many"] where
  made := fun w A R s vs hl X lim hG hB hr q => by
    match vs, hl with
    | [v, u], _ => exact PySem.KwX.made2 T hev X lim hG hB htop hr fun h' tk e d M => q h' tk e d (by rw [moN2]; exact M)
  ga := T.ga
  gg := T.gg
  no := fun f hf => by
    rcases List.mem_cons.mp hf with e | hf
    · rw [e]; exact T.nW
    · have : f = "many" := by simpa using hf
      rw [this]
      exact T.nM
  kC := T.kC
  exC := T.exC
  tyC := T.tyC
  hdC := T.hdC
  te := T.te
end
theorem relO_zip : ∀ {names : List Str} {vs : List V} {us : List Value}, Vals vs us → ∀ f : Str, RelO (List.lookup f (names.zip vs)) (List.lookup f (names.zip us))
  | [], vs, us, _, f => by
    rw [List.zip_nil_left, List.zip_nil_left]
    trivial
  | n :: names, [], [], .nil, f => trivial
  | n :: names, v :: vs, u :: us, .cons r t, f => by
    rw [List.zip_cons_cons, List.zip_cons_cons, List.lookup_cons, List.lookup_cons]
    by_cases h : (f == n) = true
    · rw [h]
      exact r
    · have h' : (f == n) = false := by simpa using h
      rw [h']
      exact relO_zip t f
section
variable {X : Cx} {C : Addr} {names : List Str} {k : Nat}
theorem pmk_err {x : Str} {a : Expr} {es : List Expr} {ta : TA} {p pos : Pos} (T : ErrK X.prog X.K X.mg C names) (hm : X.mg x = some (.ref C)) (hr : Room k X.A) (ha : PA X (a :: es) ta) (hg : Gl X x := by rfl) (hdb : (x == ("__debug__" : Str)) = false := by decide)
    (he : starEach (a :: es) X.env = (false, eval a X.env) :: starEach es X.env := by rfl) (hpl : (backTo pos (starEach es X.env)).any (·.1) = false := by rfl) :
    PMk X (.Call (.Name x p) (a :: es) [] pos) (tErr C names ta) := by
  intro pins s σ H Q I h
  refine wpAny_Call_Name_kw (ld_glob I hg hm ?_ hdb)
  refine PySem.W.callWith_K (h₀ := X.base) I.ok.mod.kin T.kC (thn (ha.run pos pins s σ H _ I h) fun us s1 hh => ?_) he hpl
  obtain ⟨vs, H1, I1, r1, hl, q1⟩ := hh
  refine ⟨I1.kIn, ?_⟩
  show wpAny _ _ (call (.ref C) us) _ _ _
  have hlim := I1.nolimit
  obtain ⟨mb, hB1, hB2⟩ := I1.mod.blt
  have hB : ∃ mb, s1.heap.Ns builtinsNs mb ∧ ∀ x : Str, x ≠ "__name__" → mb x = bootBuiltins x := ⟨mb, hB1.keeps I1.bk, hB2⟩
  have hG : s1.heap.Ns mainGlobals X.mg := I1.mod.glob.keeps I1.bk
  obtain ⟨hp, g, d, t, os⟩ := s1
  refine wpAny_call (T.made X.w _ _ _ us (by rw [← r1.length, hl]) I1.kIn hlim hG hB (by show X.A.depth + 1 < recursionLimit; have := hr.dp; omega) fun h' tk' e d M => ?_)
  show MkP X pins σ Q (.ref e) ⟨h', g, _, tk', os⟩
  obtain ⟨oe, fv, hoe, hc, hd, hdat, h1⟩ := M.obj
  have hns := M.ns
  obtain ⟨G', g1, g2⟩ := restrict h' fun b => decide (b ≠ e)
  have gk : ∀ b, b ≠ e → G'.get? b = h'.get? b := fun b hb => g1 b (decide_eq_true hb)
  have ge : G'.get? e = none := g2 e (by simp)
  have old : ∀ b o, hp.get? b = some o → G'.get? b = some o := fun b o q => (gk b (Nat.ne_of_lt (Nat.lt_of_lt_of_le (Heap.lt_size q) M.new))).trans (M.keep b o q)
  have ob : ObjOk X.prog X.w (upd H1 d (.xd (names.zip vs))) G' d (.xd (names.zip vs)) :=
    ⟨_, hns.at (fun o q => (gk d M.dne).trans q), fun f => relO_zip r1 f⟩
  have J : Inv X pins σ (upd H1 d (.xd (names.zip vs))) ⟨G', g, _, tk', os⟩ := I1.laid (t' := tk') old M.dbig ob
  refine ⟨e, oe, fv, ⟨G', g, _, tk', os⟩, _, .ref C, some d, rfl, J, fun b o q => ?_, ge, hoe, ⟨hc, hd⟩, hdat, h1, ?_, rfl, I1.bare, raises_own T.exC T.tyC, q1 d (I1.hok.fresh M.dbig)⟩
  · by_cases hb : b = e
    · have q' : G'.get? b = some o := q
      rw [hb, ge] at q'; cases q'
    · exact (gk b hb).symm.trans q
  · rw [upd_ne (Ne.symm M.dne)]
    exact I1.hok.fresh M.new
/-- e.f, e the error that the suite holds (at a; its class cls, its dict d) -/
def tByE (C : Addr) (a : Addr) (cls : Value) (d : Option Addr) (f : Str) (te : TE) : TE := fun σ H Q => te σ H fun x H1 => x = .ref a ∧ cls = .ref C ∧ ∃ (dd : Addr) (fs : List (Str × V)) (v : V), d = some dd ∧ H1 dd = some (.xd fs) ∧ fs.lookup f = some v ∧ Q v H1
theorem pe_byE {a : Addr} {oe : Obj} {cls : Value} {d : Option Addr} {pn : List (Addr × Obj)} {f : Str} {e : Expr} {te : TE} {pos : Pos} (T : ErrK X.prog X.K X.mg C names) (hf : f ∈ names) (hz : Zc cls d oe) (hd : ∃ vs, oe.data = .fields vs) (he : PE (X.suite a ((a, oe) :: pn)) e te)
    (hb : attributeBase e f X.env (eval e X.env) = eval e X.env := by rfl) :
    PE (X.suite a ((a, oe) :: pn)) (.Attribute e f pos) (tByE C a cls d f te) := by
  refine ⟨fun pins s σ H Q I h => ?_⟩
  refine attr_of hb (thn (he.run pins s σ H _ I h) fun u s1 hh => ?_)
  obtain ⟨x, H1, I1, rx, ex, ec, dd, fs, v, ed, ea, hl, q⟩ := hh
  subst ex
  obtain rfl : u = Value.ref a := rx
  subst ec
  subst ed
  obtain ⟨ha, _⟩ := I1.pin (a, oe) (List.mem_append_left _ List.mem_cons_self)
  obtain ⟨vs, hd⟩ := hd
  have hx : ObjOk X.prog X.w H1 s1.heap dd (.xd fs) := I1.hok dd _ ea
  obtain ⟨mA, hns, hr⟩ := hx
  obtain ⟨od, ho, hlk⟩ := lookIn_ns hns
  obtain ⟨u, hu, ru⟩ := RelO.some_of (v := v) (o := mA f) (by rw [← hl]; exact hr f)
  have J : PySem.W.InstAt s1.heap a oe C (some od) := ⟨ha, hz.1, by unfold PySem.W.notCls; rw [hd] <;> rfl, by rw [hz.2]; exact ho⟩
  exact HandSPX.exc_get I1.kIn J T.ga T.gg T.exC (PySem.W.findObj_own T.hdC (T.no f hf) rfl (by rw [hlk, hu])) (handed_of ru) ⟨v, H1, I1.tok _, ru, q⟩
end
-- ### several clauses, each with a name
/-- what the clauses 'except c as n' wish of an exception of the body, one after the other: slot i is n's -/
def wManyA (K : PySem.W.Frag) (i : Nat) (Wout : WX) (D : Ends) : List (Value × (Addr → Value → Option Addr → TS)) → WX
  | [] => Wout
  | (c, ts) :: r => fun cls d σ H => ∃ y, PySem.W.exmOne K cls c = some y ∧ (y = true → ∀ a, H a = none → ts a cls d { nx := fun σ' H' => D.nx (σ'.set i none) H', rt := D.rt, bk := fun σ' H' => D.bk (σ'.set i none) H', ct := fun σ' H' => D.ct (σ'.set i none) H' } (σ.set i (some (.ref a))) H) ∧ (y = false → wManyA K i Wout D r cls d σ H)
inductive HdsA (X : Cx) (n : Str) : List ExceptHandler → List (Value × (Addr → Value → Option Addr → TS)) → Prop
  | nil : HdsA X n [] []
  | cons {x : Str} {c : Value} {ts : Addr → Value → Option Addr → TS} {b₀ : Stmt} {suite : List Stmt} {np pos' : Pos} {hds : List ExceptHandler} {l : List (Value × (Addr → Value → Option Addr → TS))} (hc : Names X x c)
      (hsu : ∀ (a : Addr) (oe : Obj) (cls : Value) (d : Option Addr) (pn : List (Addr × Obj)), Zc cls d oe → (∃ vs, oe.data = .fields vs) → PSs (X.suite a ((a, oe) :: pn)) (b₀ :: suite) (ts a cls d)) (r : HdsA X n hds l) :
      HdsA X n (.ExceptHandler (some (.Name x np)) (some n) (b₀ :: suite) pos' :: hds) ((c, ts) :: l)
section
variable {X : Cx} {body : List Stmt} {h₀ : ExceptHandler} {hds : List ExceptHandler} {l : List (Value × (Addr → Value → Option Addr → TS))} {pos : Pos} {tb : WX → TS} {Wout : WX} {n : Str} {i : Nat}
open PyProof.Rows in
theorem ps_try_manyA (hs : X.stack = X.env :: X.outer) (hf : X.env.frame = some X.env.locals) (hN : X.N.Nodup) (hi : X.N[i]? = some n) (hln : X.env.kindOf n = some .local) (tk : Takes X Wout)
    (hb : ∀ (W : WX) (pn : List (Addr × Obj)) (xe : Value → Shared → Prop), Takes (X.tr pn xe) W → PassesOwn (model X.prog X.w) X.A X.env xe → PSs (X.tr pn xe) body (tb W))
    (hh : HdsA X n (h₀ :: hds) l) : PS X (.Try body (h₀ :: hds) [] [] pos) (fun D σ H => tb (wManyA X.K i Wout D l) D σ H) := by
  refine ⟨fun pins s σ H D I h => ?_⟩
  have ok := I.ok
  have hfr : X.A.frames = some (X.env :: X.outer) := by rw [ok.frames, hs]
  have hloc : Loc X.env.scope n := .inl hln
  refine wpAny_Try_except ?_
  refine wpAny_mono ((hb (wManyA X.K i Wout D l) (X.pn ++ pins) (fun e s₁ => wpAny (model X.prog X.w) X.A (noteFrame e X.env) (fun _ s₂ => wpAny (model X.prog X.w) X.A (setFlight e none) (fun _ s₃ =>
    wpAny (model X.prog X.w) X.A (handleBy e X.env (h₀ :: hds)) (SP X pins D) X.xe s₃) X.xe s₂) X.xe s₁) (fun u s' xx => ?_) PassesOwn.looking).run [] s σ H D (I.toTry _) h) (fun f s1 hsp => ?_) (fun e s1 he => he)
  · -- the catch
    obtain ⟨a, B, sI, pins', σ', H', cls, d, rfl, J', nb, up, sky, na, os, ag, w⟩ := xx
    have J : Inv X pins σ' H' sI := J'.ofTry ok
    have sky' : Sky B (X.env :: X.outer) a (Zc cls d) X.env.locals s'.heap := by rw [← hs]; exact sky
    show wpAny (model X.prog X.w) X.A (noteFrame (.ref a) X.env) _ _ _
    refine Sky.land Zc.steady hfr hf sky' fun h3 fl3 up3 => ?_
    have J3 : Inv X pins σ' H' { s' with heap := h3 } := J.landed nb fl3.1 (up.trans up3) os ag
    obtain ⟨oe3, vs3, he3, hz3, hd3⟩ := fl3.there
    have notFr : ∀ {h : Heap} {o : Obj} {vs : Array Value}, h.FunFrames B (X.env :: X.outer) → h.get? a = some o → o.data = .fields vs → a ∉ frs (X.env :: X.outer) := fun {h o vs} ff e dd hm => by
      obtain ⟨_, o', e', hnf⟩ := ff.mem hm
      rw [e] at e'; cases e'
      exact hnf _ dd
    have nfr := notFr fl3.2.2.1 he3 hd3
    have nL : a ≠ X.env.locals := fun z => nfr (List.mem_filterMap.mpr ⟨X.env, List.mem_cons_self, by rw [hf, z]⟩)
    have nF : a ∉ X.fs := fun hm => by
      obtain ⟨e, he, q⟩ := List.mem_filterMap.mp hm
      exact nfr (List.mem_filterMap.mpr ⟨e, List.mem_cons_of_mem _ he, q⟩)
    have S3 := J3.suite he3 hd3 na nL nF
    have go : ∀ {hds' : List ExceptHandler} {l' : List (Value × (Addr → Value → Option Addr → TS))}, HdsA X n hds' l' → wManyA X.K i Wout D l' cls d σ' H' →
        wpAny (model X.prog X.w) X.A (handleBy (.ref a) X.env hds') (SP X pins D) X.xe { s' with heap := h3 } := by
      intro hds' l' hk
      induction hk with
      | nil =>
        intro w
        refine wpAny_handleBy_nil ?_
        obtain ⟨k1, k2, k3, oe, vs, T, oT, ts', he, hz, hd, h1, hr⟩ := id fl3
        unfold PySem.passOn
        refine wpAny_bind (wpAny_field he hd h1 ?_)
        rw [if_neg (show ¬ ((Value.ref T == Value.none) = true) from by simp)]
        have fin : wpAny (model X.prog X.w) X.A (setFlight (.ref a) X.env.frame) (fun _ s4 => wpAny (model X.prog X.w) X.A (throw (.ref a) : Sem Flow) (SP X pins D) X.xe s4) X.xe { s' with heap := h3 } := by
          rw [hf]
          refine HandSPX.setFlight_upZ fl3 fun h4 hh4 up4 => wpAny_throw (tk _ _ ?_)
          exact ⟨a, B, sI, pins, σ', H', cls, d, rfl, J, nb, (up.trans up3).trans up4, .inr (.inr (by rw [hs]; exact hh4)), na, os, ag, w⟩
        first
          | exact wpAny_bind (wpAny_pure (wpAny_bind fin))
          | exact wpAny_bind fin
      | @cons x c ts b₀ suite np pos' hds2 l2 hc hsu r ih =>
        intro w
        obtain ⟨y, hb1, hyes, hno⟩ := w
        refine wpAny_handleBy_cons (codeAny_handlers_test ?_) (by intro q; cases q)
        have LT : PySem.W.Looks (model X.prog X.w) h3 (typeOf (.ref a)) cls := fun A Q E s k q => wpAny_typeOf_ref (k _ _ he3) (by rw [hz3.1]; exact q)
        have LM := PySem.W.exm_one (M := model X.prog X.w) (J3.kIn) LT hb1
        have test : ∀ {Q : Value → Shared → Prop} {E : Value → Shared → Prop}, Q c { s' with heap := h3 } → wpAny (model X.prog X.w) (X.A.mark (some (.ref a))) (eval (.Name x np) X.env) Q E { s' with heap := h3 } := fun {Q E} q => by
          obtain ⟨hg, hdbg, hm | ⟨hm, hv, hnn⟩⟩ := hc
          · exact ld_glob (X := X.suite a ((a, oe3) :: (X.pn ++ pins))) S3 hg hm q hdbg
          · exact ld_blt (X := X.suite a ((a, oe3) :: (X.pn ++ pins))) S3 hg hm hv q hnn hdbg
        refine test (LM.here ?_)
        cases y with
        | true =>
          refine codeAny_handlers_suite_as ?_
          refine HandSPX.lands_againZ fl3 fun h4 fl4 up4 => ?_
          have J4 : Inv X pins σ' H' { s' with heap := h4 } := J.landed nb fl4.1 ((up.trans up3).trans up4) os ag
          obtain ⟨oe4, vs4, he4, hz4, hd4⟩ := fl4.there
          have S4 := J4.suite he4 hd4 na nL nF
          refine store_ok (X := X.suite a ((a, oe4) :: (X.pn ++ pins))) (v := .ref a) S4 hN hi hloc rfl (fun s5 S5 => ?_) (.inr hln)
          refine wpAny_mono ((hsu a oe4 cls d (X.pn ++ pins) hz4 ⟨_, hd4⟩).run [] s5 _ H' _ S5 (hyes rfl a na)) (fun f s6 hsp => ?_) (fun _ _ z => False.elim z)
          have end_ : ∀ {σ6 : L2.St} {H6 : Hp} {Q : Shared → Prop}, Inv (X.suite a ((a, oe4) :: (X.pn ++ pins))) [] σ6 H6 s6 → (∀ s7, Inv X pins (σ6.set i none) H6 s7 → Q s7) →
              wpAny (model X.prog X.w) X.A (do bindName X.env n .none; unbindBehindTheSuite X.env n pos') (fun _ s7 => Q s7) X.xe s6 := fun {σ6 H6 Q} S6 hq => gone_ok (S6.unsuite ok) hN hi hln hq
          cases f with
          | next =>
            obtain ⟨σ6, H6, S6, q6⟩ := hsp
            exact end_ S6 fun s7 J7 => ⟨_, _, J7, q6⟩
          | brk =>
            obtain ⟨σ6, H6, S6, q6⟩ := hsp
            exact end_ S6 fun s7 J7 => ⟨_, _, J7, q6⟩
          | cont =>
            obtain ⟨σ6, H6, S6, q6⟩ := hsp
            exact end_ S6 fun s7 J7 => ⟨_, _, J7, q6⟩
          | ret u =>
            obtain ⟨v6, σ6, H6, S6, r6, q6⟩ := hsp
            exact end_ S6 fun s7 J7 => ⟨_, _, _, J7, r6, q6⟩
        | false =>
          show wpAny _ X.A (handleBy (.ref a) X.env hds2) _ _ _
          exact ih (hno rfl)
    exact go hh w
  · cases f with
    | next =>
      obtain ⟨σ', H', J', q⟩ := hsp
      exact wpAny_execs_nil ⟨σ', H', J'.ofTry ok, q⟩
    | brk =>
      obtain ⟨σ', H', J', q⟩ := hsp
      exact ⟨σ', H', J'.ofTry ok, q⟩
    | cont =>
      obtain ⟨σ', H', J', q⟩ := hsp
      exact ⟨σ', H', J'.ofTry ok, q⟩
    | ret u =>
      obtain ⟨v, σ', H', J', r, q⟩ := hsp
      exact ⟨v, σ', H', J'.ofTry ok, r, q⟩
end
-- ### over the abstract store
section
variable {b : Bx} {F F' H H' : Hp} {as as' : List Addr} {s s' : S} {σ σ' : L2.St} {k : AV → S → Prop} {A : AE}
abbrev Bx.at (b : Bx) (F : Hp) : Bx := ⟨b.K, b.B, F, b.a0⟩
theorem G.at (g : G b F as s σ H) : G (b.at F) F as s σ H := ⟨⟨g.gm.fh, g.gm.bh, fun p o e => .inl ⟨o, e⟩, g.gm.len, g.gm.nd, g.gm.ha, g.gm.cell⟩, g.pr, .refl F, g.len, g.sl⟩
theorem G.unat {F1 : Hp} {as1 : List Addr} {s1 : S} {σ1 : L2.St} {H1 : Hp} (g : G b F as s σ H) (g1 : G (b.at F) F1 as1 s1 σ1 H1) : G b F1 as1 s1 σ1 H1 :=
  ⟨⟨g1.gm.fh, g1.gm.bh, fun p o e => by
    rcases g1.gm.nw p o e with ⟨u, hu⟩ | hn
    · rcases g.gm.nw p u hu with z | z | ⟨xs, z⟩
      · exact .inl z
      · exact .inr (.inl z)
      · refine .inr (.inr ⟨xs, ?_⟩)
        have := g1.e0 p u hu
        rw [e] at this
        rw [Option.some.inj this, z]
    · exact .inr hn, g1.gm.len, g1.gm.nd, g1.gm.ha, g1.gm.cell⟩, g1.pr, g.e0.trans g1.e0, g1.len, g1.sl⟩
theorem we_byE {C a : Addr} {d : Option Addr} {f : Str} {te : TE} {fs : List (Str × D)} {dv : D} (hx : XRep b.K b.F0 d fs) (hl : fs.lookup f = some dv) (h : WE b te s fun x s1 => x = .d (.adr a) ∧ k (.d dv) s1) : WE b (tByE C a (.ref C) d f te) s k := fun F as σ H g Q q =>
  h F as σ H g _ fun v x s1 F1 as1 H1 h1 g1 e1 p1 r1 => by
    obtain ⟨rfl, hk⟩ := h1
    obtain ⟨dd, fvs, rfl, h2, h3, h4⟩ := hx.mono g1.e0
    obtain ⟨w, h5, h6⟩ := lookup_reps h3 h4 hl
    exact ⟨Rep.adr_inv r1, rfl, dd, fvs, w, rfl, g1.gm.fh _ _ h2, h5, q w _ s1 F1 as1 H1 hk g1 e1 p1 h6⟩
/-- the ends of a suite: its name goes -/
def AE.un (A : AE) (i : Nat) : AE := { nx := fun s => A.nx (s.set i .un), rt := A.rt, bk := fun s => A.bk (s.set i .un), ct := fun s => A.ct (s.set i .un) }
/-- what is to be shown of a raised error by the clauses -/
def Caught (b : Bx) (i : Nat) (A : AE) (Wx : Addr → List (Str × D) → S → Prop) : List (Value × (Addr → Value → Option Addr → TS)) → Addr → List (Str × D) → S → Prop
  | [], C, fs, s => Wx C fs s
  | (c, ts) :: r, C, fs, s => ∃ y, PySem.W.exmOne b.K (.ref C) c = some y ∧ (y = true → ∀ F a d, XRep b.K F d fs → WS (b.at F) (ts a (.ref C) d) (s.set i (.d (.adr a))) (A.un i)) ∧ (y = false → Caught b i A Wx r C fs s)
theorem G.setN {i : Nat} (g : G b F as s σ H) : G b F as (s.set i .un) (σ.set i none) H :=
  ⟨g.gm, g.pr, g.e0, by rw [List.length_set]; show _ = (s.env.set i .un).length; rw [List.length_set]; exact g.len, fun j x e => by
    have e : (s.env.set i .un)[j]? = some x := e
    by_cases hj : j = i
    · subst hj
      have hl : j < s.env.length := by
        have := lt_of_get e
        rwa [List.length_set] at this
      rw [List.getElem?_set_self hl] at e
      obtain rfl := Option.some.inj e
      exact ⟨none, by rw [List.getElem?_set_self (by rw [g.len]; exact hl)], trivial⟩
    · rw [List.getElem?_set_ne (Ne.symm hj)] at e
      rw [List.getElem?_set_ne (Ne.symm hj)]
      exact g.sl j x e⟩
theorem caught_ok {i : Nat} {Wx : Addr → List (Str × D) → S → Prop} {Wout : WX} (ho : XOk b Wout Wx) : ∀ {l : List (Value × (Addr → Value → Option Addr → TS))} {E : Ends} {F0 : Hp}, EndsOk b F0 A E → ∀ C d fs s F as σ H, Caught b i A Wx l C fs s → G b F as s σ H → Ex F0 F → XRep b.K F d fs → wManyA b.K i Wout E l (.ref C) d σ H
  | [], E, F0, ok, C, d, fs, s, F, as, σ, H, hc, g, e, xr => ho C d fs s F as σ H hc g xr
  | (c, ts) :: r, E, F0, ok, C, d, fs, s, F, as, σ, H, hc, g, e, xr => by
    obtain ⟨y, h1, h2, h3⟩ := hc
    refine ⟨y, h1, fun hy a ha => ?_, fun hy => caught_ok ho ok C d fs s F as σ H (h3 hy) g e xr⟩
    have w := h2 hy F a d xr
    refine w F as _ H _ (g.at.set (v := .ref a) (av := .d (.adr a)) (Rep.adr a)) ⟨fun s1 F1 as1 σ1 H1 hn g1 e1 => ?_, fun v av s1 F1 as1 σ1 H1 hn g1 e1 r1 => ?_, fun s1 F1 as1 σ1 H1 hn g1 e1 => ?_, fun s1 F1 as1 σ1 H1 hn g1 e1 => ?_⟩
    · exact ok.nx _ F1 as1 _ H1 hn (g.unat g1).setN (e.trans e1)
    · exact ok.rt v av s1 F1 as1 σ1 H1 hn (g.unat g1) (e.trans e1) r1
    · exact ok.bk _ F1 as1 _ H1 hn (g.unat g1).setN (e.trans e1)
    · exact ok.ct _ F1 as1 _ H1 hn (g.unat g1).setN (e.trans e1)
/-- try: body / except c as n: .. -/
theorem ws_try {i : Nat} {l : List (Value × (Addr → Value → Option Addr → TS))} {tb : WX → TS} {Wout : WX} {Wx : Addr → List (Str × D) → S → Prop} (ho : XOk b Wout Wx)
    (h : ∀ (F1 : Hp) (W : WX), XOk (b.at F1) W (Caught b i A Wx l) → WS (b.at F1) (tb W) s A) : WS b (fun E σ H => tb (wManyA b.K i Wout E l) E σ H) s A := fun F as σ H E g ok => by
  refine h F _ (fun C d fs s1 F1 as1 σ1 H1 hc g1 xr => caught_ok ho ok C d fs s1 F1 as1 σ1 H1 hc (g.unat g1) g1.e0 xr) F as σ H E g.at ⟨fun s1 F1 as1 σ1 H1 hn g1 e1 => ok.nx s1 F1 as1 σ1 H1 hn (g.unat g1) e1, fun v av s1 F1 as1 σ1 H1 hn g1 e1 r1 => ok.rt v av s1 F1 as1 σ1 H1 hn (g.unat g1) e1 r1, fun s1 F1 as1 σ1 H1 hn g1 e1 => ok.bk s1 F1 as1 σ1 H1 hn (g.unat g1) e1, fun s1 F1 as1 σ1 H1 hn g1 e1 => ok.ct s1 F1 as1 σ1 H1 hn (g.unat g1) e1⟩
end
end KW

-- Methods, makings, calls with cells.
namespace L2
open PySem PySem.Spec
section
variable {X : Cx} {CX : CXT} {k : Nat} {f C : Addr} {fd : FuncData} {ps : List Str} {sp : Sp} {E : L2.St → XK} {x m : Str} {p pos apos : Pos} {e o : Expr} {es : List Expr} {ta : TE} {t : TA}
/-- o.m(..), what is raised wished for at the caller's slots -/
def tMethO (C : Addr) (m : Str) (sp : Sp) (E : L2.St → XK) (ta : TE) (t : TA) : TE := fun σ H Q => ta σ H fun x H1 => ∃ a dx fs, x = .ref a ∧ H1 a = some (.ins C dx fs) ∧ fs.lookup m = none ∧
  t σ H1 fun vs H2 => sp (x :: vs) H2 Q (E σ)
theorem pe_methO {pl : Sem Bool} (he : PE X o ta) (c : Cls X.K C) (hm : Meth X.K C m f) (F : FnOk X.prog X.w X.K X.mg X.base CX k f fd ps sp) (hr : Room k X.A) (hb : Binds X.K fd ps []) (hx : ∀ σ, PassesAt CX X σ (E σ)) (ha : PA X (e :: es) t)
    (hst : starEach (e :: es) X.env = (false, eval e X.env) :: starEach es X.env := by rfl) (hpl : (backTo pos (starEach es X.env)).any (·.1) = false := by rfl)
    (ht : eval (.Call (.Attribute o m apos) (e :: es) [] pos) X.env = (do
      let ov ← eval o X.env
      standAt apos.atName
      let (f, first) ← holding [ov] (getMethod ov m pl)
      callWith pos f first (backTo pos (starEach (e :: es) X.env)) (backToKw pos (keywordEach [] X.env))) := by rfl) :
    PE X (.Call (.Attribute o m apos) (e :: es) [] pos) (tMethO C m sp E ta t) := by
  refine ⟨fun pins s σ H Q I h => ?_⟩
  refine PySem.W.methodCall_KW (pl := pl) (thn (he.run pins s σ H _ I h) fun u s1 ⟨x, H1, I1, rx, a, dx, fs, ex, ea, l, q⟩ => ?_) ht
  subst ex
  obtain rfl : u = Value.ref a := rx
  refine getmeth_ok I1 ea c hm l ?_
  refine PySem.W.callWith_K (first := [.ref a]) (h₀ := X.base) I.ok.mod.kin hm.kp (thn (ha.run pos pins s1 σ H1 _ I1 q) fun us s2 ⟨vs, H2, I2, r, q2⟩ => ⟨I2.kIn, ?_⟩) hst hpl
  exact run_fnS (us := .ref a :: us) (vs := .ref a :: vs) F hr hb (hx σ) I2 (.cons rfl r) q2
/-- C(..) -/
def tMakeS (C : Addr) (sp : Sp) (E : L2.St → XK) (t : TA) : TE := fun σ H Q => t σ H fun vs H1 => ∀ x dx, H1 x = none → H1 dx = none → dx ≠ x →
  sp (.ref x :: vs) (upd (upd H1 dx (.own x)) x (.ins C dx [])) (fun v H2 => v = .non ∧ Q (.ref x) H2) (E σ)
open PyProof.Rows in
theorem run_makeS {pins : List (Addr × Obj)} {σ : L2.St} {H : Hp} {s : Shared} {Q : VK} {us : List Value} {vs : List V} (M : Mk X.K C f) (F : FnOk X.prog X.w X.K X.mg X.base CX k f fd ps sp) (hr : Room (k + 1) X.A) (hb : Binds X.K fd ps [])
    (hx : PassesAt CX X σ (E σ)) (I : Inv X pins σ H s) (r : Vals vs us)
    (h : ∀ x dx, H x = none → H dx = none → dx ≠ x → sp (.ref x :: vs) (upd (upd H dx (.own x)) x (.ins C dx [])) (fun v H2 => v = .non ∧ Q (.ref x) H2) (E σ)) :
    wpAny (model X.prog X.w) X.A (call (.ref C) us) (EP X pins σ Q) X.xe s := by
  have hq := h (s.heap.objs.size + 1) s.heap.objs.size (I.hok.fresh (Nat.le_succ _)) (I.hok.fresh (Nat.le_refl _)) (Nat.ne_of_lt (Nat.lt_succ_self _))
  have I2 := Inv.made (C := C) I
  have r2 : Vals (V.ref (s.heap.objs.size + 1) :: vs) (Value.ref (s.heap.objs.size + 1) :: us) := .cons rfl r
  have hl : (Value.ref (s.heap.objs.size + 1) :: us ++ []).length = ps.length := by
    have e := r2.length
    rw [F.len _ _ _ _ hq] at e
    rw [List.append_nil]
    exact e.symm
  have b := hb _ (Value.ref (s.heap.objs.size + 1) :: us) I2.kIn hl
  rw [List.append_nil] at b
  refine wpAny_call (make_map (f := f) I.kIn M.makes M.init (beq_iff_eq.mp M.fn) (codeAny_mono (F.run _ X.stack _ _ ⟨Value.ref (s.heap.objs.size + 1) :: us, []⟩ (Value.ref (s.heap.objs.size + 1) :: us) _ _ (E σ) (hr.make C us [])
    (I2.env0.make C us []) b r2 hq) fun r s' hq' => ?_))
  cases r with
  | error e => exact hx pins _ _ e s' I2 hq'
  | ok fl =>
    cases fl with
    | ret u =>
      obtain ⟨v, H', I3, rv, ev, q3⟩ := I2.after hq'
      subst ev
      exact ⟨rv, ⟨V.ref (s.heap.objs.size + 1), H', I3, rfl, q3⟩⟩
    | next => exact False.elim hq'
    | brk => exact False.elim hq'
    | cont => exact False.elim hq'
theorem pe_makeS (M : Mk X.K C f) (F : FnOk X.prog X.w X.K X.mg X.base CX k f fd ps sp) (hr : Room (k + 1) X.A) (hg : Gl X x) (hm : X.mg x = some (.ref C)) (hb : Binds X.K fd ps []) (hx : ∀ σ, PassesAt CX X σ (E σ))
    (ha : PA X (e :: es) t) (hdb : (x == ("__debug__" : Str)) = false := by decide) (he : starEach (e :: es) X.env = (false, eval e X.env) :: starEach es X.env := by rfl) (hpl : (backTo pos (starEach es X.env)).any (·.1) = false := by rfl) :
    PE X (.Call (.Name x p) (e :: es) [] pos) (tMakeS C sp E t) := by
  refine ⟨fun pins s σ H Q I h => ?_⟩
  refine wpAny_Call_Name_kw (ld_glob I hg hm ?_ hdb)
  refine PySem.W.callWith_K (h₀ := X.base) I.ok.mod.kin M.kp (thn (ha.run pos pins s σ H _ I h) fun us s1 ⟨vs, H1, I1, r, q⟩ => ⟨I1.kIn, ?_⟩) he hpl
  exact run_makeS M F hr hb (hx σ) I1 r q
end
end L2

namespace KW
open PySem PySem.Spec L2
section
variable {b : Bx} {F F' H H' : Hp} {as as' : List Addr} {s s' : S} {σ σ' : L2.St} {k : AV → S → Prop} {A : AE} {E : L2.St → XK} {ex : Addr → List (Str × D) → S → Prop} {ta : TA} {φ : Wp}
/-- a cell's content that names no cells -/
def flat : CO → Prop
  | .ins _ fs => ∀ f ∈ fs, ∀ n, f.2 ≠ .c n
  | _ => True
theorem AVReps.flat {K : PySem.W.Frag} : ∀ {vs : List V} {avs : List AV}, AVReps K F as vs avs → (∀ av ∈ avs, ∀ n, av ≠ .c n) → AVReps K F as' vs avs
  | _, _, .nil, _ => .nil
  | _, _, .cons (d := d) h r, hn => by
    refine .cons ?_ (AVReps.flat r fun av m => hn av (List.mem_cons_of_mem _ m))
    cases d with
    | un => exact h
    | d x => exact h
    | c n => exact absurd rfl (hn _ List.mem_cons_self n)
theorem CRep.flat {K : PySem.W.Frag} {a : Addr} {co : CO} (h : CRep K F as H a co) (hf : flat co) : CRep K F as' H a co := by
  cases co with
  | lst l => exact h
  | dK l => exact h
  | dT l => exact h
  | deck => exact h
  | dead => exact h
  | ins C fs =>
    obtain ⟨dx, fvs, h1, h2, h3⟩ := h
    refine ⟨dx, fvs, h1, h2, h3.flat fun av m n => ?_⟩
    obtain ⟨f, hm, rfl⟩ := List.mem_map.mp m
    exact hf f hm n
/-- back from a callee that has made a new cell -/
theorem Gm.backN {K : PySem.W.Frag} {B F0 : Hp} {cs cs' : List CO} {m : Nat} {a : Addr} {co : CO} (g : Gm K B F0 F as cs H) (g' : Gm K H F F' as' cs' H') (e : Ex F F') (ha : as'[m]? = some a) (hc : cs'[m]? = some co) (lv : live co) (fl : flat co) :
    Gm K B F0 F' (as ++ [a]) (cs ++ [co]) H' := by
  have q := g.back g' e
  obtain ⟨x1, x2, x3⟩ := g'.cell m a co ha hc lv
  have hn : a ∉ as := fun z => by
    obtain ⟨i, hi⟩ := List.getElem?_of_mem z
    obtain ⟨o, ho⟩ := g.ha i a hi
    rw [x2] at ho
    cases ho
  refine ⟨q.fh, q.bh, q.nw, by rw [List.length_append, List.length_append, q.len] <;> rfl, nodup_snoc q.nd hn, fun i c h1 => ?_, fun i c d h1 h2 h3 => ?_⟩
  · rcases snoc_get h1 with h | ⟨_, rfl⟩
    · exact q.ha i c h
    · exact g'.ha m _ ha
  · rcases snoc_get h1 with h | ⟨e1, rfl⟩
    · rcases snoc_get h2 with h' | ⟨e2, _⟩
      · obtain ⟨y1, y2, y3⟩ := q.cell i c d h h' h3
        exact ⟨y1, y2, y3.mono (.refl F') (.snoc as a) fun _ z => z⟩
      · have := lt_of_get h
        rw [q.len] at this
        omega
    · rcases snoc_get h2 with h' | ⟨_, rfl⟩
      · have := lt_of_get h'
        rw [← q.len] at this
        omega
      · exact ⟨x1, g.bh.free x2, x3.flat fl⟩
/-- a def by what it asks, what it gives, what it raises -/
def wpR (pre : List AV → List CO → Prop) (post : List AV → List CO → AV → List CO → Prop) (exc : List AV → List CO → Addr → List (Str × D) → List CO → Prop) : Wp := fun avs cs k ex =>
  pre avs cs ∧ (∀ av cs', post avs cs av cs' → k av cs') ∧ ∀ C fs cs', exc avs cs C fs cs' → ex C fs cs'
variable {pre : List AV → List CO → Prop} {post : List AV → List CO → AV → List CO → Prop} {exc : List AV → List CO → Addr → List (Str × D) → List CO → Prop}
/-- what comes back of a callee without cells -/
def GotN (k : AV → S → Prop) (s1 : S) (av : AV) (cs' : List CO) : Prop := (∃ d, av = .d d ∧ k (.d d) s1) ∨ ∃ m co, av = .c m ∧ cs'[m]? = some co ∧ live co ∧ flat co ∧ k (.c s1.cs.length) (s1.new co)
theorem gotN {s1 : S} {av : AV} {cs' : List CO} {σ : L2.St} {H1 H' : Hp} {F1 F' : Hp} {as1 as2 : List Addr} {v : V} {Q : VK} (g1 : G b F1 as1 s1 σ H1) (hk : GotN k s1 av cs') (m : Gm b.K H1 F1 F' as2 cs' H') (e : Ex F1 F') (r : AVRep b.K F' as2 v av)
    (q : ∀ v av s' F' as' H', k av s' → G b F' as' s' σ H' → Ex F1 F' → Pre as1 as' → AVRep b.K F' as' v av → Q v H') : Q v H' := by
  rcases hk with ⟨d, rfl, hk⟩ | ⟨j, co, rfl, hc, lv, fl, hk⟩
  · exact q v (.d d) s1 F' as1 H' hk (g1.of (g1.gm.back m e) e (.refl as1) rfl) e (.refl as1) r
  · obtain ⟨a, ha, rfl⟩ := r
    have m2 := g1.gm.backN m e ha hc lv fl
    exact q (.ref a) _ (s1.new co) F' (as1 ++ [a]) H' hk (g1.of m2 e (.snoc as1 a) rfl) e (.snoc as1 a) ⟨a, by rw [← g1.gm.len, List.getElem?_append_right (Nat.le_refl _), Nat.sub_self] <;> rfl, rfl⟩
/-- a call of data: the answer a datum or a new cell -/
theorem we_callG {ta : TA} (hW : XOk b (fun c d σ H => E σ c d H) ex)
    (h : WA b ta s fun xs s1 => ∃ ds : List D, xs = ds.map .d ∧ pre (ds.map .d) [] ∧ (∀ av cs', post (ds.map .d) [] av cs' → GotN k s1 av cs') ∧ ∀ C fs cs', exc (ds.map .d) [] C fs cs' → ex C fs s1) : WE b (tCallS (spG b.K (wpR pre post exc)) E ta) s k := fun F as σ H g Q q =>
  h F as σ H g _ fun vs xs s1 F1 as1 H1 h1 g1 e1 p1 r1 => by
    obtain ⟨ds, rfl, hp, hk, hx⟩ := h1
    refine ⟨H1, F1, [], ds.map .d, [], g1.gm.callee, .of_ds r1.ds, hp, fun av cs' ho v F' as' H' m e _ r => ?_, fun C fs cs' hc d F' as' H' m e _ xr => ?_⟩
    · exact gotN g1 (hk av cs' ho) m e r fun v av s' F' as' H' h1 h2 h3 h4 h5 => q v av s' F' as' H' h1 h2 (e1.trans h3) (p1.trans h4) h5
    · exact hW C d fs s1 F' as1 σ H' (hx C fs cs' hc) (g1.of (g1.gm.back m e) e (.refl as1) rfl) xr
theorem we_callG0 {ta : TA}
    (h : WA b ta s fun xs s1 => ∃ ds : List D, xs = ds.map .d ∧ pre (ds.map .d) [] ∧ (∀ av cs', post (ds.map .d) [] av cs' → GotN k s1 av cs') ∧ ∀ C fs cs', ¬ exc (ds.map .d) [] C fs cs') : WE b (tCall (spG b.K (wpR pre post exc)) [] E0 ta) s k := fun F as σ H g Q q =>
  h F as σ H g _ fun vs xs s1 F1 as1 H1 h1 g1 e1 p1 r1 => by
    obtain ⟨ds, rfl, hp, hk, hx⟩ := h1
    show spG b.K (wpR pre post exc) (vs ++ []) H1 Q E0
    rw [List.append_nil]
    refine ⟨H1, F1, [], ds.map .d, [], g1.gm.callee, .of_ds r1.ds, hp, fun av cs' ho v F' as' H' m e _ r => ?_, fun C fs cs' hc d F' as' H' m e _ xr => ?_⟩
    · exact gotN g1 (hk av cs' ho) m e r fun v av s' F' as' H' h1 h2 h3 h4 h5 => q v av s' F' as' H' h1 h2 (e1.trans h3) (p1.trans h4) h5
    · exact absurd hc (hx C fs cs')

-- ### one cell handed in
def hide (H : Hp) (p : Addr) : Hp := fun a => if a = p then none else H a
theorem Gm.callee1 {K : PySem.W.Frag} {B F0 : Hp} {cs : List CO} {n : Nat} {p : Addr} {co : CO} (g : Gm K B F0 F as cs H) (hp : as[n]? = some p) (hc : cs[n]? = some co) (lv : live co) (fl : flat co) : Gm K (hide H p) F F [p] [co] H := by
  obtain ⟨x1, x2, x3⟩ := g.cell n p co hp hc lv
  refine ⟨g.fh, fun a o e => ?_, fun a o e => .inl ⟨o, e⟩, rfl, by simp, fun i a e => ?_, fun i a c e1 e2 e3 => ?_⟩
  · unfold hide at e
    split at e
    · cases e
    · exact e
  · have : [p][i]? = some a := e
    have hi : i = 0 := by have := lt_of_get this; simp at this; omega
    subst hi
    obtain rfl : p = a := Option.some.inj this
    exact x3.there lv
  · have hi : i = 0 := by have := lt_of_get e1; simp at this; omega
    subst hi
    obtain rfl : p = a := Option.some.inj e1
    obtain rfl : co = c := Option.some.inj e2
    exact ⟨x1, if_pos rfl, x3.flat fl⟩
theorem Gm.back1 {K : PySem.W.Frag} {B F0 : Hp} {cs cs' : List CO} {n : Nat} {p : Addr} {co co' : CO} (g : Gm K B F0 F as cs H) (hp : as[n]? = some p) (hc : cs[n]? = some co) (lv : live co) (m : Gm K (hide H p) F F' (p :: as') (co' :: cs') H') (e : Ex F F') (lv' : live co') (fl' : flat co') : Gm K B F0 F' as (cs.set n co') H' := by
  obtain ⟨x1, x2, x3⟩ := g.cell n p co hp hc lv
  have keep : ∀ a o, a ≠ p → H a = some o → H' a = some o := fun a o ha e => m.bh a o (by unfold hide; rw [if_neg ha]; exact e)
  obtain ⟨y1, y2, y3⟩ := m.cell 0 p co' rfl rfl lv'
  refine ⟨m.fh, fun a o ea => ?_, fun a o h => ?_, by rw [List.length_set]; exact g.len, g.nd, fun i a h => ?_, fun i a c h1 h2 h3 => ?_⟩
  · exact keep a o (fun z => by rw [z, x2] at ea; cases ea) (g.bh a o ea)
  · rcases m.nw a o h with ⟨u, hu⟩ | hn | ht
    · rcases g.nw a u hu with z | z | ⟨xs, z⟩
      · exact .inl z
      · exact .inr (.inl z)
      · refine .inr (.inr ⟨xs, ?_⟩)
        have := e a u hu
        rw [h] at this
        rw [Option.some.inj this, z]
    · unfold hide at hn
      split at hn
      · rename_i z
        rw [z]
        exact .inr (.inl x2)
      · exact .inr (.inl (g.bh.free hn))
    · exact .inr (.inr ht)
  · by_cases ha : a = p
    · rw [ha]
      exact y3.there lv'
    · obtain ⟨o, ho⟩ := g.ha i a h
      exact ⟨o, keep a o ha ho⟩
  · by_cases hi : i = n
    · subst hi
      rw [hp] at h1
      obtain rfl := Option.some.inj h1
      rw [List.getElem?_set_self (lt_of_get hc)] at h2
      obtain rfl := Option.some.inj h2
      exact ⟨y1, x2, y3.flat fl'⟩
    · rw [List.getElem?_set_ne (Ne.symm hi)] at h2
      obtain ⟨z1, z2, z3⟩ := g.cell i a c h1 h2 h3
      have ha : a ≠ p := fun z => by
        subst z
        exact hi (nd_eq g.nd h1 hp)
      refine ⟨?_, z2, z3.mono e (.refl as) fun o ho => keep a o ha ho⟩
      cases q : F' a with
      | none => rfl
      | some o =>
        rcases m.nw a o q with ⟨u, hu⟩ | hn | ⟨xs, ht⟩
        · rw [z1] at hu
          cases hu
        · obtain ⟨u, hu⟩ := z3.there h3
          unfold hide at hn
          rw [if_neg ha, hu] at hn
          cases hn
        · obtain ⟨u, hu⟩ := z3.there h3
          have w1 := keep a u ha hu
          have w2 := m.fh a o q
          rw [w1] at w2
          rw [Option.some.inj w2, ht] at hu
          exact (z3.notTup h3 hu).elim
/-- the cell n as the callee's cell 0 -/
def re1 (n : Nat) : AV → AV
  | .c m => if m = n then .c 0 else .un
  | av => av
theorem areps1 {K : PySem.W.Frag} {n : Nat} {p : Addr} (hp : as[n]? = some p) : ∀ {vs : List V} {avs : List AV}, AVReps K F as vs avs → (∀ m, AV.c m ∈ avs → m = n) → AVReps K F [p] vs (avs.map (re1 n))
  | _, _, .nil, _ => .nil
  | _, _, .cons (d := d) h r, hn => by
    refine .cons ?_ (areps1 hp r fun m hm => hn m (List.mem_cons_of_mem _ hm))
    cases d with
    | un => exact h
    | d x => exact h
    | c m =>
      obtain ⟨a, h1, h2⟩ := h
      obtain rfl := hn m List.mem_cons_self
      rw [hp] at h1
      obtain rfl := Option.some.inj h1
      show AVRep K F [p] _ (if m = m then .c 0 else .un)
      rw [if_pos rfl]
      exact ⟨p, rfl, h2⟩
/-- a call with the cell n (and data): the answer a datum, the cell changed -/
theorem we_callC {ta : TA} (n : Nat) (hW : XOk b (fun c d σ H => E σ c d H) ex)
    (h : WA b ta s fun xs s1 => ∃ co, s1.cs[n]? = some co ∧ live co ∧ flat co ∧ (∀ m, AV.c m ∈ xs → m = n) ∧ pre (xs.map (re1 n)) [co] ∧
      (∀ av cs', post (xs.map (re1 n)) [co] av cs' → ∃ d co' rest, av = .d d ∧ cs' = co' :: rest ∧ live co' ∧ flat co' ∧ k (.d d) (s1.put n co')) ∧
      ∀ C fs cs', exc (xs.map (re1 n)) [co] C fs cs' → ∃ co' rest, cs' = co' :: rest ∧ live co' ∧ flat co' ∧ ex C fs (s1.put n co')) : WE b (tCallS (spG b.K (wpR pre post exc)) E ta) s k := fun F as σ H g Q q =>
  h F as σ H g _ fun vs xs s1 F1 as1 H1 h1 g1 e1 p1 r1 => by
    obtain ⟨co, hc, lv, fl, hn, hp, hk, hx⟩ := h1
    obtain ⟨p, ha⟩ := g1.gm.adr hc
    refine ⟨hide H1 p, F1, [p], xs.map (re1 n), [co], g1.gm.callee1 ha hc lv fl, areps1 ha r1 hn, hp, fun av cs' ho v F' as' H' m e pr r => ?_, fun C fs cs' ho d F' as' H' m e pr xr => ?_⟩
    · obtain ⟨d, co', rest, rfl, rfl, lv', fl', hk'⟩ := hk av cs' ho
      obtain ⟨zs, rfl⟩ := pr
      have m2 := g1.gm.back1 ha hc lv m e lv' fl'
      exact q v (.d d) (s1.put n co') F' as1 H' hk' (g1.of m2 e (.refl as1) rfl) (e1.trans e) p1 r
    · obtain ⟨co', rest, rfl, lv', fl', hx'⟩ := hx C fs cs' ho
      obtain ⟨zs, rfl⟩ := pr
      have m2 := g1.gm.back1 ha hc lv m e lv' fl'
      exact hW C d fs (s1.put n co') F' as1 σ H' hx' (g1.of m2 e (.refl as1) rfl) xr
theorem we_callC0 {ta : TA} (n : Nat)
    (h : WA b ta s fun xs s1 => ∃ co, s1.cs[n]? = some co ∧ live co ∧ flat co ∧ (∀ m, AV.c m ∈ xs → m = n) ∧ pre (xs.map (re1 n)) [co] ∧
      (∀ av cs', post (xs.map (re1 n)) [co] av cs' → ∃ d co' rest, av = .d d ∧ cs' = co' :: rest ∧ live co' ∧ flat co' ∧ k (.d d) (s1.put n co')) ∧
      ∀ C fs cs', ¬ exc (xs.map (re1 n)) [co] C fs cs') : WE b (tCall (spG b.K (wpR pre post exc)) [] E0 ta) s k := fun F as σ H g Q q =>
  h F as σ H g _ fun vs xs s1 F1 as1 H1 h1 g1 e1 p1 r1 => by
    obtain ⟨co, hc, lv, fl, hn, hp, hk, hx⟩ := h1
    obtain ⟨p, ha⟩ := g1.gm.adr hc
    show spG b.K (wpR pre post exc) (vs ++ []) H1 Q E0
    rw [List.append_nil]
    refine ⟨hide H1 p, F1, [p], xs.map (re1 n), [co], g1.gm.callee1 ha hc lv fl, areps1 ha r1 hn, hp, fun av cs' ho v F' as' H' m e pr r => ?_, fun C fs cs' ho d F' as' H' m e pr xr => absurd ho (hx C fs cs')⟩
    obtain ⟨d, co', rest, rfl, rfl, lv', fl', hk'⟩ := hk av cs' ho
    obtain ⟨zs, rfl⟩ := pr
    have m2 := g1.gm.back1 ha hc lv m e lv' fl'
    exact q v (.d d) (s1.put n co') F' as1 H' hk' (g1.of m2 e (.refl as1) rfl) (e1.trans e) p1 r
-- ### methods of frozen instances
theorem we_meth {C : Addr} {m : Str} {te : TE} {pre : List D → Prop} {post : List D → D → Prop} {exc : List D → Addr → List (Str × D) → Prop} (hW : XOk b (fun c d σ H => E σ c d H) ex)
    (h : WE b te s fun x s1 => ∃ fs, x = .d (.ins C fs) ∧ fs.lookup m = none ∧ WA b ta s1 fun xs s2 => ∃ ds : List D, xs = ds.map .d ∧ pre (.ins C fs :: ds) ∧ (∀ d, post (.ins C fs :: ds) d → k (.d d) s2) ∧ ∀ C' fs', exc (.ins C fs :: ds) C' fs' → ex C' fs' s2) : WE b (tMethO C m (spD b.K pre post exc) E te ta) s k := fun F as σ H g Q q =>
  h F as σ H g _ fun v x s1 F1 as1 H1 h1 g1 e1 p1 r1 => by
    obtain ⟨fs, rfl, hl, h2⟩ := h1
    cases id r1 with
    | @ins a _ dx fvs fds q1 q2 q3 =>
      refine ⟨a, dx, fvs, rfl, g1.gm.fh _ _ q1, ?_, h2 F1 as1 σ H1 g1 _ fun vs xs s2 F2 as2 H2 h2 g2 e2 p2 r2 => ?_⟩
      · have : ∀ {l : List (Str × V)} {l' : List (Str × D)}, l.map (·.1) = l'.map (·.1) → l'.lookup m = none → l.lookup m = none := by
          intro l
          induction l with
          | nil => intro l' _ _; rfl
          | cons p l ih =>
            intro l' he hn
            cases l' with
            | nil => cases he
            | cons p' l' =>
              obtain ⟨n1, x1⟩ := p
              obtain ⟨n2, x2⟩ := p'
              obtain rfl : n1 = n2 := (List.cons.inj he).1
              rw [List.lookup_cons] at hn ⊢
              by_cases z : (m == n1) = true
              · rw [z] at hn
                cases hn
              · have z' : (m == n1) = false := by simpa using z
                rw [z'] at hn ⊢
                exact ih (List.cons.inj he).2 hn
        exact this q2 hl
      · obtain ⟨ds, rfl, hp, hk, hx⟩ := h2
        have rd := r2.ds
        refine ⟨H2, F2, [], (D.ins C fs :: ds).map .d, [], g2.gm.callee, .of_ds (.cons (Rep.mono e2 r1) rd), rfl, _, rfl, hp, fun d cs' hd v F' as' H' m e _ r => ?_, fun C' fs' cs' hc d F' as' H' m e _ xr => ?_⟩
        · exact q v (.d d) s2 F' as2 H' (hk d hd) (g2.of (g2.gm.back m e) e (.refl as2) rfl) ((e1.trans e2).trans e) (p1.trans p2) r
        · exact hW C' d fs' s2 F' as2 σ H' (hx C' fs' hc) (g2.of (g2.gm.back m e) e (.refl as2) rfl) xr
-- ### a new instance
theorem we_make {C : Addr} (hW : XOk b (fun c d σ H => E σ c d H) ex)
    (h : WA b ta s fun xs s1 => ∃ ds : List D, xs = ds.map .d ∧ pre (.c 0 :: ds.map .d) [.ins C []] ∧
      (∀ av cs', post (.c 0 :: ds.map .d) [.ins C []] av cs' → av = .d .non ∧ ∃ fs rest fds, cs' = .ins C fs :: rest ∧ plainF fs = some fds ∧ k (.d (.ins C fds)) s1) ∧
      ∀ C' fs cs', exc (.c 0 :: ds.map .d) [.ins C []] C' fs cs' → ex C' fs s1) : WE b (tMakeS C (spG b.K (wpR pre post exc)) E ta) s k := fun F as σ H g Q q =>
  h F as σ H g _ fun vs xs s1 F1 as1 H1 h1 g1 e1 p1 r1 => fun x dx hx hdx hne => by
    obtain ⟨ds, rfl, hp, hk, hxx⟩ := h1
    have gd := g1.gm.gb (o := .own x) hdx
    have hx2 : upd H1 dx (.own x) x = none := by rw [upd_ne (Ne.symm hne)]; exact hx
    -- the callee's own view: the new instance as its one cell, all else stands
    have hF : F1 x = none := g1.gm.fh.free hx
    have gc : Gm b.K (upd H1 dx (.own x)) F1 F1 [x] [.ins C []] (upd (upd H1 dx (.own x)) x (.ins C dx [])) := by
      refine ⟨gd.fh.upd hF, (Ex.refl _).upd hx2, fun a o e => .inl ⟨o, e⟩, rfl, by simp, fun i a e => ?_, fun i a c e1 e2 e3 => ?_⟩
      · have hi : i = 0 := by have := lt_of_get e; simp at this; omega
        subst hi
        obtain rfl : x = a := Option.some.inj e
        exact ⟨_, upd_same⟩
      · have hi : i = 0 := by have := lt_of_get e1; simp at this; omega
        subst hi
        obtain rfl : x = a := Option.some.inj e1
        obtain rfl : CO.ins C [] = c := Option.some.inj e2
        exact ⟨hF, hx2, dx, [], upd_same, rfl, .nil⟩
    have back : ∀ {F' : Hp} {as' : List Addr} {cs' : List CO} {H' : Hp}, Gm b.K (upd H1 dx (.own x)) F1 F' as' cs' H' → Ex F1 F' → Gm b.K b.B b.F0 F' as1 s1.cs H' := fun {F' as' cs' H'} m e => gd.back m e
    refine ⟨upd H1 dx (.own x), F1, [x], .c 0 :: ds.map .d, [.ins C []], gc, .cons ⟨x, rfl, rfl⟩ (.of_ds r1.ds), hp, fun av cs' ho v F' as' H' m e pr r => ?_, fun C' fs cs' ho d F' as' H' m e pr xr => ?_⟩
    · obtain ⟨rfl, fs, rest, fds, rfl, hf, hk'⟩ := hk av cs' ho
      refine ⟨Rep.non_inv r, ?_⟩
      obtain ⟨zs, rfl⟩ := pr
      have lv : live (.ins C fs) := trivial
      obtain ⟨y1, y2, dx', fvs, y3, y4⟩ := m.cell 0 x _ rfl rfl lv
      obtain ⟨q1, q2⟩ := plainF_reps (b := b) (fvs := fvs) hf y4
      -- frozen
      obtain ⟨m2, e2⟩ := m.fr (n := 0) rfl rfl lv y3
      have m3 := back m2 (e.trans e2)
      exact q (.ref x) _ s1 _ as1 H' hk' (g1.of m3 (e.trans e2) (.refl as1) rfl) (e1.trans (e.trans e2)) p1 (.ins upd_same q1 (q2.mono e2))
    · exact hW C' d fs s1 F' as1 σ H' (hxx C' fs cs' ho) (g1.of (back m e) e (.refl as1) rfl) xr
end
end KW

-- Rules of the machine that the hand layer lacks: enumerate and sorted of a tuple.
namespace PySem
open Sem (wp)
open AutoSeq1 (wpAny_loadPart')
theorem meets_enumerate_newT (l : Addr) (items : Array Value) (n : Nat) (dct : Option Addr) (sl : Array (Option Value)) :
    Meets (Builtin.«enumerate.__new__» ⟨[.type "enumerate", .ref l], []⟩) (fun _ R s => s.heap.get? l = some { cls := .type "tuple", dict := dct, data := .seq items n, slots := sl } ∧
      R (.ok (.ret (.ref (s.heap.push { cls := .type "tuple_iterator", data := .fields #[.ref l, .int 0 0] }).objs.size)))
        { s with heap := (s.heap.push { cls := .type "tuple_iterator", data := .fields #[.ref l, .int 0 0] }).push { cls := .type "enumerate", data := .fields #[.none, .bool false, .ref s.heap.objs.size, rawInt 0, .none, .none] } }) :=
  .of_wp fun prog w A R s h => by
    obtain ⟨hp, g, d, tk, os⟩ := s; obtain ⟨hl, h⟩ := h
    have hsub := sub_enumerate
    have hL : Heap.IsTuple (Shared.heap ⟨hp, g, d, tk, os⟩) l items := ⟨_, hl, rfl, n, rfl⟩
    wp_walk using wpAny_loadPart' hl
    refine wpAny_stack_any fun st => wpAny_pure ?_
    split
    · rename_i c _ _ _ _ _
      cases (c == Value.type "enumerate")
      · wp_walk using wpAny_loadPart' hl, wpAny_pyIter_tuple hL
        exact ⟨_, rfl, h⟩
      · wp_walk using wpAny_loadPart' hl, wpAny_pyIter_tuple hL
        exact ⟨_, rfl, h⟩
    · wp_walk using wpAny_loadPart' hl, wpAny_pyIter_tuple hL
      exact ⟨_, rfl, h⟩
section
variable {prog : Program} {w : World} {A : Around} {E : Value → Shared → Prop} {s : Shared}
theorem call_enumerate_tuple {l : Addr} {items : Array Value} {Q : Value → Shared → Prop} (hL : s.heap.IsTuple l items)
    (h : ∀ h', IsEnum h' (s.heap.objs.size + 1) s.heap.objs.size 0 .none → h'.IsTupleIter s.heap.objs.size l 0 → h'.objs.size = s.heap.objs.size + 2 →
      (∀ b o, s.heap.get? b = some o → h'.get? b = some o) → Q (.ref (s.heap.objs.size + 1)) { s with heap := h' }) :
    wpAny (model prog w) A (call (.type "enumerate") [.ref l]) Q E s := by
  obtain ⟨⟨c, dct, dt, sl⟩, hl, hc, n, hd⟩ := hL
  replace hc : c = .type "tuple" := hc
  replace hd : dt = .seq items n := hd
  subst hc hd
  refine callType_new F.called_enumerate (by decide) (F.typeCall_enumerate_1 _) (F.newCall_enumerate_1 _) (fun obj => F.args_object_init_2 obj _) F.entry_enumerate_new
    (meets_enumerate_newT l items n dct sl) ⟨hl, ?_⟩
  have hz : (s.heap.push { cls := .type "tuple_iterator", data := .fields #[.ref l, .int 0 0] }).objs.size = s.heap.objs.size + 1 := Heap.size_push ..
  show _ ∧ _
  rw [hz]
  have he : IsEnum ((s.heap.push { cls := .type "tuple_iterator", data := .fields #[.ref l, .int 0 0] }).push
      { cls := .type "enumerate", data := .fields #[.none, .bool false, .ref s.heap.objs.size, rawInt 0, .none, .none] }) (s.heap.objs.size + 1) s.heap.objs.size 0 .none := by
    have := Heap.get?_push_size (s.heap.push { cls := .type "tuple_iterator", data := .fields #[.ref l, .int 0 0] })
      (o := { cls := .type "enumerate", data := .fields #[.none, .bool false, .ref s.heap.objs.size, rawInt 0, .none, .none] }) rfl
    rw [hz] at this; exact this
  refine ⟨⟨_, he, rfl⟩, h _ he ⟨_, Heap.get?_push_of_some _ (Heap.get?_push_size _ rfl), rfl, rfl⟩ (by rw [Heap.size_push, hz]) fun b o x => Heap.get?_push_of_some _ (Heap.get?_push_of_some _ x)⟩
end
end PySem

namespace L2
open PySem PySem.Spec
def Iet (K : PySem.W.Frag) (a : Addr) : It :=
  ⟨fun i H => ∃ (xs : List V) (x : V), SqT K H a xs ∧ xs[i]? = some x, fun i H v H' => ∃ T x, v = .ref T ∧ H T = none ∧ H' = upd H T (.tup [.int (i : Nat), x]) ∧ ∀ xs, SqT K H a xs → xs[i]? = some x, fun i H => ∃ xs : List V, SqT K H a xs ∧ xs.length ≤ i⟩
theorem turn_enumT {P : Program} {w : World} {K : PySem.W.Frag} {elts : List Expr} {kk : Nat} {tpos : Pos} (a e it : Addr) :
    Turn P w K (.Tuple elts kk tpos) (Iet K a) [e, it] e (fun i h => (∃ old, IsEnum h e it ((i : Nat) : Int) old) ∧ h.IsTupleIter it a i ∧ e ≠ it ∧ a ≠ it ∧ e ≠ a) where
  mem := by simp
  obj := fun i h st b hb => by
    obtain ⟨⟨old, he⟩, ⟨o, ho, hc, hd⟩, _⟩ := st
    have e' : b = e ∨ b = it := by simpa using hb
    rcases e' with z | z
    · rw [z]; exact ⟨_, he, fun v q => nomatch q⟩
    · rw [z]; exact ⟨o, ho, fun v q => by rw [hd] at q; cases q⟩
  keep := fun i h h' st k => let ⟨⟨old, he⟩, hi, hne⟩ := st; ⟨⟨old, k e (by simp) _ he⟩, hi.at fun o q => k it (by simp) o q, hne⟩
  item := by
    intro X hP hw hK hc i pins s σ H E I hf st hg
    subst hP hw hK
    obtain ⟨⟨old, he⟩, hit, hne, hna, hea⟩ := st
    obtain ⟨xs, x, hq, hx⟩ := hg
    obtain ⟨its, rv, p, hz⟩ := I.tuple hq
    obtain ⟨u, hu, ru⟩ := rv.get hx
    have p' : s.heap.IsTuple a its.toArray := p
    have hel : e < s.heap.objs.size := Heap.lt_size he
    have hil : it < s.heap.objs.size := by obtain ⟨_, q, _⟩ := hit; exact Heap.lt_size q
    have hlt : i < its.toArray.size := by
      have : i < its.length := by
        rcases Nat.lt_or_ge i its.length with z | z
        · exact z
        · rw [List.getElem?_eq_none z] at hu; cases hu
      simpa using this
    refine wpAny_pyNext_enum_itemD (Draws.tuple (A := X.A.in1) (show X.A.in1.handled = none from I.ok.hd hc) it a hna its.toArray) he ⟨hit, p'⟩ hlt hne (by simp [hne, hea]) fun x0 h' tk hP ho hst' hT hsz hk => ?_
    have ex0 : x0 = u := by
      have h1 : its.toArray[i]? = some x0 := hP
      rw [List.getElem?_toArray, hu] at h1
      exact (Option.some.inj h1).symm
    subst ex0
    refine ⟨_, rfl, wpAny_letOwnedTupleGo_enum (s := { s with heap := h', toks := tk + 1 }) ho fun h'' he' sb => ?_⟩
    have hT2 : h''.get? s.heap.objs.size = some { cls := .type "tuple", data := .seq #[.int i tk, x0] } := (sb.2 _ (Nat.ne_of_gt hel)).trans hT
    have new : ObjOk X.prog X.w (upd H s.heap.objs.size (.tup [.int (i : Nat), x])) h'' s.heap.objs.size (.tup [.int (i : Nat), x]) :=
      ⟨by show 2 ≤ sizeLine; decide, [.int i tk, x0], .cons ⟨_, rfl⟩ (.cons ru .nil), ⟨_, hT2, rfl, _, rfl⟩⟩
    have I1 : Inv X pins σ (upd H s.heap.objs.size (.tup [.int (i : Nat), x])) { s with heap := h'', toks := tk + 1 } :=
      I.turnedNew (ch := [e, it]) (fun b ob hb q => (sb.2 b (fun z => hb (by simp [z]))).trans (hk b ob (fun z => hb (by simp [z])) (fun z => hb (by simp [z])) q)) hf (Nat.le_refl _) new
    refine ⟨.ref s.heap.objs.size, _, I1, rfl, ⟨_, x, rfl, I.hok.fresh (Nat.le_refl _), rfl, fun ys hy => by rw [I.tuple_inj hy hq]; exact hx⟩, ⟨⟨x0, ?_⟩, hst'.1.at fun o q => (sb.2 it (Ne.symm hne)).trans q, hne, hna, hea⟩, fun b hb => ?_⟩
    · have e1 : ((i + 1 : Nat) : Int) = (i : Int) + 1 := by omega
      rw [e1]; exact he'
    · have hb' : b < s.heap.objs.size := by
        have e' : b = e ∨ b = it := by simpa using hb
        rcases e' with z | z
        · rw [z]; exact hel
        · rw [z]; exact hil
      rw [upd_ne (Nat.ne_of_lt hb')]
      exact (hf b hb).1
  done := by
    intro X hP hw hK hc i pins s σ H E I hf st hg
    subst hP hw hK
    obtain ⟨⟨old, he⟩, hit, hne, hna, hea⟩ := st
    obtain ⟨xs, hq, hx⟩ := hg
    obtain ⟨its, rv, p, hz⟩ := I.tuple hq
    have p' : s.heap.IsTuple a its.toArray := p
    obtain ⟨f0, f1, f2, f3, f4, f5⟩ := hf it (by simp)
    have hl := rv.length
    have hT : s.TypeIs (.ref e) "enumerate" := ⟨_, he, rfl⟩
    unfold pyNext
    refine wpAny_bind (wpAny_attempt (wpAny_callSpecial?_slot (name := Str.ofString "__next__") hT F.slot_enumerate_next
      (wpAny_call_entry F.slot_enumerate_next hT F.entry_enumerate_next ?_ (F.args_enumerate_next_1 _))))
    show wpAny _ _ (field (.ref e) 2 >>= _) _ _ _
    refine wpAny_bind (wpAny_field he rfl (x := .ref it) rfl ?_)
    refine wpAny_bind (wpAny_nextOf_tuple_end (I.ok.hd hc) hit p' (by simp; omega) fun h' x he' hx' => ?_)
    obtain ⟨o, ho, hc'⟩ := hx'
    refine wpAny_bind (wpAny_isInstance (T := "StopIteration") (b := true) ⟨o, ho, hc'⟩ isSubtype_stop ?_)
    exact wpAny_pure ⟨rfl, I.turned (t' := s.toks) (fun b o hb q => he' b o hb q) f0 f1 f3 f4 f5⟩
  self := fun A i s Q E st h => let ⟨⟨_, he⟩, _⟩ := st; wpAny_pyIter_enum he h
def iEnumT (K : PySem.W.Frag) (ta : TA) : TI := fun σ H R => ta σ H fun vs H1 => ∃ a xs, vs = [.ref a] ∧ SqT K H1 a xs ∧ R (Iet K a) H1
theorem pi_enumT {X : Cx} {e : Expr} {ta : TA} {p pos tpos : Pos} {elts : List Expr} {kk : Nat} (hg : Gl X "enumerate") (hm : X.mg "enumerate" = none) (ha : PA X [e] ta) (hs : starEach [e] X.env = [(false, eval e X.env)] := by rfl) :
    PI X (.Tuple elts kk tpos) (.Call (.Name "enumerate" p) [e] [] pos) (iEnumT X.K ta) := by
  refine ⟨fun pins s σ H R I h => ?_⟩
  refine PyProof.Rows.Call_ (ld_blt I hg hm PyProof.Rows.boot_enumerate (PyProof.Rows.callWith_type1 (thn (ha.run pos pins s σ H _ I h) fun us s1 ⟨vs, H1, I1, r1, q1⟩ => ?_) hs rfl))
  obtain ⟨a, xs, ex, hq, q⟩ := q1
  subst ex
  cases r1 with
  | cons r rr =>
    cases rr
    cases r
    obtain ⟨its, rv, p', hz⟩ := I1.tuple hq
    have p2 : s1.heap.IsTuple a its.toArray := p'
    have hal : a < s1.heap.objs.size := by obtain ⟨o, ho, _⟩ := p2; exact Heap.lt_size ho
    refine call_enumerate_tuple p2 fun h' he hit hsz hk => wpAny_pyIter_enum he ?_
    have I2 : Inv X pins σ H1 { s1 with heap := h' } := I1.kept (t' := s1.toks) hk
    refine ⟨s1.heap.objs.size + 1, [s1.heap.objs.size + 1, s1.heap.objs.size], _, _, H1, rfl, I2, turn_enumT a (s1.heap.objs.size + 1) s1.heap.objs.size, ⟨⟨.none, he⟩, hit, Nat.succ_ne_self _, Nat.ne_of_lt hal, Nat.ne_of_gt (Nat.lt_succ_of_lt hal)⟩, fun b hb => ?_, q⟩
    have e' : b = s1.heap.objs.size + 1 ∨ b = s1.heap.objs.size := by simpa using hb
    have hle : s1.heap.objs.size ≤ b := by
      rcases e' with z | z
      · rw [z]; exact Nat.le_add_right _ _
      · rw [z]; exact Nat.le_refl _
    exact I1.fpOk hle (I1.hok.fresh hle)
/-- either way of walking -/
def iOr (w1 w2 : TI) : TI := fun σ H R => w1 σ H R ∨ w2 σ H R
theorem pi_or {X : Cx} {tg it : Expr} {w1 w2 : TI} (h1 : PI X tg it w1) (h2 : PI X tg it w2) : PI X tg it (iOr w1 w2) :=
  ⟨fun pins s σ H R I h => h.elim (h1.run pins s σ H R I) (h2.run pins s σ H R I)⟩
end L2

namespace SrtO
open PySem PyProof.Rows Srt
section
variable {prog : Program} {w : World} {A : Around} {E : Value → Shared → Prop} {s : Shared}
theorem collect_tuple {l : Addr} {vs : List Value} {Q : List Value → Shared → Prop} (hl : s.heap.IsTuple l vs.toArray)
    (h : Q vs { s with heap := (s.heap.push (seqObj "list" #[] 0)).update s.heap.objs.size (Obj.mapSeq (· ++ vs.toArray)) }) (hsz : vs.length ≤ sizeLine) :
    wpAny (model prog w) A (collect (.ref l)) Q E s := by
  obtain ⟨o, ho, hc, n, hd⟩ := id hl
  unfold collect
  refine wpAny_bind (wpAny_runValue (codeAny_builtin entry_proto_collect' ?_))
  show wpAny _ _ (do again (.builtin "list.__iadd__" ⟨[← newList [], .ref l], []⟩)) _ _ s
  refine wpAny_bind (wpAny_newList (wpAny_pure ⟨Code.quiet_builtin _ (by decide +kernel), codeAny_builtin entry_list_iadd' ?_⟩))
  show wpAny _ _ (Builtin.List.listExtendWith (.ref s.heap.objs.size) (.ref l) (.ref s.heap.objs.size)) _ _ { s with heap := s.heap.push (seqObj "list" #[] 0) }
  unfold Builtin.List.listExtendWith
  have ho' : (s.heap.push (seqObj "list" #[] 0)).get? l = some o := Heap.get?_push_of_some _ ho
  refine wpAny_bind (wpAny_typeOf (T := "tuple") ⟨o, ho', hc⟩ ?_)
  have ht : (Value.type "tuple" == Value.type "tuple") = true := by rfl
  rw [if_pos (by rw [ht]; simp)]
  refine wpAny_bind (listItems_at ho' hd ?_)
  refine wpAny_bind (listItems_at (xs := #[]) (n := 0) (Heap.get?_push_size _ rfl) rfl ?_)
  rw [if_neg (by simp)]
  refine wpAny_bind (listUpdate_at (xs := #[]) (n := 0) (Heap.get?_push_size _ rfl) rfl ?_ (Nat.zero_le _) (by show (#[] ++ vs.toArray).size ≤ sizeLine + 1; simp only [Array.size_append, List.size_toArray, List.length_nil]; omega))
  refine wpAny_pure ?_
  show wpAny (model prog w) A (do
      let o ← load s.heap.objs.size
      match o.data with
      | .seq xs _ => pure xs.toList
      | _ => unsupported "internal:collect") Q E { s with heap := (s.heap.push (seqObj "list" #[] 0)).update s.heap.objs.size (Obj.mapSeq (· ++ vs.toArray)) }
  refine wpAny_bind (wpAny_load (get?_update_seq (Heap.get?_push_size _ rfl) _) ?_)
  show wpAny _ _ (pure ((#[] : Array Value) ++ vs.toArray).toList) Q E _
  rw [show ((#[] : Array Value) ++ vs.toArray).toList = vs by simp]
  exact wpAny_pure h
theorem sorted_ordT {l : Addr} {vs : List Value} {ltv : Value → Value → Bool} {Q : Value → Shared → Prop} (O : Swo ltv) (hl : s.heap.IsTuple l vs.toArray) (hz : vs.length ≤ sizeLine)
    (hS : 2 ≤ vs.length → ∀ (h₁ : Heap) (a : Addr), h₁.get? a = some (seqObj "list" vs.toArray 0) → (∀ b o, s.heap.get? b = some o → b ≠ a ∧ h₁.get? b = some o) → SortableO prog w A.in1.in1 { s with heap := h₁ } a vs ltv)
    (h : ∀ out : List Value, Srtd ltv out → Stb ltv out vs → Q (.ref (s.heap.objs.size + 1)) { s with heap := sortedAll s.heap vs out.toArray }) :
    wpAny (model prog w) A (call (.builtin "sorted") [.ref l]) Q E s := by
  refine Calls.call_function_entry kind_sorted plain_sorted entry_sorted (args_sorted1 _) ?_
  unfold Builtin.«sorted»
  refine wpAny_bind (m := checkCount "sorted" 1 1 _) (wpAny_pure ?_)
  refine wpAny_bind (collect_tuple hl ?_ hz)
  refine wpAny_bind (wpAny_newList ?_ hz)
  have hsz : ((s.heap.push (seqObj "list" #[] 0)).update s.heap.objs.size (Obj.mapSeq (· ++ vs.toArray))).objs.size = s.heap.objs.size + 1 := by
    rw [Heap.size_update, size_push']
  have hoL : (((s.heap.push (seqObj "list" #[] 0)).update s.heap.objs.size (Obj.mapSeq (· ++ vs.toArray))).push (seqObj "list" vs.toArray 0)).get? (s.heap.objs.size + 1) = some (seqObj "list" vs.toArray 0) := by
    rw [← hsz]; exact Heap.get?_push_size _ rfl
  have keep : ∀ b o, s.heap.get? b = some o → b ≠ s.heap.objs.size + 1 ∧ (((s.heap.push (seqObj "list" #[] 0)).update s.heap.objs.size (Obj.mapSeq (· ++ vs.toArray))).push (seqObj "list" vs.toArray 0)).get? b = some o := fun b o q => by
    have hlt : b < s.heap.objs.size := Heap.lt_size q
    refine ⟨Nat.ne_of_lt (Nat.lt_succ_of_lt hlt), Heap.get?_push_of_some _ ?_⟩
    rw [Heap.get?_update_ne _ _ _ _ (Nat.ne_of_lt hlt)]
    exact Heap.get?_push_of_some _ q
  show wpAny _ _ _ _ _ { s with heap := ((s.heap.push (seqObj "list" #[] 0)).update s.heap.objs.size (Obj.mapSeq (· ++ vs.toArray))).push (seqObj "list" vs.toArray 0) }
  rw [hsz]
  refine wpAny_bind (wpAny_holding (wpAny_call_entry slot_list_sort ⟨_, hoL, rfl⟩ entry_list_sort (list_sort_ord O hoL hz (fun h2 => hS h2 _ _ hoL keep) fun out hs hb => ⟨_, rfl, ?_⟩) (args_list_sort _)))
  exact wpAny_pure ⟨_, rfl, h out hs hb⟩
end
end SrtO
namespace L2
open PySem PySem.Spec PyProof.Rows
/-- sorted(t), t a tuple of ints -/
def rSortedIT (K : PySem.W.Frag) : List V → Hp → VK → Prop := fun vs H Q => ∃ (a : Addr) (ns : List Int), vs = [V.ref a] ∧ SqT K H a (ns.map V.int) ∧
  ∀ (ns' : List Int) (p : Addr), ns'.Perm ns → ns'.Pairwise (· ≤ ·) → H p = none → Q (.ref p) (upd H p (.lst (ns'.map V.int)))
theorem cr_sortedIT {X : Cx} : CallR X (.builtin "sorted") (rSortedIT X.K) := by
  intro pins s σ H vs us Q I r h
  obtain ⟨a, ns, rfl, hs, q⟩ := h
  obtain ⟨its, rv, hl, hz⟩ := I.tuple hs
  rw [Vals.ref1 r]
  have hi := rv.ints
  refine SrtO.sorted_ordT SrtO.swo_int hl (by rw [← rv.length]; exact hz) (fun h2 h₁ a' _ _ => SrtO.ints_sortable hi h2) fun out h1 h2 => ?_
  obtain ⟨k1, k2, k3⟩ := SrtO.ints_out hi h1 h2
  obtain ⟨ep, he'⟩ := PyProof.Rows.sortedAll_at s.heap its out.toArray
  have hlen : ((out.map SrtO.iv).map V.int).length ≤ sizeLine := by
    rw [List.length_map, k2.length_eq]
    rw [List.length_map] at hz
    exact hz
  exact ⟨.ref _, upd H (s.heap.objs.size + 1) (.lst ((out.map SrtO.iv).map V.int)), I.laid (t' := s.toks) (fun _ _ => PyProof.Rows.sortedAll_old) (Nat.le_succ _) ⟨hlen, out, ep, vals_of_ints k1, he'⟩, rfl, q _ _ k2 k3 (I.hok.fresh (Nat.le_succ _))⟩
end L2

-- e[::-1] of texts and lists.
namespace L2
open PySem PySem.Spec PyProof.Rows
def revT (z : Str) : Str := ⟨z.cps.toList.reverse.toArray⟩
theorem revT_length (z : Str) : (revT z).length = z.length := by
  show z.cps.toList.reverse.toArray.size = z.cps.size
  simp
theorem rev_picked (z : Str) (t : Tok) : (Builtin.Str.strSliceIndices none none (-1) z.length).filterMap (z.cps[·]?) = z.cps.toList.reverse := by
  have h : Builtin.Str.strSliceIndices none none (-1) z.length = (List.range z.length).map fun k => z.length - 1 - k := by
    rw [← PySem.W.krv_sliceRange]
    rfl
  have e : ∀ xs : Array Nat, (List.range xs.size).filterMap (xs[·]?) = xs.toList := fun xs => by
    apply List.ext_getElem?
    intro i
    have : (List.range xs.size).filterMap (xs[·]?) = (List.range xs.size).attach.map fun k => xs[k.1]'(List.mem_range.mp k.2) := by
      have q : ∀ (l : List Nat) (h : ∀ k ∈ l, k < xs.size), l.filterMap (xs[·]?) = l.attach.map fun k => xs[k.1]'(h k.1 k.2) := by
        intro l
        induction l with
        | nil => intro _; rfl
        | cons a l ih =>
          intro h
          have ha := h a List.mem_cons_self
          rw [List.filterMap_cons, Array.getElem?_eq_getElem ha, ih fun k hk => h k (List.mem_cons_of_mem _ hk)]
          simp [List.attach_cons, List.map_map, Function.comp_def]
      exact q _ fun k hk => List.mem_range.mp hk
    rw [this]
    by_cases hi : i < xs.size
    · rw [List.getElem?_eq_getElem (by simpa using hi)]
      simp [hi]
    · rw [List.getElem?_eq_none (by simpa using hi)]
      simp
      omega
  rw [h, PySem.W.krv_range, List.filterMap_reverse]
  show (List.filterMap (fun i => z.cps[i]?) (List.range z.cps.size)).reverse = _
  rw [e]
/-- x[::-1], x a text or a list -/
def rRev (K : PySem.W.Frag) : V → Hp → VK → Prop := fun x H Q => (∃ z, x = .str z ∧ z.length ≤ sizeLine ∧ Q (.str (revT z)) H) ∨ ∃ a xs, x = .ref a ∧ SqL K H a xs ∧ ∀ p, H p = none → Q (.ref p) (upd H p (.lst xs.reverse))
def tRev (K : PySem.W.Frag) (te tk : TE) : TE := fun σ H Q => te σ H fun x H1 => tk σ H1 fun y H2 => y = .int (-1) ∧ rRev K x H2 Q
theorem pe_rev {X : Cx} {e : Expr} {te tk : TE} {p2 p3 p4 pos : Pos} {n3 : Nat} (he : PE X e te) (hk : PE X (.UnaryOp .USub (.Constant (.int 1) n3 p3) p4) tk) : PE X (.Subscript e (.Slice none none (some (.UnaryOp .USub (.Constant (.int 1) n3 p3) p4)) p2) pos) (tRev X.K te tk) := by
  refine ⟨fun pins s σ H Q I h => ?_⟩
  refine Subscript_ (thn (he.run pins s σ H _ I h) fun v s1 ⟨x, H1, I1, r1, q1⟩ => ?_)
  refine wpAny_Slice ?_
  rw [evalPart_none]
  refine wpAny_pure (wpAny_pure ?_)
  rw [evalPart_some]
  refine thn (hk.run pins s1 σ H1 _ I1 q1) fun vk s3 ⟨y, H3, I3, ry, ey, q3⟩ => ?_
  subst ey
  obtain ⟨tk', rfl⟩ := ry
  have I4 : Inv X pins σ H3 { s3 with heap := s3.heap.push { cls := .type "slice", data := .fields #[.none, .none, .int (-1) tk'] } } := I3.kept (t' := s3.toks) fun b ob q => Heap.get?_push_of_some _ q
  have hT : ∃ T id, typeLookup (.type T) "__getitem__" = pure (some (.builtin id)) ∧ Shared.TypeIs { s3 with heap := s3.heap.push { cls := .type "slice", data := .fields #[.none, .none, .int (-1) tk'] } } v T ∧ wpAny (model X.prog X.w) X.A (getItem v (.ref s3.heap.objs.size)) (EP X pins σ Q) X.xe { s3 with heap := s3.heap.push { cls := .type "slice", data := .fields #[.none, .none, .int (-1) tk'] } } := by
    rcases q3 with ⟨z, rfl, hz, q⟩ | ⟨a, xs, rfl, hx, q⟩
    · obtain ⟨t, rfl⟩ := r1
      refine ⟨"str", _, F.slot_str_getitem.lookup, typeIs_str _ _ _, ?_⟩
      refine wpAny_getItem_str_slice (l := none) (u := none) (st := some (-1, tk')) ⟨_, Heap.get?_push_size _ rfl, rfl, rfl⟩ rfl ?_
      show Made.post (if ((-1 : Int) == 1 && (slicePicked z none none (some (-1, tk'))).length == z.length) = true then Made.val (.str z t)
        else Made.str ⟨((slicePicked z none none (some (-1, tk'))).filterMap (z.cps[·]?)).toArray⟩) (EP X pins σ Q) _
      rw [if_neg (by simp)]
      have e : (slicePicked z none none (some (-1, tk'))).filterMap (z.cps[·]?) = z.cps.toList.reverse := rev_picked z t
      rw [e]
      exact ⟨by rw [show Str.length ⟨z.cps.toList.reverse.toArray⟩ = z.length from revT_length z]; exact hz, .str (revT z), H3, I4.tok _, ⟨_, rfl⟩, q⟩
    · cases r1
      obtain ⟨its, r, ht, hz⟩ := I4.list hx
      have hlen := r.length
      refine ⟨"list", _, slot_list_getitem.lookup, ht.isList.typeIs, ?_⟩
      refine wpAny_getItem_list_slice ht.isList (Heap.IsSliceOf.new ..) .none .none (IsPart.int (-1) tk') (by decide) ?_ (by rw [List.size_toArray] <;> omega)
      rw [PySem.W.krv_pick]
      refine ⟨.ref _, _, I4.laid (t' := s3.toks) (o := .lst xs.reverse) (fun b ob q => Heap.get?_push_of_some _ q) (Nat.le_refl _) ?_, rfl, q _ (I4.hok.fresh (Nat.le_refl _))⟩
      exact ⟨by rw [List.length_reverse]; exact hz, _, 0, r.reverse, Heap.get?_push_size _ rfl⟩
  obtain ⟨T, id, hT, ht, hg⟩ := hT
  show wpAny (model X.prog X.w) X.A (subscriptTail e (.Slice none none (some (.UnaryOp .USub (.Constant (.int 1) n3 p3) p4)) p2) v (.ref s3.heap.objs.size)) (EP X pins σ Q) X.xe { s3 with heap := s3.heap.push { cls := .type "slice", data := .fields #[.none, .none, .int (-1) tk'] } }
  exact tail_any (ops := [v, .ref s3.heap.objs.size]) ht hT hg (by with_unfolding_all rfl)
end L2

-- Types, truth, equality of data, sorted, displays, nested comprehensions, texts.
namespace KW
open PySem PySem.Spec L2

-- ### kinds of data
def tyS : D → Option String
  | .non => some "NoneType"
  | .bl _ => some "bool"
  | .int _ => some "int"
  | .str _ => some "str"
  | .tup _ => some "tuple"
  | .lst _ => some "list"
  | .dK _ => some "dict"
  | _ => none
def kitsB (a : String) : List String → Option Bool
  | [] => some false
  | c :: r => match kitB a c with
    | some true => some true
    | some false => kitsB a r
    | none => none
theorem kits_any {K : PySem.W.Frag} {a : String} {r : Bool} : ∀ {ns : List String}, kitsB a ns = some r → PySem.W.kitAny K (.type a) (ns.map .type) = some r
  | [], h => h
  | c :: ns, h => by
    have e : PySem.W.kitOne K (.type a) (.type c) = kitB a c := rfl
    show (match PySem.W.kitOne K (.type a) (.type c) with | some true => some true | some false => PySem.W.kitAny K (.type a) (ns.map .type) | none => none) = some r
    rw [e]
    unfold kitsB at h
    cases q : kitB a c with
    | none => rw [q] at h; cases h
    | some y =>
      rw [q] at h
      cases y with
      | true => exact h
      | false => exact kits_any h
theorem rep_tyx {K : PySem.W.Frag} {F H : Hp} {v : V} {d : D} {t : String} (e : Ex F H) (r : Rep K F v d) (h : tyS d = some t) : TyX K H v (.type t) := by
  cases r with
  | non => cases h; exact .base .non
  | bl b => cases h; exact .base (.bl b)
  | int b => cases h; exact .base (.int b)
  | str b => cases h; exact .base (.str b)
  | ty n => cases h
  | tup h1 _ => cases h; exact .base (.tup (e _ _ h1))
  | tupK h1 _ => cases h
  | lstS h1 _ => cases h
  | lst h1 _ => cases h; exact .base (.lst (e _ _ h1))
  | dK h1 _ _ =>
    cases h
    rcases e.rd h1 with h1 | ⟨o, h1⟩
    · exact .base (.dK h1)
    · exact .fDict h1
  | ins h1 _ _ => cases h
  | adr a => cases h
section
variable {b : Bx} {F F' H H' : Hp} {as as' : List Addr} {s s' : S} {σ σ' : L2.St} {k : AV → S → Prop} {A : AE}
theorem rc_isi {d : D} {t n : String} {c : Bool} (ht : tyS d = some t) (hn : kitB t n = some c) (hk : k (.d (.bl c)) s) : RC b (rIsi b.K) [.d d, .d (.ty n)] s k := fun F as σ H vs g r Q q => by
  cases r with
  | cons r1 r2 =>
    cases r2 with
    | cons r2 r3 =>
      cases r3
      have e2 := Rep.ty_inv r2
      subst e2
      exact ⟨_, _, _, _, c, rfl, .ty n, rep_tyx g.gm.fh r1 ht, kit_ty hn, q _ _ s F as H hk g (.refl F) (.refl as) (Rep.bl _)⟩
theorem reps_tys : ∀ {K : PySem.W.Frag} {F : Hp} {vs : List V} {ns : List String}, Reps K F vs (ns.map .ty) → Paired ClsV vs (ns.map .type)
  | _, _, _, [], .nil => .nil
  | _, _, _, n :: ns, .cons h r => by
    rw [h.ty_inv]
    exact .cons (.ty n) (reps_tys r)
theorem rc_isiT {d : D} {t : String} {ns : List String} {c : Bool} (ht : tyS d = some t) (hn : kitsB t ns = some c) (hk : k (.d (.bl c)) s) : RC b (rIsiT b.K) [.d d, .d (.tup (ns.map .ty))] s k := fun F as σ H vs g r Q q => by
  cases r with
  | cons r1 r2 =>
    cases r2 with
    | cons r2 r3 =>
      cases r3
      obtain ⟨a, xs, rfl, h1, h2⟩ := Rep.tup_inv r2
      exact ⟨_, a, xs, _, _, c, rfl, g.gm.fh _ _ h1, reps_tys h2, rep_tyx g.gm.fh r1 ht, kits_any hn, q _ _ s F as H hk g (.refl F) (.refl as) (Rep.bl _)⟩
/-- a cell with a list -/
theorem rc_isiTc {n : Nat} {ds : List D} {ns : List String} {c : Bool} (hc : s.cs[n]? = some (.lst ds)) (hn : kitsB "list" ns = some c) (hk : k (.d (.bl c)) s) : RC b (rIsiT b.K) [.c n, .d (.tup (ns.map .ty))] s k := fun F as σ H vs g r Q q => by
  cases r with
  | cons r1 r2 =>
    cases r2 with
    | cons r2 r3 =>
      cases r3
      obtain ⟨a0, ys, rfl, _, h0, _, _⟩ := g.lst hc r1
      obtain ⟨a, xs, rfl, h1, h2⟩ := Rep.tup_inv r2
      exact ⟨_, a, xs, _, _, c, rfl, g.gm.fh _ _ h1, reps_tys h2, .base (.lst h0), kits_any hn, q _ _ s F as H hk g (.refl F) (.refl as) (Rep.bl _)⟩

-- ### either rule
theorem rc_1 {r1 r2 : List V → Hp → VK → Prop} {xs : List AV} (h : RC b r1 xs s k) : RC b (fun xs H Q => r1 xs H Q ∨ r2 xs H Q) xs s k := fun F as σ H vs g r Q q => .inl (h F as σ H vs g r Q q)
theorem rc_2 {r1 r2 : List V → Hp → VK → Prop} {xs : List AV} (h : RC b r2 xs s k) : RC b (fun xs H Q => r1 xs H Q ∨ r2 xs H Q) xs s k := fun F as σ H vs g r Q q => .inr (h F as σ H vs g r Q q)
theorem ro_1 {r1 r2 : R2} {x y : AV} (h : RO b r1 x y s k) : RO b (fun x y H Q => r1 x y H Q ∨ r2 x y H Q) x y s k := fun F as σ H v w g r q Q z => .inl (h F as σ H v w g r q Q z)
theorem ro_2 {r1 r2 : R2} {x y : AV} (h : RO b r2 x y s k) : RO b (fun x y H Q => r1 x y H Q ∨ r2 x y H Q) x y s k := fun F as σ H v w g r q Q z => .inr (h F as σ H v w g r q Q z)
theorem rm_1 {r1 r2 : V → List V → Hp → VK → Prop} {x : AV} {xs : List AV} (h : RM b r1 x xs s k) : RM b (fun x xs H Q => r1 x xs H Q ∨ r2 x xs H Q) x xs s k := fun F as σ H v vs g r q Q z => .inl (h F as σ H v vs g r q Q z)
theorem rm_2 {r1 r2 : V → List V → Hp → VK → Prop} {x : AV} {xs : List AV} (h : RM b r2 x xs s k) : RM b (fun x xs H Q => r1 x xs H Q ∨ r2 x xs H Q) x xs s k := fun F as σ H v vs g r q Q z => .inr (h F as σ H v vs g r q Q z)
theorem wi_1 {w1 w2 : TI} {kk : List D → S → Prop} (h : WI b w1 s kk) : WI b (iOr w1 w2) s kk := fun F as σ H g R q => .inl (h F as σ H g R q)
theorem wi_2 {w1 w2 : TI} {kk : List D → S → Prop} (h : WI b w2 s kk) : WI b (iOr w1 w2) s kk := fun F as σ H g R q => .inr (h F as σ H g R q)

-- ### truth
def truD : D → Option Bool
  | .non => some false
  | .bl c => some c
  | .int i => some (i != 0)
  | .str z => if z.length ≤ sizeLine then some ((z.length : Int) != 0) else none
  | .lst l => some (!l.isEmpty)
  | .tup l => some (!l.isEmpty)
  | _ => none
theorem isEmpty_reps {K : PySem.W.Frag} {F : Hp} {xs : List V} {ds : List D} (r : Reps K F xs ds) : (!ds.isEmpty) = !xs.isEmpty := by cases r <;> rfl
theorem rep_tru {K : PySem.W.Frag} {F H : Hp} {v : V} {d : D} {c : Bool} (e : Ex F H) (r : Rep K F v d) (h : truD d = some c) : TruV K v H c := by
  cases r with
  | non => exact (Option.some.inj h).symm
  | bl b => exact (Option.some.inj h).symm
  | int b => exact (Option.some.inj h).symm
  | str z =>
    have h : (if z.length ≤ sizeLine then some ((z.length : Int) != 0) else none) = some c := h
    split at h
    · rename_i hz
      exact ⟨hz, (Option.some.inj h).symm⟩
    · cases h
  | ty n => cases h
  | tup h1 r => exact .inr (.inl ⟨_, .inl (.inl (e _ _ h1)), by rw [← isEmpty_reps r]; exact (Option.some.inj h).symm⟩)
  | tupK h1 _ => cases h
  | lstS h1 _ => cases h
  | lst h1 r => exact .inl ⟨_, .inl (.inl (e _ _ h1)), by rw [← isEmpty_reps r]; exact (Option.some.inj h).symm⟩
  | dK h1 _ _ => cases h
  | ins h1 _ _ => cases h
  | adr a => cases h
theorem wt_tru {te : TE} {kk : Bool → S → Prop} (h : WE b te s fun x s1 => ∃ c, (∃ d, x = .d d ∧ truD d = some c ∨ ∃ n ds, x = .c n ∧ s1.cs[n]? = some (.lst ds) ∧ c = !ds.isEmpty) ∧ kk c s1) : WT b (fun σ H Q => te σ H fun x H' => ∃ k, TruV b.K x H' k ∧ Q k H') s kk := fun F as σ H g Q q =>
  h F as σ H g _ fun v x s1 F1 as1 H1 h1 g1 e1 p1 r1 => by
    obtain ⟨c, ⟨d, h1⟩, hk⟩ := h1
    rcases h1 with ⟨rfl, h1⟩ | ⟨n, ds, rfl, hc, rfl⟩
    · exact ⟨c, rep_tru g1.gm.fh r1 h1, q c s1 F1 as1 H1 hk g1 e1 p1⟩
    · obtain ⟨a, xs, rfl, _, h2, h3, _⟩ := g1.lst hc r1
      exact ⟨_, .inl ⟨_, .inl (.inl h2), isEmpty_reps h3⟩, q _ s1 F1 as1 H1 hk g1 e1 p1⟩
theorem wt_truD {te : TE} {kk : Bool → S → Prop} (h : WE b te s fun x s1 => ∃ d c, x = .d d ∧ truD d = some c ∧ kk c s1) : WT b (fun σ H Q => te σ H fun x H' => ∃ k, TruV b.K x H' k ∧ Q k H') s kk :=
  wt_tru (h.mono fun av s1 ⟨d, c, h1, h2, h3⟩ => ⟨c, ⟨d, .inl ⟨h1, h2⟩⟩, h3⟩)

-- ### equality at any depth
mutual
def pyD : D → PyData
  | .non => .none
  | .bl c => .bool c
  | .int i => .int i
  | .str z => .str z
  | .tup l => .tuple (pyDs l)
  | .lst l => .list (pyDs l)
  | _ => .none
def pyDs : List D → List PyData
  | [] => []
  | d :: r => pyD d :: pyDs r
end
theorem pyDs_map : ∀ l : List D, pyDs l = l.map pyD
  | [] => rfl
  | d :: r => by rw [pyDs, List.map_cons, pyDs_map r]
mutual
def plainD : D → Bool
  | .non => true
  | .bl _ => true
  | .int _ => true
  | .str _ => true
  | .tup l => plainDs l
  | .lst l => plainDs l
  | _ => false
def plainDs : List D → Bool
  | [] => true
  | d :: r => plainD d && plainDs r
end
theorem plainDs_all : ∀ l : List D, plainDs l = l.all plainD
  | [] => rfl
  | d :: r => by rw [plainDs, List.all_cons, plainDs_all r]
mutual
theorem rep_dp {K : PySem.W.Frag} {F H : Hp} (e : Ex F H) : ∀ {v : V} {d : D}, Rep K F v d → plainD d = true → Dp K H v (pyD d)
  | _, _, .non, _ => by unfold pyD; exact .non
  | _, _, .bl b, _ => by unfold pyD; exact .bl b
  | _, _, .int b, _ => by unfold pyD; exact .int b
  | _, _, .str b, _ => by unfold pyD; exact .str b
  | _, _, .ty n, h => by unfold plainD at h; cases h
  | _, _, .tup h1 r, h => by
    unfold plainD at h
    unfold pyD
    exact .tup (.inl (.inl (e _ _ h1))) (reps_dp e r h)
  | _, _, .tupK h1 _, h => by unfold plainD at h; cases h
  | _, _, .lstS h1 _, h => by unfold plainD at h; cases h
  | _, _, .lst h1 r, h => by
    unfold plainD at h
    unfold pyD
    exact .lst (.inl (.inl (e _ _ h1))) (reps_dp e r h)
  | _, _, .dK h1 _ _, h => by unfold plainD at h; cases h
  | _, _, .ins h1 _ _, h => by unfold plainD at h; cases h
  | _, _, .adr a, h => by unfold plainD at h; cases h
theorem reps_dp {K : PySem.W.Frag} {F H : Hp} (e : Ex F H) : ∀ {vs : List V} {ds : List D}, Reps K F vs ds → plainDs ds = true → DpAll K H vs (pyDs ds)
  | _, _, .nil, _ => .nil
  | _, _, .cons h r, hp => by
    rw [plainDs, Bool.and_eq_true] at hp
    exact .cons (rep_dp e h hp.1) (reps_dp e r hp.2)
end
/-- what may be compared -/
def cmpD (d : D) : Prop := plainD d = true ∧ SeqAt.shaped (pyD d) = true
theorem ro_eqD {d e : D} (hd : cmpD d) (he : cmpD e) (hk : k (.d (.bl (PyData.eqv (pyD d) (pyD e)))) s) : RO b (rEqD b.K) (.d d) (.d e) s k := fun F as σ H v w g r1 r2 Q q =>
  ⟨_, _, rep_dp g.gm.fh r1 hd.1, rep_dp g.gm.fh r2 he.1, hd.2, he.2, q _ _ s F as H hk g (.refl F) (.refl as) (Rep.bl _)⟩
theorem ro_neD {d e : D} (hd : cmpD d) (he : cmpD e) (hk : k (.d (.bl (!PyData.eqv (pyD d) (pyD e)))) s) : RO b (rNeD b.K) (.d d) (.d e) s k := fun F as σ H v w g r1 r2 Q q =>
  ⟨_, _, rep_dp g.gm.fh r1 hd.1, rep_dp g.gm.fh r2 he.1, hd.2, he.2, q _ _ s F as H hk g (.refl F) (.refl as) (Rep.bl _)⟩

-- ### sorted, enumerate
theorem rc_sortedI {ns : List Int} (hk : ∀ ns' : List Int, ns'.Perm ns → ns'.Pairwise (· ≤ ·) → k (.d (.lst (ns'.map .int))) s) : RC b (rSortedI b.K) [.d (.lst (ns.map .int))] s k := fun F as σ H vs g r Q q => by
  cases r with
  | cons r1 r2 =>
    cases r2
    obtain ⟨a, xs, rfl, h1, h2⟩ := Rep.lst_inv r1
    have := h2.ints_inv
    subst this
    refine ⟨a, ns, rfl, .inl (.inl (g.gm.fh _ _ h1)), fun ns' p hp hs hn => ?_⟩
    obtain ⟨g', e', r'⟩ := fz_lst (vs := ns'.map .int) (ds := ns'.map .int) g hn (.ints ns')
    exact q _ _ s _ as _ (hk ns' hp hs) g' e' (.refl as) r'
theorem rc_sortedIT {ns : List Int} (hk : ∀ ns' : List Int, ns'.Perm ns → ns'.Pairwise (· ≤ ·) → k (.d (.lst (ns'.map .int))) s) : RC b (rSortedIT b.K) [.d (.tup (ns.map .int))] s k := fun F as σ H vs g r Q q => by
  cases r with
  | cons r1 r2 =>
    cases r2
    obtain ⟨a, xs, rfl, h1, h2⟩ := Rep.tup_inv r1
    have := h2.ints_inv
    subst this
    refine ⟨a, ns, rfl, .inl (.inl (g.gm.fh _ _ h1)), fun ns' p hp hs hn => ?_⟩
    obtain ⟨g', e', r'⟩ := fz_lst (vs := ns'.map .int) (ds := ns'.map .int) g hn (.ints ns')
    exact q _ _ s _ as _ (hk ns' hp hs) g' e' (.refl as) r'
theorem wi_enumT {ta : TA} {kk : List D → S → Prop} (h : WA b ta s fun xs s1 => ∃ ds, xs = [.d (.tup ds)] ∧ kk (ds.mapIdx fun i d => D.tup [.int (i : Nat), d]) s1) : WI b (iEnumT b.K ta) s kk := fun F as σ H g R q =>
  h F as σ H g _ fun vs xs s1 F1 as1 H1 h1 g1 e1 p1 r1 => by
    obtain ⟨ds, rfl, hk⟩ := h1
    cases r1 with
    | cons r1 r2 =>
      cases r2
      obtain ⟨a, ys, rfl, h2, h3⟩ := Rep.tup_inv r1
      refine ⟨a, ys, rfl, .inl (.inl (g1.gm.fh _ _ h2)), q _ _ s1 F1 as1 H1 hk g1 e1 p1 ⟨fun F2 as2 s2 σ2 H2 i d e2 g2 hd => ?_, fun F2 as2 s2 σ2 H2 i e2 g2 hl => ⟨ys, .inl (.inl (g2.gm.fh _ _ (e2 _ _ h2))), by rw [List.length_mapIdx] at hl; rw [h3.length]; exact hl⟩⟩⟩
      rw [List.getElem?_mapIdx] at hd
      obtain ⟨d0, hd0, rfl⟩ := Option.map_eq_some_iff.mp hd
      obtain ⟨y, hy, ry⟩ := h3.get hd0
      have hq : SqT b.K H2 a ys := .inl (.inl (g2.gm.fh _ _ (e2 _ _ h2)))
      refine ⟨⟨ys, y, hq, hy⟩, fun x H' hx => ?_⟩
      obtain ⟨T, z, rfl, hT, rfl, hz⟩ := hx
      have : z = y := Option.some.inj ((hz ys hq).symm.trans hy)
      subst this
      obtain ⟨g', e', r'⟩ := fz_tup (vs := [.int (i : Nat), z]) (ds := [.int (i : Nat), d0]) g2 hT (.cons (.int _) (.cons (ry.mono e2) .nil))
      exact ⟨_, e', g', r'⟩

-- ### a freezing behind a statement
theorem ws_frA {t : TS} (h : WS b t s { A with nx := fun s1 => ∃ n co x, s1.cs[n]? = some co ∧ frozen co = some x ∧ A.nx (s1.fr n x) }) : WS b t s A := fun F as σ H E g ok =>
  h F as σ H E g ⟨fun s1 F1 as1 σ1 H1 h1 g1 e1 => by
    obtain ⟨n, co, x, hc, hx, hn⟩ := h1
    obtain ⟨F', g', e, _⟩ := g1.fr hc hx
    exact ok.nx _ F' as1 σ1 H1 hn g' (e1.trans e), ok.rt, ok.bk, ok.ct⟩
/-- what follows is told ahead -/
theorem ws_mono {t : TS} (P : S → Prop) (h : WS b t s { A with nx := P }) (hn : ∀ s1, P s1 → A.nx s1) : WS b t s A := h.mono hn (fun _ _ z => z) (fun _ z => z) (fun _ z => z)

-- ### chains of comparisons
theorem we_chain {r r' : R2} {ta tb tc : TE} (h : WE b ta s fun x s1 => WE b tb s1 fun y s2 => RO b r x y s2 fun z s3 => ∃ c, z = .d (.bl c) ∧ (c = true → WE b tc s3 fun w s4 => RO b r' y w s4 k) ∧ (c = false → k (.d (.bl false)) s3)) : WE b (tChain r r' ta tb tc) s k := fun F as σ H g Q q =>
  h F as σ H g _ fun v x s1 F1 as1 H1 h1 g1 e1 p1 r1 => h1 F1 as1 σ H1 g1 _ fun w y s2 F2 as2 H2 h2 g2 e2 p2 r2 => h2 F2 as2 σ H2 v w g2 (r1.mono e2 p2) r2 _ fun z av s3 F3 as3 H3 h3 g3 e3 p3 r3 => by
    obtain ⟨c, rfl, ht, hf⟩ := h3
    refine ⟨c, Rep.bl_inv r3, ?_⟩
    cases c with
    | true => exact ht rfl F3 as3 σ H3 g3 _ fun w' av' s4 F4 as4 H4 h4 g4 e4 p4 r4 => h4 F4 as4 σ H4 w w' g4 (r2.mono (e3.trans e4) (p3.trans p4)) r4 Q fun z' av'' s5 F5 as5 H5 h5 g5 e5 p5 r5 => q z' av'' s5 F5 as5 H5 h5 g5 ((((e1.trans e2).trans e3).trans e4).trans e5) ((((p1.trans p2).trans p3).trans p4).trans p5) r5
    | false => exact q (.bl false) _ s3 F3 as3 H3 (hf rfl) g3 ((e1.trans e2).trans e3) ((p1.trans p2).trans p3) (Rep.bl false)
theorem we_orT {ta tb : TE} (h : WE b ta s fun x s1 => ∃ d c, x = .d d ∧ truD d = some c ∧ (c = false → WE b tb s1 k) ∧ (c = true → k (.d d) s1)) : WE b (tOrT b.K ta tb) s k := fun F as σ H g Q q =>
  h F as σ H g _ fun v x s1 F1 as1 H1 h1 g1 e1 p1 r1 => by
    obtain ⟨d, c, rfl, hc, hf, ht⟩ := h1
    refine ⟨c, rep_tru g1.gm.fh r1 hc, ?_⟩
    cases c with
    | false => exact hf rfl F1 as1 σ H1 g1 Q fun w y s2 F2 as2 H2 h2 g2 e2 p2 r2 => q w y s2 F2 as2 H2 h2 g2 (e1.trans e2) (p1.trans p2) r2
    | true => exact q v _ s1 F1 as1 H1 (ht rfl) g1 e1 p1 r1
theorem we_notT {ta : TE} (h : WE b ta s fun x s1 => ∃ d c, x = .d d ∧ truD d = some c ∧ k (.d (.bl (!c))) s1) : WE b (tNotT b.K ta) s k := fun F as σ H g Q q =>
  h F as σ H g _ fun v x s1 F1 as1 H1 h1 g1 e1 p1 r1 => by
    obtain ⟨d, c, rfl, hc, hk⟩ := h1
    exact ⟨c, rep_tru g1.gm.fh r1 hc, q _ _ s1 F1 as1 H1 hk g1 e1 p1 (Rep.bl _)⟩

-- ### texts and numbers
theorem ro_inS {c : Nat} {z : Str} (hk : k (.d (.bl (decide (c ∈ z.cps.toList)))) s) : RO b (fun x y H Q => ∃ (c : Nat) (z : Str), x = .str ⟨#[c]⟩ ∧ y = .str z ∧ Q (.bl (decide (c ∈ z.cps.toList))) H) (.d (.str ⟨#[c]⟩)) (.d (.str z)) s k := fun F as σ H v w g r1 r2 Q q =>
  ⟨c, z, Rep.str_inv r1, Rep.str_inv r2, q _ _ s F as H hk g (.refl F) (.refl as) (Rep.bl _)⟩
theorem rc_all {bs : List Bool} (hk : k (.d (.bl (bs.all id))) s) : RC b (rAll b.K) [.d (.lst (bs.map .bl))] s k := fun F as σ H vs g r Q q => by
  cases r with
  | cons r1 r2 =>
    cases r2
    obtain ⟨a, xs, rfl, h1, h2⟩ := Rep.lst_inv r1
    have := h2.bls_inv
    subst this
    exact ⟨a, bs, rfl, .inl (.inl (g.gm.fh _ _ h1)), q _ _ s F as H hk g (.refl F) (.refl as) (Rep.bl _)⟩
theorem rc_divmod {i j : Int} (hc : CDivP i j) (hk : k (.d (.tup [.int (i / j), .int (i % j)])) s) : RC b (fun xs H Q => ∃ i j, xs = [.int i, .int j] ∧ CDivP i j ∧ ∀ p, H p = none → Q (.ref p) (upd H p (.tup [.int (i / j), .int (i % j)]))) [.d (.int i), .d (.int j)] s k := fun F as σ H vs g r Q q => by
  cases r with
  | cons r1 r2 =>
    cases r2 with
    | cons r2 r3 =>
      cases r3
      have e1 := Rep.int_inv r1
      have e2 := Rep.int_inv r2
      subst e1 e2
      refine ⟨i, j, rfl, hc, fun p hp => ?_⟩
      obtain ⟨g', e', r'⟩ := fz_tup (vs := [.int (i / j), .int (i % j)]) (ds := [.int (i / j), .int (i % j)]) g hp (.cons (.int _) (.cons (.int _) .nil))
      exact q _ _ s _ as _ hk g' e' (.refl as) r'
theorem rc_min2 {i j : Int} (hk : k (.d (.int (if j < i then j else i))) s) : RC b (fun xs H Q => ∃ i j, xs = [.int i, .int j] ∧ Q (.int (if j < i then j else i)) H) [.d (.int i), .d (.int j)] s k := fun F as σ H vs g r Q q => by
  cases r with
  | cons r1 r2 =>
    cases r2 with
    | cons r2 r3 =>
      cases r3
      have e1 := Rep.int_inv r1
      have e2 := Rep.int_inv r2
      subst e1 e2
      exact ⟨i, j, rfl, q _ _ s F as H hk g (.refl F) (.refl as) (Rep.int _)⟩
theorem rm_count {x y : Str} (hk : k (.d (.int (Txt.count x y))) s) : RM b (fun x xs H Q => ∃ a b, x = .str a ∧ xs = [.str b] ∧ Q (.int (Txt.count a b)) H) (.d (.str x)) [.d (.str y)] s k := fun F as σ H v vs g r rs Q q => by
  cases rs with
  | cons r1 r2 =>
    cases r2
    have e1 := Rep.str_inv r
    have e2 := Rep.str_inv r1
    subst e1 e2
    exact ⟨x, y, rfl, rfl, q _ _ s F as H hk g (.refl F) (.refl as) (Rep.int _)⟩
theorem rm_join {x : Str} {ys : List Str} (hl : (ys.map (·.length)).sum + ys.length * x.length ≤ 16777216) (hk : k (.d (.str (Txt.join x ys))) s) : RM b (fun x xs H Q => ∃ a p, ∃ ys : List Str, x = .str a ∧ xs = [.ref p] ∧ (SqL b.K H p (ys.map V.str) ∨ SqT b.K H p (ys.map V.str)) ∧ (ys.map (·.length)).sum + ys.length * a.length ≤ 16777216 ∧ Q (.str (Txt.join a ys)) H) (.d (.str x)) [.d (.lst (ys.map .str))] s k := fun F as σ H v vs g r rs Q q => by
  cases rs with
  | cons r1 r2 =>
    cases r2
    have e1 := Rep.str_inv r
    subst e1
    obtain ⟨a, xs, rfl, h1, h2⟩ := Rep.lst_inv r1
    have := h2.strs_inv
    subst this
    exact ⟨x, a, ys, rfl, rfl, .inl (.inl (.inl (g.gm.fh _ _ h1))), hl, q _ _ s F as H hk g (.refl F) (.refl as) (Rep.str _)⟩
theorem we_rev {te tk : TE} (h : WE b te s fun x s1 => WE b tk s1 fun y s2 => y = .d (.int (-1)) ∧ ((∃ z, x = .d (.str z) ∧ z.length ≤ sizeLine ∧ k (.d (.str (revT z))) s2) ∨ ∃ ds, x = .d (.lst ds) ∧ k (.d (.lst ds.reverse)) s2)) : WE b (tRev b.K te tk) s k := fun F as σ H g Q q =>
  h F as σ H g _ fun v x s1 F1 as1 H1 h1 g1 e1 p1 r1 => h1 F1 as1 σ H1 g1 _ fun w y s2 F2 as2 H2 h2 g2 e2 p2 r2 => by
    obtain ⟨rfl, h2⟩ := h2
    refine ⟨Rep.int_inv r2, ?_⟩
    rcases h2 with ⟨z, rfl, hz, hk⟩ | ⟨ds, rfl, hk⟩
    · exact .inl ⟨z, Rep.str_inv r1, hz, q _ _ s2 F2 as2 H2 hk g2 (e1.trans e2) (p1.trans p2) (Rep.str _)⟩
    · obtain ⟨a, xs, rfl, h3, h4⟩ := Rep.lst_inv r1
      refine .inr ⟨a, xs, rfl, .inl (.inl (g2.gm.fh _ _ (e2 _ _ h3))), fun p hp => ?_⟩
      obtain ⟨g', e', r'⟩ := fz_lst g2 hp (h4.mono e2).reverse
      exact q _ _ s2 _ as2 _ hk g' ((e1.trans e2).trans e') (p1.trans p2) r'
theorem rm_indexD {ds : List D} {d : D} {j : Nat} {z : D} (hp : cmpD (.lst ds)) (hd : cmpD d) (hj : ds[j]? = some z) (he : PyData.eqv (pyD z) (pyD d) = true) (hn : ∀ (m : Nat) z', m < j → ds[m]? = some z' → PyData.eqv (pyD z') (pyD d) = false) (hk : k (.d (.int j)) s) : RM b (rIndexD b.K) (.d (.lst ds)) [.d d] s k := fun F as σ H v vs g r rs Q q => by
  cases rs with
  | cons r1 r2 =>
    cases r2
    have r3 := rep_dp g.gm.fh r hp.1
    have r4 := rep_dp g.gm.fh r1 hd.1
    have s3 := hp.2
    unfold pyD at r3 s3
    obtain ⟨a, xs, rfl, h1, h2⟩ := Rep.lst_inv r
    rw [pyDs_map] at r3 s3
    refine ⟨a, _, _, _, j, pyD z, rfl, rfl, r3, r4, s3, hd.2, by rw [List.getElem?_map, hj]; rfl, he, fun m z' hm hz => ?_, q _ _ s F as H hk g (.refl F) (.refl as) (Rep.int _)⟩
    rw [List.getElem?_map] at hz
    obtain ⟨z0, h0, rfl⟩ := Option.map_eq_some_iff.mp hz
    exact hn m z0 hm h0

-- ### written dicts
def WPr (b : Bx) : List (TE × TE) → S → (List (AV × AV) → S → Prop) → Prop
  | [], s, k => k [] s
  | (tk, tv) :: r, s, k => WE b tk s fun x s1 => WE b tv s1 fun y s2 => WPr b r s2 fun ps s3 => k ((x, y) :: ps) s3
inductive PReps (K : PySem.W.Frag) (F : Hp) (as : List Addr) : List (V × V) → List (AV × AV) → Prop
  | nil : PReps K F as [] []
  | cons {v w : V} {vs : List (V × V)} {x y : AV} {xs : List (AV × AV)} : AVRep K F as v x → AVRep K F as w y → PReps K F as vs xs → PReps K F as ((v, w) :: vs) ((x, y) :: xs)
theorem pr_run : ∀ {trs : List (TE × TE)} {s : S} {kk : List (AV × AV) → S → Prop} {F : Hp} {as : List Addr} {σ : L2.St} {H : Hp} {Q : List (V × V) → Hp → Prop}, WPr b trs s kk → G b F as s σ H → (∀ ps xs s' F' as' H', kk xs s' → G b F' as' s' σ H' → Ex F F' → Pre as as' → PReps b.K F' as' ps xs → Q ps H') → tPairs trs σ H Q
  | [], s, kk, F, as, σ, H, Q, h, g, q => q [] [] s F as H h g (.refl F) (.refl as) .nil
  | (tk, tv) :: r, s, kk, F, as, σ, H, Q, h, g, q =>
    h F as σ H g _ fun v x s1 F1 as1 H1 h1 g1 e1 p1 r1 => h1 F1 as1 σ H1 g1 _ fun w y s2 F2 as2 H2 h2 g2 e2 p2 r2 =>
      pr_run h2 g2 fun ps xs s3 F3 as3 H3 h3 g3 e3 p3 r3 => q ((v, w) :: ps) ((x, y) :: xs) s3 F3 as3 H3 h3 g3 ((e1.trans e2).trans e3) ((p1.trans p2).trans p3) (.cons (r1.mono (e2.trans e3) (p2.trans p3)) (r2.mono e3 p3) r3)
def mergeD (kds more : List (Key × D)) : List (Key × D) := more.foldl (fun acc kv => putD acc kv.1 kv.2) kds
theorem preps_keys : ∀ {kds : List (Key × D)} {ps : List (V × V)}, PReps b.K F as ps (kds.map fun kv => (AV.d (keyD kv.1), AV.d kv.2)) → ∃ kvs : List (Key × V), ps = kvs.map (fun kv => (kV kv.1, kv.2)) ∧ DReps b.K F kvs kds
  | [], _, .nil => ⟨[], rfl, rfl, .nil⟩
  | (key, d) :: kds, _, .cons r1 r2 r3 => by
    obtain ⟨kvs, rfl, h⟩ := preps_keys r3
    have := rep_key r1
    subst this
    exact ⟨(key, _) :: kvs, rfl, .cons r2 h⟩
theorem dreps_merge : ∀ {more : List (Key × D)} {mvs : List (Key × V)} {kvs : List (Key × V)} {kds : List (Key × D)}, DReps b.K F mvs more → DReps b.K F kvs kds → DReps b.K F (mergeK kvs mvs) (mergeD kds more)
  | [], [], _, _, _, h => h
  | [], _ :: _, _, _, r, _ => by cases r.1
  | _ :: _, [], _, _, r, _ => by cases r.1
  | (k1, d1) :: more, (k2, v2) :: mvs, kvs, kds, r, h => by
    obtain ⟨r1, r2⟩ := r
    have e1 : k2 = k1 := (List.cons.inj r1).1
    have e2 : mvs.map (·.1) = more.map (·.1) := (List.cons.inj r1).2
    subst e1
    cases r2 with
    | cons r3 r4 => exact dreps_merge (kvs := putK kvs k2 v2) (kds := putD kds k2 d1) ⟨e2, r4⟩ (h.put r3)
theorem we_disp {trs : List (TE × TE)} (h : WPr b trs (s.new (.dK [])) fun xs s1 => ∃ kds : List (Key × D), xs = (kds.map fun kv => (AV.d (keyD kv.1), AV.d kv.2)) ∧ kds.length ≤ 15 ∧ s1.cs[s.cs.length]? = some (.dK []) ∧ k (.c s.cs.length) (s1.put s.cs.length (.dK (mergeD [] kds)))) : WE b (tDisp trs) s k := fun F as σ H g Q q p hp => by
  have g0 : G b F (as ++ [p]) (s.new (.dK [])) σ (upd H p (.dK [])) := g.of (g.gm.nc (o := .dK []) (co := .dK []) hp ⟨[], upd_same, rfl, .nil⟩) (.refl F) (.snoc as p) rfl
  refine pr_run h g0 fun ps xs s1 F1 as1 H1 h1 g1 e1 p1 r1 => ?_
  obtain ⟨kds, rfl, hl, hc, hk⟩ := h1
  obtain ⟨kvs, rfl, hr⟩ := preps_keys r1
  have hp0 : (as ++ [p])[s.cs.length]? = some p := by rw [← g.gm.len, List.getElem?_append_right (Nat.le_refl _), Nat.sub_self] <;> rfl
  have hp1 : as1[s.cs.length]? = some p := p1.get hp0
  obtain ⟨x1, x2, kvs0, x3, x4⟩ := g1.gm.cell _ p _ hp1 hc trivial
  have hk0 : kvs0 = [] := by
    have := congrArg List.length x4.1
    simpa using this
  subst hk0
  refine ⟨x3, kvs, rfl, ?_, ?_⟩
  · have := congrArg List.length hr.1
    rw [List.length_map, List.length_map] at this
    omega
  · refine q (.ref p) _ _ F1 as1 _ hk (g1.put (co' := .dK (mergeD [] kds)) hp1 hc trivial ⟨_, upd_same, dreps_merge hr ⟨rfl, .nil⟩⟩) e1 ((Pre.snoc as p).trans p1) ⟨p, hp1, rfl⟩

-- ### two walks in one comprehension
theorem we_lc2map {wi wi1 : TI} {g0 g1 : TG} {te : TE} {vs vs1 : List Nat} (ho : Own g0 vs) (ho1 : Own g1 vs1) (h : WI b wi s fun ds s1 => (∀ c ∈ s1.cs, noRef s1.cs.length c) ∧ ∃ (es : D → List D) (f : D → D → D),
    (ds.flatMap fun d => (es d).map (f d)).length ≤ sizeLine ∧
    (∀ (i : Nat) d acc, ds[i]? = some d → WG b g0 (.d d) (s1.blk vs acc) fun s2 => s2.cs = s1.cs ++ [.lst acc] ∧ WI b wi1 s2 fun ds1 s3 => s3 = s2 ∧ ds1 = es d ∧
      ∀ (j : Nat) e acc2, ds1[j]? = some e → WG b g1 (.d e) ⟨wipeA s2.env vs1, s1.cs ++ [.lst acc2]⟩ fun s4 => WE b te s4 fun av s5 => av = .d (f d e) ∧ s5.cs = s1.cs ++ [.lst acc2]) ∧
    k (.d (.lst (ds.flatMap fun d => (es d).map (f d)))) s1) : WE b (tLc2 wi g0 tYes wi1 g1 tYes te vs vs1) s k := fun F as σ H gg Q q =>
  h F as σ H gg _ fun J ds s1 F1 as1 H1 h1 g1' e1 p1 wk => fun p hp => by
    obtain ⟨hr, es, f, hsz, hs, hd⟩ := h1
    have m0 := g1'.gm.nc (o := .lst []) (co := .lst []) hp ⟨[], upd_same, .nil⟩
    -- what is made by the first i
    have takeS : ∀ (i : Nat) d, ds[i]? = some d → (ds.take (i + 1)).flatMap (fun d => (es d).map (f d)) = (ds.take i).flatMap (fun d => (es d).map (f d)) ++ (es d).map (f d) := fun i d hx => by
      rw [List.take_add_one, hx, List.flatMap_append]
      simp
    have part : ∀ i, ((ds.take i).flatMap fun d => (es d).map (f d)).length ≤ (ds.flatMap fun d => (es d).map (f d)).length := fun i => by
      conv => rhs; rw [← List.take_append_drop i ds, List.flatMap_append, List.length_append]
      omega
    refine ⟨fun i m H => m = ds.length - i ∧ i ≤ ds.length ∧ ∃ F2, Gm b.K b.B b.F0 F2 (as1 ++ [p]) (s1.cs ++ [.lst ((ds.take i).flatMap fun d => (es d).map (f d))]) H ∧ Ex F1 F2, ⟨ds.length, by omega, Nat.zero_le _, F1, m0, .refl F1⟩, ?_⟩
    rintro i m H2 ⟨rfl, hi, F2, m2, e2⟩
    have g2 : G b F2 (as1 ++ [p]) (s1.blk vs ((ds.take i).flatMap fun d => (es d).map (f d))) (wipe σ vs) H2 := g1'.blk m2 e2 (.snoc as1 p)
    by_cases hlt : i < ds.length
    · have hx : ds[i]? = some ds[i] := List.getElem?_eq_getElem hlt
      generalize ds[i] = dd at hx
      obtain ⟨go, yl⟩ := wk.go F2 _ _ _ H2 i _ e2 g2 hx
      refine .inr ⟨go, fun H => ∃ F3, Gm b.K b.B b.F0 F3 (as1 ++ [p]) (s1.cs ++ [.lst ((ds.take (i + 1)).flatMap fun d => (es d).map (f d))]) H ∧ Ex F1 F3, fun H' z => ⟨ds.length - (i + 1), by omega, rfl, hlt, z⟩, fun x H' y => ?_⟩
      obtain ⟨F3, e3, g3, r3⟩ := yl x H' y
      have same : ∀ {as4 : List Addr} {F4 H4 : Hp} {a0 : List D}, Gm b.K b.B b.F0 F4 as4 (s1.cs ++ [.lst a0]) H4 → Pre (as1 ++ [p]) as4 → as4 = as1 ++ [p] := fun {as4 F4 H4 a0} m4 hp4 => by
        obtain ⟨zs, rfl⟩ := hp4
        have := m4.len
        have h5 := m2.len
        rw [List.length_append, List.length_append] at this
        rw [List.length_append] at h5
        rw [List.length_append] at this
        simp at this h5
        have : zs.length = 0 := by omega
        rw [List.length_eq_zero_iff.mp this, List.append_nil]
      have STEP := (ho _ _ _ _ (hs i dd _ hx F3 _ _ H' x g3 r3 (fun σ' H'' => tYes σ' H'' fun c H3 => if c = true then wi1 σ' H3 fun J1 H4 => ∃ W1 : Nat → Nat → Hp → Prop, (∃ m, W1 0 m H4) ∧ ∀ j k H, W1 j k H →
        (J1.stop j H ∧ (∃ F3, Gm b.K b.B b.F0 F3 (as1 ++ [p]) (s1.cs ++ [.lst ((ds.take (i + 1)).flatMap fun d => (es d).map (f d))]) H ∧ Ex F1 F3)) ∨ (J1.go j H ∧ ∃ Nx1 : Hp → Prop, (∀ H', Nx1 H' → ∃ k', k' < k ∧ W1 (j + 1) k' H') ∧ ∀ x H', J1.yld j H x H' → g1 x (wipe σ' vs1) H' fun σ3 H5 => wipe σ3 vs1 = wipe σ' vs1 ∧ tYes σ3 H5 fun b H6 =>
        if b = true then te σ3 H6 fun y H7 => ∃ acc, H7 p = some (.lst acc) ∧ acc.length < sizeLine ∧ Nx1 (upd H7 p (.lst (acc ++ [y]))) else Nx1 H6)
        else ∃ F3, Gm b.K b.B b.F0 F3 (as1 ++ [p]) (s1.cs ++ [.lst ((ds.take (i + 1)).flatMap fun d => (es d).map (f d))]) H3 ∧ Ex F1 F3) fun s4 F4 as4 σ4 H4 h4 g4 e4 p4 => by
      · obtain ⟨hcs4, h4⟩ := h4
        dsimp only [tYes]
        rw [if_pos rfl]
        refine h4 F4 as4 σ4 H4 g4 _ fun J1 ds1 s5 F5 as5 H5 h5 g5 e5 p5 wk1 => ?_
        obtain ⟨rfl, rfl, h5⟩ := h5
        have m5 := g5.gm
        rw [hcs4] at m5
        have := same m5 (p4.trans p5)
        subst this
        refine ⟨fun j m H => m = (es dd).length - j ∧ j ≤ (es dd).length ∧ ∃ F6, Gm b.K b.B b.F0 F6 (as1 ++ [p]) (s1.cs ++ [.lst ((ds.take i).flatMap (fun d => (es d).map (f d)) ++ ((es dd).take j).map (f dd))]) H ∧ Ex F5 F6, ⟨(es dd).length, by omega, Nat.zero_le _, F5, by simpa using m5, .refl F5⟩, ?_⟩
        rintro j m H6 ⟨rfl, hj, F6, m6, e6⟩
        have g6 : G b F6 (as1 ++ [p]) ⟨wipeA s5.env vs1, s1.cs ++ [.lst ((ds.take i).flatMap (fun d => (es d).map (f d)) ++ ((es dd).take j).map (f dd))]⟩ (wipe σ4 vs1) H6 := by
          obtain ⟨q1, q2⟩ := sl_wipe (F := F6) (as := as1 ++ [p]) (b := b) g5.len (fun i av h => by
            obtain ⟨o, z1, z2⟩ := g5.sl i av h
            exact ⟨o, z1, z2.mono e6 (.refl _)⟩) vs1
          exact ⟨m6, g5.pr, g5.e0.trans e6, q1, q2⟩
        by_cases hlt1 : j < (es dd).length
        · have hx1 : (es dd)[j]? = some (es dd)[j] := List.getElem?_eq_getElem hlt1
          generalize (es dd)[j] = ee at hx1
          obtain ⟨go1, yl1⟩ := wk1.go F6 _ _ _ H6 j _ e6 g6 hx1
          refine .inr ⟨go1, fun H => ∃ F7, Gm b.K b.B b.F0 F7 (as1 ++ [p]) (s1.cs ++ [.lst ((ds.take i).flatMap (fun d => (es d).map (f d)) ++ ((es dd).take (j + 1)).map (f dd))]) H ∧ Ex F5 F7, fun H' z => ⟨(es dd).length - (j + 1), by omega, rfl, hlt1, z⟩, fun x1 H1' y1 => ?_⟩
          obtain ⟨F7, e7, g7, r7⟩ := yl1 x1 H1' y1
          have STEP1 := (ho1 _ _ _ _ (h5 j ee _ hx1 F7 _ _ H1' x1 g7 r7 (fun σ3 H5 => tYes σ3 H5 fun b1 H6 =>
            if b1 = true then te σ3 H6 fun y H7 => ∃ acc, H7 p = some (.lst acc) ∧ acc.length < sizeLine ∧ (∃ F7, Gm b.K b.B b.F0 F7 (as1 ++ [p]) (s1.cs ++ [.lst ((ds.take i).flatMap (fun d => (es d).map (f d)) ++ ((es dd).take (j + 1)).map (f dd))]) (upd H7 p (.lst (acc ++ [y]))) ∧ Ex F5 F7)
            else ∃ F7, Gm b.K b.B b.F0 F7 (as1 ++ [p]) (s1.cs ++ [.lst ((ds.take i).flatMap (fun d => (es d).map (f d)) ++ ((es dd).take (j + 1)).map (f dd))]) H6 ∧ Ex F5 F7) fun s8 F8 as8 σ8 H8 h8 g8 e8 p8 => by
          · dsimp only [tYes]
            rw [if_pos rfl]
            refine h8 F8 as8 σ8 H8 g8 _ fun v av s9 F9 as9 H9 h9 g9 e9 p9 r9 => ?_
            obtain ⟨rfl, hcs⟩ := h9
            have m9 := g9.gm
            rw [hcs] at m9
            have := same m9 (p8.trans p9)
            subst this
            have hla : as1.length = s1.cs.length := g1'.gm.len
            have q1 : (as1 ++ [p])[s1.cs.length]? = some p := by rw [← hla, List.getElem?_append_right (Nat.le_refl _), Nat.sub_self] <;> rfl
            have q2 : ∀ l : List D, (s1.cs ++ [CO.lst l])[s1.cs.length]? = some (.lst l) := fun l => by rw [List.getElem?_append_right (Nat.le_refl _), Nat.sub_self] <;> rfl
            obtain ⟨x1, x2, accV, x3, x4⟩ := m9.cell _ _ _ q1 (q2 _) trivial
            have step : (ds.take i).flatMap (fun d => (es d).map (f d)) ++ ((es dd).take (j + 1)).map (f dd) = ((ds.take i).flatMap (fun d => (es d).map (f d)) ++ ((es dd).take j).map (f dd)) ++ [f dd ee] := by
              rw [List.take_add_one, hx1, List.map_append, List.append_assoc]
              rfl
            refine ⟨accV, x3, ?_, F9, ?_, ((e6.trans e7).trans e8).trans e9⟩
            · rw [x4.length]
              have l1 := part (i + 1)
              rw [takeS i dd hx, List.length_append, List.length_map] at l1
              rw [List.length_append, List.length_map, List.length_take]
              omega
            · rw [step]
              have m10 := m9.put (o := .lst (accV ++ [v])) (co' := .lst (((ds.take i).flatMap (fun d => (es d).map (f d)) ++ ((es dd).take j).map (f dd)) ++ [f dd ee])) q1 (q2 _) trivial ⟨_, upd_same, x4.append (.one r9)⟩
              rw [List.set_append_right _ _ (Nat.le_refl _), Nat.sub_self] at m10
              exact m10))
          refine cast ?_ STEP1
          congr 1
          funext σ2 H2'
          rw [wipe_wipe]
          exact propext ⟨fun z => ⟨z.2, z.1⟩, fun z => ⟨z.2, z.1⟩⟩
        · have hq : j = (es dd).length := by omega
          subst hq
          refine .inl ⟨wk1.stop F6 _ _ _ H6 _ e6 g6 (Nat.le_refl _), F6, ?_, (((e2.trans e3).trans e4).trans e5).trans e6⟩
          rw [List.take_length] at m6
          rw [takeS i dd hx]
          exact m6))
      refine cast ?_ STEP
      congr 1
      funext σ2 H2'
      rw [wipe_wipe]
      exact propext ⟨fun z => ⟨z.2, z.1⟩, fun z => ⟨z.2, z.1⟩⟩
    · have hq : i = ds.length := by omega
      subst hq
      refine .inl ⟨wk.stop F2 _ _ _ H2 _ e2 g2 (Nat.le_refl _), ?_⟩
      rw [List.take_length] at m2
      obtain ⟨F3, g3, e3, r3⟩ := blk_end (as2 := as1) g1' m2 e2 hr
      exact q _ _ s1 F3 as1 H2 hd g3 (e1.trans e3) p1 r3
end
end KW

-- The deck of draws, the script.
namespace KW
open PySem PySem.Spec L2
section
variable {b : Bx} {F F' H H' : Hp} {as as' : List Addr} {s s' : S} {σ σ' : L2.St} {k : AV → S → Prop} {A : AE}
theorem G.deck {n : Nat} {v : V} (g : G b F as s σ H) (h : s.cs[n]? = some .deck) (r : AVRep b.K F as v (.c n)) : ∃ a, ∃ ns : List Int, v = .ref a ∧ as[n]? = some a ∧ H a = some (.lst (ns.map .int)) := by
  obtain ⟨a, ha, rfl⟩ := r
  obtain ⟨x1, x2, ns, x3⟩ := g.gm.cell n a _ ha h trivial
  exact ⟨a, ns, rfl, ha, x3⟩
theorem set_eq {α : Type} {l : List α} {n : Nat} {x : α} (h : l[n]? = some x) : l.set n x = l := by
  apply List.ext_getElem?
  intro i
  by_cases hi : i = n
  · subst hi
    rw [List.getElem?_set_self (lt_of_get h), h]
  · rw [List.getElem?_set_ne (Ne.symm hi)]
theorem S.put_eq {n : Nat} {co : CO} (h : s.cs[n]? = some co) : s.put n co = s := by
  unfold S.put
  rw [set_eq h]
theorem G.swap {n : Nat} {co co' : CO} (g : G b F as s σ H) (h : s.cs[n]? = some co) (lv : live co) (hr : ∀ a, as[n]? = some a → CRep b.K F as H a co → CRep b.K F as H a co') : G b F as (s.put n co') σ H := by
  obtain ⟨a, ha⟩ := g.gm.adr h
  refine g.of (s' := s.put n co') ⟨g.gm.fh, g.gm.bh, g.gm.nw, by show as.length = (s.cs.set n co').length; rw [List.length_set]; exact g.gm.len, g.gm.nd, g.gm.ha, fun i c d h1 h2 h3 => ?_⟩ (.refl F) (.refl as) rfl
  have h2 : (s.cs.set n co')[i]? = some d := h2
  by_cases hi : i = n
  · subst hi
    rw [List.getElem?_set_self (lt_of_get h)] at h2
    obtain rfl := Option.some.inj h2
    obtain ⟨x1, x2, x3⟩ := g.gm.cell i c co h1 h lv
    exact ⟨x1, x2, hr c h1 x3⟩
  · rw [List.getElem?_set_ne (Ne.symm hi)] at h2
    exact g.gm.cell i c d h1 h2 h3
/-- a deck is some list of ints -/
theorem G.openDk {n : Nat} (g : G b F as s σ H) (h : s.cs[n]? = some .deck) : ∃ ns : List Int, G b F as (s.put n (.lst (ns.map .int))) σ H := by
  obtain ⟨a, ha⟩ := g.gm.adr h
  obtain ⟨x1, x2, ns, x3⟩ := g.gm.cell n a _ ha h trivial
  refine ⟨ns, g.swap h trivial fun c hc _ => ?_⟩
  rw [ha] at hc
  obtain rfl := Option.some.inj hc
  exact ⟨ns.map .int, x3, .ints ns⟩
theorem G.closeDk {n : Nat} {ns : List Int} (g : G b F as s σ H) (h : s.cs[n]? = some (.lst (ns.map .int))) : G b F as (s.put n .deck) σ H := g.swap h trivial fun a _ ⟨vs, h1, h2⟩ => ⟨ns, by rw [h1, h2.ints_inv]⟩
theorem ws_openDk {t : TS} (n : Nat) (h : s.cs[n]? = some .deck) (hw : ∀ ns : List Int, WS b t (s.put n (.lst (ns.map .int))) A) : WS b t s A := fun F as σ H E g ok => by
  obtain ⟨ns, g'⟩ := g.openDk h
  exact hw ns F as σ H E g' ok
theorem ws_closeDk {t : TS} (n : Nat) {ns : List Int} (h : s.cs[n]? = some (.lst (ns.map .int))) (hw : WS b t (s.put n .deck) A) : WS b t s A := fun F as σ H E g ok => hw F as σ H E (g.closeDk h) ok
/-- .. behind an expression -/
theorem we_closeDk {te : TE} (n : Nat) (h : WE b te s fun x s1 => ∃ ns : List Int, s1.cs[n]? = some (.lst (ns.map .int)) ∧ k x (s1.put n .deck)) : WE b te s k := fun F as σ H g Q q =>
  h F as σ H g Q fun v x s1 F1 as1 H1 h1 g1 e1 p1 r1 => by
    obtain ⟨ns, hc, hk⟩ := h1
    exact q v x _ F1 as1 H1 hk (g1.closeDk hc) e1 p1 r1
theorem ws_closeA {t : TS} (n : Nat) (h : WS b t s { A with nx := fun s1 => ∃ ns : List Int, s1.cs[n]? = some (.lst (ns.map .int)) ∧ A.nx (s1.put n .deck) }) : WS b t s A := fun F as σ H E g ok =>
  h F as σ H E g ⟨fun s1 F1 as1 σ1 H1 h1 g1 e1 => by
    obtain ⟨ns, hc, hn⟩ := h1
    exact ok.nx _ F1 as1 σ1 H1 hn (g1.closeDk hc) e1, ok.rt, ok.bk, ok.ct⟩
-- ### the script
theorem rc_lenScr {ds : List D} (hk : k (.d (.int ds.length)) s) : RC b (fun xs H Q => ∃ x n, xs = [x] ∧ LenV b.K x H n ∧ Q (.int n) H) [.d (.lstS ds)] s k := fun F as σ H vs g r Q q => by
  cases r with
  | cons r1 r2 =>
    cases r2
    obtain ⟨a, xs, rfl, h1, h2⟩ := Rep.lstS_inv r1
    exact ⟨_, _, rfl, .inl ⟨xs, g.gm.fh.l h1, rfl⟩, by rw [h2.length]; exact q _ _ s F as H hk g (.refl F) (.refl as) (Rep.int _)⟩
theorem ro_ixScr {ds : List D} {i : Int} {d : D} (h : L2.atI ds i = some d) (hk : k (.d d) s) : RO b (rIxL b.K) (.d (.lstS ds)) (.d (.int i)) s k := fun F as σ H v w gg r1 r2 Q q => by
  obtain ⟨a, xs, rfl, h1, h2⟩ := Rep.lstS_inv r1
  obtain ⟨z, h3, h4⟩ := h2.atI h
  exact ⟨a, xs, i, z, rfl, Rep.int_inv r2, gg.gm.fh.l h1, h3, q z _ s F as H hk gg (.refl F) (.refl as) h4⟩
-- ### numbers
theorem rc_abs {i : Int} (hk : k (.d (.int (if i < 0 then -i else i))) s) : RC b (fun xs H Q => ∃ i, xs = [.int i] ∧ Q (.int (if i < 0 then -i else i)) H) [.d (.int i)] s k := fun F as σ H vs g r Q q => by
  cases r with
  | cons r1 r2 =>
    cases r2
    have e1 := Rep.int_inv r1
    subst e1
    exact ⟨i, rfl, q _ _ s F as H hk g (.refl F) (.refl as) (Rep.int _)⟩
theorem rc_int {d : D} {i : Int} (hd : d = .int i ∨ ∃ c : Bool, d = .bl c ∧ i = (if c then 1 else 0)) (hk : k (.d (.int i)) s) : RC b (fun xs H Q => (∃ i, xs = [.int i] ∧ Q (.int i) H) ∨ ∃ k, xs = [.bl k] ∧ Q (.int (if k then 1 else 0)) H) [.d d] s k := fun F as σ H vs g r Q q => by
  cases r with
  | cons r1 r2 =>
    cases r2
    rcases hd with rfl | ⟨c, rfl, rfl⟩
    · have e1 := Rep.int_inv r1
      subst e1
      exact .inl ⟨i, rfl, q _ _ s F as H hk g (.refl F) (.refl as) (Rep.int _)⟩
    · have e1 := Rep.bl_inv r1
      subst e1
      exact .inr ⟨c, rfl, q _ _ s F as H hk g (.refl F) (.refl as) (Rep.int _)⟩
/-- a def of data alone: the rule, shorter -/
theorem okD {P : Program} {w : World} {K : PySem.W.Frag} {mg : Str → Option Value} {base : Heap} {x qual : Str} {st : Stmt} {f : Addr} {fd : FuncData} {N ps : List Str} {n : Nat} {pre : List D → Prop} {post : List D → D → Prop} {exc : List D → Addr → List (Str × D) → Prop} (Fn : Fun K x qual st f fd) (Sc : FnScope N ps (defScope st)) (len : ∀ ds, pre ds → ds.length = ps.length)
    (hbody : ∀ (cdv : Value) (A : Around) (outer : List Env) (sh : Shared) (H : Hp) (E : XK), Room n (A.deeper (PyProof.Rows.envOfC qual (defScope st) sh.heap.objs.size f cdv)) →
      ∃ t, PSs (cxOf (L2.CX P w) P w K mg base N qual (defScope st) f cdv A outer sh H E) (defBody st) t ∧ ∀ (B F0 : Hp) (a0 : List Addr) (ds : List D) (kk : AV → List CO → Prop) (ex : Addr → List (Str × D) → List CO → Prop),
        XOk ⟨K, B, F0, a0⟩ (fun cls d _ H => E cls d H) (fun C fs s => ex C fs s.cs) → pre ds → (∀ d cs', post ds d → kk (.d d) cs') → (∀ C fs cs', exc ds C fs → ex C fs cs') → WS ⟨K, B, F0, a0⟩ t ⟨ds.map .d ++ List.replicate (N.length - ps.length) .un, []⟩ { nx := fun s => kk (.d .non) s.cs, rt := fun av s => kk av s.cs }) :
    FnOk P w K mg base (L2.CX P w) (n + 1) f fd ps (spD K pre post exc) :=
  okG Fn Sc (fun avs cs k ex h => by
    obtain ⟨_, ds, rfl, hp, _⟩ := h
    rw [List.length_map]
    exact len ds hp) fun cdv A outer sh H E hr => by
    obtain ⟨t, ht, hw⟩ := hbody cdv A outer sh H E hr
    refine ⟨t, ht, fun B F0 a0 avs cs kk ex hx hp => ?_⟩
    obtain ⟨rfl, ds, rfl, hp, hk, he⟩ := hp
    exact hw B F0 a0 ds kk ex hx hp hk he
theorem okR {P : Program} {w : World} {K : PySem.W.Frag} {mg : Str → Option Value} {base : Heap} {x qual : Str} {st : Stmt} {f : Addr} {fd : FuncData} {N ps : List Str} {n : Nat} {pre : List AV → List CO → Prop} {post : List AV → List CO → AV → List CO → Prop} {exc : List AV → List CO → Addr → List (Str × D) → List CO → Prop} (Fn : Fun K x qual st f fd) (Sc : FnScope N ps (defScope st)) (len : ∀ avs cs, pre avs cs → avs.length = ps.length)
    (hbody : ∀ (cdv : Value) (A : Around) (outer : List Env) (sh : Shared) (H : Hp) (E : XK), Room n (A.deeper (PyProof.Rows.envOfC qual (defScope st) sh.heap.objs.size f cdv)) →
      ∃ t, PSs (cxOf (L2.CX P w) P w K mg base N qual (defScope st) f cdv A outer sh H E) (defBody st) t ∧ ∀ (B F0 : Hp) (a0 : List Addr) (avs : List AV) (cs : List CO) (kk : AV → List CO → Prop) (ex : Addr → List (Str × D) → List CO → Prop),
        XOk ⟨K, B, F0, a0⟩ (fun cls d _ H => E cls d H) (fun C fs s => ex C fs s.cs) → pre avs cs → (∀ av cs', post avs cs av cs' → kk av cs') → (∀ C fs cs', exc avs cs C fs cs' → ex C fs cs') → WS ⟨K, B, F0, a0⟩ t ⟨avs ++ List.replicate (N.length - ps.length) .un, cs⟩ { nx := fun s => kk (.d .non) s.cs, rt := fun av s => kk av s.cs }) :
    FnOk P w K mg base (L2.CX P w) (n + 1) f fd ps (spG K (wpR pre post exc)) :=
  okG Fn Sc (fun avs cs k ex h => len avs cs h.1) fun cdv A outer sh H E hr => by
    obtain ⟨t, ht, hw⟩ := hbody cdv A outer sh H E hr
    exact ⟨t, ht, fun B F0 a0 avs cs kk ex hx hp => hw B F0 a0 avs cs kk ex hx hp.1 hp.2.1 hp.2.2⟩
end
end KW

-- Data that may be compared; lists of ints as data.
namespace L2
open PySem PySem.Spec
/-- the truth of a value, as a test -/
def tTru (K : PySem.W.Frag) (ta : TE) : TT := fun σ H Q => ta σ H fun x H' => ∃ k, TruV K x H' k ∧ Q k H'
end L2
namespace KW
open PySem PySem.Spec L2
theorem wt_T {b : Bx} {s : S} {te : TE} {kk : Bool → S → Prop} (h : WE b te s fun x s1 => ∃ d c, x = .d d ∧ truD d = some c ∧ kk c s1) : WT b (tTru b.K te) s kk := wt_truD h
theorem wt_Tc {b : Bx} {s : S} {te : TE} {kk : Bool → S → Prop} (h : WE b te s fun x s1 => ∃ n ds, x = .c n ∧ s1.cs[n]? = some (.lst ds) ∧ kk (!ds.isEmpty) s1) : WT b (tTru b.K te) s kk := wt_tru (h.mono fun av s1 ⟨n, ds, h1, h2, h3⟩ => ⟨_, ⟨.non, .inr ⟨n, ds, h1, h2, rfl⟩⟩, h3⟩)
inductive Lay : Nat → D → Prop
  | non {n : Nat} : Lay n .non
  | bl {n : Nat} (b : Bool) : Lay n (.bl b)
  | int {n : Nat} (i : Int) : Lay n (.int i)
  | str {n : Nat} {z : Str} : PyData.strOk z = true → Lay n (.str z)
  | tup {n : Nat} {l : List D} : (∀ d ∈ l, Lay n d) → Lay (n + 1) (.tup l)
  | lst {n : Nat} {l : List D} : (∀ d ∈ l, Lay n d) → Lay (n + 1) (.lst l)
theorem lay_all : ∀ {n : Nat} {l : List D}, (∀ d ∈ l, plainD d = true ∧ PyData.canLay0 (pyD d) = true ∧ (pyD d).depth ≤ n) → plainDs l = true ∧ PyData.canLayAll0 (pyDs l) = true ∧ PyData.depthAll (pyDs l) ≤ n
  | n, [], h => ⟨rfl, by rw [pyDs, PyData.canLayAll0], by rw [pyDs, PyData.depthAll]; omega⟩
  | n, d :: l, h => by
    obtain ⟨h1, h2, h3⟩ := h d List.mem_cons_self
    obtain ⟨q1, q2, q3⟩ := lay_all fun x hx => h x (List.mem_cons_of_mem _ hx)
    refine ⟨by rw [plainDs, h1, q1]; rfl, by rw [pyDs, PyData.canLayAll0, h2, q2]; rfl, ?_⟩
    rw [pyDs, PyData.depthAll]
    omega
theorem Lay.ok {n : Nat} {d : D} (h : Lay n d) : plainD d = true ∧ PyData.canLay0 (pyD d) = true ∧ (pyD d).depth ≤ n := by
  induction h with
  | non => exact ⟨rfl, by rw [pyD, PyData.canLay0], by rw [pyD, PyData.depth]; omega⟩
  | bl b => exact ⟨rfl, by rw [pyD, PyData.canLay0], by rw [pyD, PyData.depth]; omega⟩
  | int b => exact ⟨rfl, by rw [pyD, PyData.canLay0], by rw [pyD, PyData.depth]; omega⟩
  | str b => exact ⟨rfl, by rw [pyD, PyData.canLay0]; exact b, by rw [pyD, PyData.depth]; omega⟩
  | tup _ ih =>
    obtain ⟨q1, q2, q3⟩ := lay_all ih
    exact ⟨by rw [plainD]; exact q1, by rw [pyD, PyData.canLay0]; exact q2, by rw [pyD, PyData.depth]; omega⟩
  | lst _ ih =>
    obtain ⟨q1, q2, q3⟩ := lay_all ih
    exact ⟨by rw [plainD]; exact q1, by rw [pyD, PyData.canLay0]; exact q2, by rw [pyD, PyData.depth]; omega⟩
theorem Lay.cmp {n : Nat} {d : D} (h : Lay n d) (hn : n ≤ 64 := by decide) : cmpD d := by
  obtain ⟨h1, h2, h3⟩ := h.ok
  refine ⟨h1, ?_⟩
  unfold SeqAt.shaped
  rw [h2, Bool.true_and]
  exact decide_eq_true (by omega)
theorem Lay.ints {n : Nat} {l : List Int} : ∀ d ∈ l.map D.int, Lay n d := fun d hd => by
  obtain ⟨i, _, rfl⟩ := List.mem_map.mp hd
  exact .int i
theorem lay_intsL {n : Nat} {l : List Int} : Lay (n + 1) (.lst (l.map .int)) := .lst Lay.ints
theorem lay_intsT {n : Nat} {l : List Int} : Lay (n + 1) (.tup (l.map .int)) := .tup Lay.ints
theorem cmp_intsL {l : List Int} : cmpD (.lst (l.map .int)) := (lay_intsL (n := 0)).cmp
theorem cmp_intsT {l : List Int} : cmpD (.tup (l.map .int)) := (lay_intsT (n := 0)).cmp
theorem eqv_int (i j : Int) : PyData.eqv (.int i) (.int j) = decide (i = j) := by
  rw [PyData.eqv]
  by_cases h : i = j
  · subst h; simp
  · simp [h]
theorem eqvAll_ints : ∀ a b : List Int, PyData.eqvAll (pyDs (a.map .int)) (pyDs (b.map .int)) = decide (a = b)
  | [], [] => by rw [List.map_nil, pyDs, PyData.eqvAll]; rfl
  | [], y :: b => by
    rw [List.map_nil, List.map_cons, pyDs, pyDs, PyData.eqvAll]
    rfl
  | x :: a, [] => by
    rw [List.map_nil, List.map_cons, pyDs, pyDs, PyData.eqvAll]
    rfl
  | x :: a, y :: b => by
    rw [List.map_cons, List.map_cons, pyDs, pyDs, PyData.eqvAll, eqvAll_ints a b, pyD, pyD, eqv_int]
    by_cases h : x = y
    · by_cases q : a = b
      · subst h q; simp
      · subst h; simp [q]
    · simp [h]
theorem eqv_intsL (a b : List Int) : PyData.eqv (pyD (.lst (a.map .int))) (pyD (.lst (b.map .int))) = decide (a = b) := by
  rw [pyD, pyD, PyData.eqv]
  exact eqvAll_ints a b
theorem eqv_intsT (a b : List Int) : PyData.eqv (pyD (.tup (a.map .int))) (pyD (.tup (b.map .int))) = decide (a = b) := by
  rw [pyD, pyD, PyData.eqv]
  exact eqvAll_ints a b
theorem eqv_self {d : D} {n : Nat} (h : Lay n d) : PyData.eqv (pyD d) (pyD d) = true := SeqAt.eqv_refl _ h.ok.2.1
section
variable {b : Bx} {F F' H H' : Hp} {as as' : List Addr} {s s' : S} {σ σ' : L2.St} {k : AV → S → Prop} {A : AE}
theorem rc_lenLT {v : D} {ds : List D} (hv : v = .lst ds ∨ v = .tup ds) (hk : k (.d (.int ds.length)) s) : RC b (fun xs H Q => ∃ x n, xs = [x] ∧ LenV b.K x H n ∧ Q (.int n) H) [.d v] s k := by
  rcases hv with rfl | rfl
  · exact rc_lenL hk
  · exact rc_lenT hk
theorem wi_LTv {i : Nat} {v : D} {ds : List D} {kk : List D → S → Prop} (hi : s.env[i]? = some (.d v)) (hv : v = .lst ds ∨ v = .tup ds) (hk : kk ds s) : WI b (iOr (iList b.K (tVar i)) (iTup b.K (tVar i))) s kk := by
  rcases hv with rfl | rfl
  · exact wi_1 (wi_list (we_vd hi ⟨ds, rfl, hk⟩))
  · exact wi_2 (wi_tup (we_vd hi ⟨ds, .inl rfl, hk⟩))
theorem rc_sortLT {v : D} {ns : List Int} (hv : v = .lst (ns.map .int) ∨ v = .tup (ns.map .int)) (hk : ∀ ns' : List Int, ns'.Perm ns → ns'.Pairwise (· ≤ ·) → k (.d (.lst (ns'.map .int))) s) : RC b (fun xs H Q => rSortedI b.K xs H Q ∨ rSortedIT b.K xs H Q) [.d v] s k := by
  rcases hv with rfl | rfl
  · exact rc_1 (rc_sortedI hk)
  · exact rc_2 (rc_sortedIT hk)
theorem we_thenTupD {ta : TE} (h : WE b ta s fun x s1 => ∃ ds v, x = .d v ∧ (v = .lst ds ∨ v = .tup ds) ∧ k (.d (.tup ds)) s1) : WE b (tThen ta (kTup b.K)) s k :=
  we_thenTup (h.mono fun av s1 ⟨ds, v, h1, h2, h3⟩ => ⟨ds, by rcases h2 with rfl | rfl; exact .inl h1; exact .inr (.inl h1), h3⟩)
theorem we_thenTupC {ta : TE} (h : WE b ta s fun x s1 => ∃ ds n, x = .c n ∧ s1.cs[n]? = some (.lst ds) ∧ k (.d (.tup ds)) s1) : WE b (tThen ta (kTup b.K)) s k :=
  we_thenTup (h.mono fun av s1 ⟨ds, n, h1, h2, h3⟩ => ⟨ds, .inr (.inr ⟨n, h1, h2⟩), h3⟩)
end
-- ### small steps of a reading
theorem boolE {c : Bool} {k : Bool → Prop} (h : k c) : ∃ c', AV.d (D.bl c) = AV.d (D.bl c') ∧ k c' := ⟨c, rfl, h⟩
theorem cTT {A B : Prop} (h : A) : (true = true → A) ∧ (true = false → B) := ⟨fun _ => h, (fun z => nomatch z)⟩
theorem cFF {A B : Prop} (h : B) : (false = true → A) ∧ (false = false → B) := ⟨(fun z => nomatch z), fun _ => h⟩
theorem oT {A B : Prop} (h : B) : (true = false → A) ∧ (true = true → B) := ⟨(fun z => nomatch z), fun _ => h⟩
theorem oF {A B : Prop} (h : A) : (false = false → A) ∧ (false = true → B) := ⟨fun _ => h, (fun z => nomatch z)⟩
theorem tl1 {a : D} {k : List D → Prop} (h : k [a]) : ∃ ds, [AV.d a] = ds.map AV.d ∧ ds.length ≤ sizeLine ∧ k ds := ⟨[a], rfl, by show 1 ≤ sizeLine; decide, h⟩
theorem tl2 {a b : D} {k : List D → Prop} (h : k [a, b]) : ∃ ds, [AV.d a, AV.d b] = ds.map AV.d ∧ ds.length ≤ sizeLine ∧ k ds := ⟨[a, b], rfl, by show 2 ≤ sizeLine; decide, h⟩
theorem tl3 {a b c : D} {k : List D → Prop} (h : k [a, b, c]) : ∃ ds, [AV.d a, AV.d b, AV.d c] = ds.map AV.d ∧ ds.length ≤ sizeLine ∧ k ds := ⟨[a, b, c], rfl, by show 3 ≤ sizeLine; decide, h⟩
theorem tl4 {a b c d : D} {k : List D → Prop} (h : k [a, b, c, d]) : ∃ ds, [AV.d a, AV.d b, AV.d c, AV.d d] = ds.map AV.d ∧ ds.length ≤ sizeLine ∧ k ds := ⟨[a, b, c, d], rfl, by show 4 ≤ sizeLine; decide, h⟩
theorem tl0 {k : List D → Prop} (h : k []) : ∃ ds, ([] : List AV) = ds.map AV.d ∧ ds.length ≤ sizeLine ∧ k ds := ⟨[], rfl, Nat.zero_le _, h⟩
theorem al1 {a : D} {k : List D → Prop} (h : k [a]) : ∃ ds, [AV.d a] = ds.map AV.d ∧ k ds := ⟨[a], rfl, h⟩
theorem al2 {a b : D} {k : List D → Prop} (h : k [a, b]) : ∃ ds, [AV.d a, AV.d b] = ds.map AV.d ∧ k ds := ⟨[a, b], rfl, h⟩
theorem al3 {a b c : D} {k : List D → Prop} (h : k [a, b, c]) : ∃ ds, [AV.d a, AV.d b, AV.d c] = ds.map AV.d ∧ k ds := ⟨[a, b, c], rfl, h⟩
theorem al4 {a b c d : D} {k : List D → Prop} (h : k [a, b, c, d]) : ∃ ds, [AV.d a, AV.d b, AV.d c, AV.d d] = ds.map AV.d ∧ k ds := ⟨[a, b, c, d], rfl, h⟩
-- ### lists of numbers
def natD (l : List Nat) : List D := l.map fun (i : Nat) => D.int (i : Int)
theorem natD_length (l : List Nat) : (natD l).length = l.length := by unfold natD; rw [List.length_map]
theorem natD_get {l : List Nat} {i : Nat} : (natD l)[i]? = (l[i]?).map fun (i : Nat) => D.int (i : Int) := by unfold natD; rw [List.getElem?_map]
theorem natD_set (l : List Nat) (i x : Nat) : (natD l).set i (.int (x : Int)) = natD (l.set i x) := by unfold natD; rw [List.map_set]
theorem natD_int (l : List Nat) : natD l = (l.map fun (i : Nat) => (i : Int)).map D.int := by unfold natD; rw [List.map_map]; rfl
theorem natD_rep (n : Nat) : (List.replicate n [D.int 0]).flatten = natD (List.replicate n 0) := by
  unfold natD
  rw [List.map_replicate]
  induction n with
  | zero => rfl
  | succ n ih =>
    rw [List.replicate_succ, List.replicate_succ, List.flatten_cons, ih]
    rfl
theorem atI_natN {α : Type} {l : List α} {i : Nat} {x : α} (h : l[i]? = some x) : L2.atI l (i : Int) = some x := atI_nat h
theorem ixN_natN {n i : Nat} (h : i < n) : ixN n (i : Int) = some i := by
  unfold ixN
  have h1 : ¬ ((i : Int) < 0) := by omega
  have h2 : ¬ ((n : Int) ≤ (i : Int)) := by omega
  simp [h1, h2, h]
theorem wg_tup2 {b : Bx} {s : S} {n : Nat} {t : TGs} {x y : D} {k : S → Prop} (hn : n = 2) (h : WGs b t [.d x, .d y] s k) : WG b (gTup b.K n t) (.d (.tup [x, y])) s k := wg_tup (by rw [hn]; rfl) h
theorem wg_tup3 {b : Bx} {s : S} {n : Nat} {t : TGs} {x y z : D} {k : S → Prop} (hn : n = 3) (h : WGs b t [.d x, .d y, .d z] s k) : WG b (gTup b.K n t) (.d (.tup [x, y, z])) s k := wg_tup (by rw [hn]; rfl) h
theorem nT {A B : Prop} (h : A) : ((!false) = true → A) ∧ ((!false) = false → B) := ⟨fun _ => h, (fun z => nomatch z)⟩
theorem nF {A B : Prop} (h : B) : ((!true) = true → A) ∧ ((!true) = false → B) := ⟨(fun z => nomatch z), fun _ => h⟩
theorem noT {A B : Prop} (h : B) : ((!false) = false → A) ∧ ((!false) = true → B) := ⟨(fun z => nomatch z), fun _ => h⟩
theorem noF {A B : Prop} (h : A) : ((!true) = false → A) ∧ ((!true) = true → B) := ⟨fun _ => h, (fun z => nomatch z)⟩
/-- a call of data that raises nothing -/
theorem we_callN {b : Bx} {s : S} {k : AV → S → Prop} {pre : List D → Prop} {post : List D → D → Prop} {E : L2.St → XK} {ta : TA} (h : WA b ta s fun xs s1 => ∃ ds, xs = ds.map .d ∧ pre ds ∧ ∀ d, post ds d → k (.d d) s1) : WE b (tCallS (spD b.K pre post fun _ _ _ => False) E ta) s k :=
  we_callD (ex := fun _ _ _ => False) (fun _ _ _ _ _ _ _ _ h => h.elim) fun F as σ H g Q q => h F as σ H g Q fun vs avs s' F' as' H' z => q vs avs s' F' as' H' (by
    obtain ⟨ds, h1, h2, h3⟩ := z
    exact ⟨ds, h1, h2, h3, fun _ _ z => z⟩)
theorem we_callN0 {b : Bx} {s : S} {k : AV → S → Prop} {pre : List D → Prop} {post : List D → D → Prop} {ta : TA} (h : WA b ta s fun xs s1 => ∃ ds, xs = ds.map .d ∧ pre ds ∧ ∀ d, post ds d → k (.d d) s1) : WE b (tCall (spD b.K pre post fun _ _ _ => False) [] E0 ta) s k :=
  we_callD0 fun F as σ H g Q q => h F as σ H g Q fun vs avs s' F' as' H' z => q vs avs s' F' as' H' (by
    obtain ⟨ds, h1, h2, h3⟩ := z
    exact ⟨ds, h1, h2, h3, fun _ _ z => z⟩)
theorem few_put {f : Str} {v : AV} : ∀ {fs : List (Str × AV)} {k : Nat}, fs.length ≤ k → (putFA f v fs).length ≤ k + 1
  | [], k, _ => by show 1 ≤ k + 1; omega
  | (g, x) :: r, k, h => by
    have h : r.length + 1 ≤ k := h
    show (if g = f then (g, v) :: r else (g, x) :: putFA f v r).length ≤ k + 1
    split
    · show r.length + 1 ≤ k + 1
      omega
    · show (putFA f v r).length + 1 ≤ k + 1
      have := few_put (f := f) (v := v) (fs := r) (k := r.length) (Nat.le_refl _)
      omega
theorem few {fs : List (Str × AV)} {k : Nat} (h : fs.length ≤ k) (hk : k < 1000) : fs.length < 1000 := Nat.lt_of_le_of_lt h hk
end KW

-- Promises with parameters.
namespace KW
open PySem PySem.Spec L2
/-- a def of data: for some parameter a the arguments are so; the answer, the errors by a -/
def wpF {α : Type} (pre : α → List D → Prop) (res : α → D → Prop) (exc : α → Addr → List (Str × D) → Prop) : Wp := fun avs cs k ex => cs = [] ∧ ∃ a ds, avs = ds.map .d ∧ pre a ds ∧ (∀ d cs', res a d → k (.d d) cs') ∧ ∀ C fs cs', exc a C fs → ex C fs cs'
abbrev spF {α : Type} (K : PySem.W.Frag) (pre : α → List D → Prop) (res : α → D → Prop) (exc : α → Addr → List (Str × D) → Prop) : Sp := spG K (wpF pre res exc)
/-- .. that gets and changes one cell (its cell 0) -/
def wpC {α : Type} (pre : α → List AV → CO → Prop) (res : α → D → CO → Prop) : Wp := fun avs cs k _ => ∃ a co, cs = [co] ∧ pre a avs co ∧ ∀ d co' rest, res a d co' → k (.d d) (co' :: rest)
abbrev spC {α : Type} (K : PySem.W.Frag) (pre : α → List AV → CO → Prop) (res : α → D → CO → Prop) : Sp := spG K (wpC pre res)
section
variable {b : Bx} {F F' H H' : Hp} {as as' : List Addr} {s s' : S} {σ σ' : L2.St} {k : AV → S → Prop} {A : AE} {E : L2.St → XK} {ex : Addr → List (Str × D) → S → Prop} {ta : TA} {α : Type} {pre : α → List D → Prop} {res : α → D → Prop} {exc : α → Addr → List (Str × D) → Prop}
theorem we_callF (hW : XOk b (fun c d σ H => E σ c d H) ex)
    (h : WA b ta s fun xs s1 => ∃ ds, xs = ds.map .d ∧ ∃ a, pre a ds ∧ (∀ d, res a d → k (.d d) s1) ∧ ∀ C fs, exc a C fs → ex C fs s1) : WE b (tCallS (spF b.K pre res exc) E ta) s k := fun F as σ H g Q q =>
  h F as σ H g _ fun vs xs s1 F1 as1 H1 h1 g1 e1 p1 r1 => by
    obtain ⟨ds, rfl, a, hp, hk, hx⟩ := h1
    have rd := r1.ds
    refine ⟨H1, F1, [], ds.map .d, [], g1.gm.callee, .of_ds rd, rfl, a, ds, rfl, hp, fun d cs' hd v F' as' H' m e _ r => ?_, fun C fs cs' hc d F' as' H' m e _ xr => ?_⟩
    · exact q v (.d d) s1 F' as1 H' (hk d hd) (g1.of (g1.gm.back m e) e (.refl as1) rfl) (e1.trans e) p1 r
    · exact hW C d fs s1 F' as1 σ H' (hx C fs hc) (g1.of (g1.gm.back m e) e (.refl as1) rfl) xr
theorem we_callFN (h : WA b ta s fun xs s1 => ∃ ds, xs = ds.map .d ∧ ∃ a, pre a ds ∧ ∀ d, res a d → k (.d d) s1) : WE b (tCallS (spF b.K pre res fun _ _ _ => False) E ta) s k :=
  we_callF (ex := fun _ _ _ => False) (fun _ _ _ _ _ _ _ _ h => h.elim) fun F as σ H g Q q => h F as σ H g Q fun vs avs s' F' as' H' z => q vs avs s' F' as' H' (by
    obtain ⟨ds, h1, a, h2, h3⟩ := z
    exact ⟨ds, h1, a, h2, h3, fun _ _ z => z⟩)
theorem we_callF0 (h : WA b ta s fun xs s1 => ∃ ds, xs = ds.map .d ∧ ∃ a, pre a ds ∧ (∀ d, res a d → k (.d d) s1) ∧ ∀ C fs, ¬ exc a C fs) : WE b (tCall (spF b.K pre res exc) [] E0 ta) s k := fun F as σ H g Q q =>
  h F as σ H g _ fun vs xs s1 F1 as1 H1 h1 g1 e1 p1 r1 => by
    obtain ⟨ds, rfl, a, hp, hk, hx⟩ := h1
    have rd := r1.ds
    show spF b.K pre res exc (vs ++ []) H1 Q E0
    rw [List.append_nil]
    refine ⟨H1, F1, [], ds.map .d, [], g1.gm.callee, .of_ds rd, rfl, a, ds, rfl, hp, fun d cs' hd v F' as' H' m e _ r => ?_, fun C fs cs' hc d F' as' H' m e _ xr => ?_⟩
    · exact q v (.d d) s1 F' as1 H' (hk d hd) (g1.of (g1.gm.back m e) e (.refl as1) rfl) (e1.trans e) p1 r
    · exact absurd hc (hx C fs)
theorem we_callFN0 (h : WA b ta s fun xs s1 => ∃ ds, xs = ds.map .d ∧ ∃ a, pre a ds ∧ ∀ d, res a d → k (.d d) s1) : WE b (tCall (spF b.K pre res fun _ _ _ => False) [] E0 ta) s k :=
  we_callF0 fun F as σ H g Q q => h F as σ H g Q fun vs avs s' F' as' H' z => q vs avs s' F' as' H' (by
    obtain ⟨ds, h1, a, h2, h3⟩ := z
    exact ⟨ds, h1, a, h2, h3, fun _ _ z => z⟩)
/-- the cell n handed in -/
theorem we_callCC {preC : α → List AV → CO → Prop} {resC : α → D → CO → Prop} (n : Nat)
    (h : WA b ta s fun xs s1 => ∃ co, s1.cs[n]? = some co ∧ live co ∧ flat co ∧ (∀ m, AV.c m ∈ xs → m = n) ∧ ∃ a, preC a (xs.map (re1 n)) co ∧ ∀ d co', resC a d co' → live co' ∧ flat co' ∧ k (.d d) (s1.put n co')) : WE b (tCallS (spC b.K preC resC) E ta) s k := fun F as σ H g Q q =>
  h F as σ H g _ fun vs xs s1 F1 as1 H1 h1 g1 e1 p1 r1 => by
    obtain ⟨co, hc, lv, fl, hn, a, hp, hk⟩ := h1
    obtain ⟨p, ha⟩ := g1.gm.adr hc
    refine ⟨hide H1 p, F1, [p], xs.map (re1 n), [co], g1.gm.callee1 ha hc lv fl, areps1 ha r1 hn, a, co, rfl, hp, fun d co' rest ho v F' as' H' m e pr r => ?_⟩
    obtain ⟨lv', fl', hk'⟩ := hk d co' ho
    obtain ⟨zs, rfl⟩ := pr
    have m2 := g1.gm.back1 ha hc lv m e lv' fl'
    exact q v (.d d) (s1.put n co') F' as1 H' hk' (g1.of m2 e (.refl as1) rfl) (e1.trans e) p1 r
theorem we_callCC0 {preC : α → List AV → CO → Prop} {resC : α → D → CO → Prop} (n : Nat)
    (h : WA b ta s fun xs s1 => ∃ co, s1.cs[n]? = some co ∧ live co ∧ flat co ∧ (∀ m, AV.c m ∈ xs → m = n) ∧ ∃ a, preC a (xs.map (re1 n)) co ∧ ∀ d co', resC a d co' → live co' ∧ flat co' ∧ k (.d d) (s1.put n co')) : WE b (tCall (spC b.K preC resC) [] E0 ta) s k := fun F as σ H g Q q =>
  h F as σ H g _ fun vs xs s1 F1 as1 H1 h1 g1 e1 p1 r1 => by
    obtain ⟨co, hc, lv, fl, hn, a, hp, hk⟩ := h1
    obtain ⟨p, ha⟩ := g1.gm.adr hc
    show spC b.K preC resC (vs ++ []) H1 Q E0
    rw [List.append_nil]
    refine ⟨hide H1 p, F1, [p], xs.map (re1 n), [co], g1.gm.callee1 ha hc lv fl, areps1 ha r1 hn, a, co, rfl, hp, fun d co' rest ho v F' as' H' m e pr r => ?_⟩
    obtain ⟨lv', fl', hk'⟩ := hk d co' ho
    obtain ⟨zs, rfl⟩ := pr
    have m2 := g1.gm.back1 ha hc lv m e lv' fl'
    exact q v (.d d) (s1.put n co') F' as1 H' hk' (g1.of m2 e (.refl as1) rfl) (e1.trans e) p1 r
/-- a method of a frozen instance -/
theorem we_methF {C : Addr} {m : Str} {te : TE} (hW : XOk b (fun c d σ H => E σ c d H) ex)
    (h : WE b te s fun x s1 => ∃ fs, x = .d (.ins C fs) ∧ fs.lookup m = none ∧ WA b ta s1 fun xs s2 => ∃ ds : List D, xs = ds.map .d ∧ ∃ a, pre a (.ins C fs :: ds) ∧ (∀ d, res a d → k (.d d) s2) ∧ ∀ C' fs', exc a C' fs' → ex C' fs' s2) : WE b (tMethO C m (spF b.K pre res exc) E te ta) s k := fun F as σ H g Q q =>
  h F as σ H g _ fun v x s1 F1 as1 H1 h1 g1 e1 p1 r1 => by
    obtain ⟨fs, rfl, hl, h2⟩ := h1
    cases id r1 with
    | @ins a _ dx fvs fds q1 q2 q3 =>
      refine ⟨a, dx, fvs, rfl, g1.gm.fh _ _ q1, ?_, h2 F1 as1 σ H1 g1 _ fun vs xs s2 F2 as2 H2 h2 g2 e2 p2 r2 => ?_⟩
      · have : ∀ {l : List (Str × V)} {l' : List (Str × D)}, l.map (·.1) = l'.map (·.1) → l'.lookup m = none → l.lookup m = none := by
          intro l
          induction l with
          | nil => intro l' _ _; rfl
          | cons p l ih =>
            intro l' he hn
            cases l' with
            | nil => cases he
            | cons p' l' =>
              obtain ⟨n1, x1⟩ := p
              obtain ⟨n2, x2⟩ := p'
              obtain rfl : n1 = n2 := (List.cons.inj he).1
              rw [List.lookup_cons] at hn ⊢
              by_cases z : (m == n1) = true
              · rw [z] at hn
                cases hn
              · have z' : (m == n1) = false := by simpa using z
                rw [z'] at hn ⊢
                exact ih (List.cons.inj he).2 hn
        exact this q2 hl
      · obtain ⟨ds, rfl, a', hp, hk, hx⟩ := h2
        have rd := r2.ds
        refine ⟨H2, F2, [], (D.ins C fs :: ds).map .d, [], g2.gm.callee, .of_ds (.cons (Rep.mono e2 r1) rd), rfl, a', _, rfl, hp, fun d cs' hd v F' as' H' m e _ r => ?_, fun C' fs' cs' hc d F' as' H' m e _ xr => ?_⟩
        · exact q v (.d d) s2 F' as2 H' (hk d hd) (g2.of (g2.gm.back m e) e (.refl as2) rfl) ((e1.trans e2).trans e) (p1.trans p2) r
        · exact hW C' d fs' s2 F' as2 σ H' (hx C' fs' hc) (g2.of (g2.gm.back m e) e (.refl as2) rfl) xr
theorem we_methFN {C : Addr} {m : Str} {te : TE} (h : WE b te s fun x s1 => ∃ fs, x = .d (.ins C fs) ∧ fs.lookup m = none ∧ WA b ta s1 fun xs s2 => ∃ ds : List D, xs = ds.map .d ∧ ∃ a, pre a (.ins C fs :: ds) ∧ ∀ d, res a d → k (.d d) s2) : WE b (tMethO C m (spF b.K pre res fun _ _ _ => False) E te ta) s k :=
  we_methF (ex := fun _ _ _ => False) (fun _ _ _ _ _ _ _ _ h => h.elim) (h.mono fun x s1 ⟨fs, h1, h2, h3⟩ => ⟨fs, h1, h2, fun F as σ H g Q q => h3 F as σ H g Q fun vs avs s' F' as' H' z => q vs avs s' F' as' H' (by
    obtain ⟨ds, h1, a, h2, h3⟩ := z
    exact ⟨ds, h1, a, h2, h3, fun _ _ z => z⟩)⟩)
end
section
variable {P : Program} {w : World} {K : PySem.W.Frag} {mg : Str → Option Value} {base : Heap} {x qual : Str} {st : Stmt} {f : Addr} {fd : FuncData} {N ps : List Str} {n : Nat} {α : Type}
theorem okF {pre : α → List D → Prop} {res : α → D → Prop} {exc : α → Addr → List (Str × D) → Prop} (Fn : Fun K x qual st f fd) (Sc : FnScope N ps (defScope st)) (len : ∀ a ds, pre a ds → ds.length = ps.length)
    (hbody : ∀ (cdv : Value) (A : Around) (outer : List Env) (sh : Shared) (H : Hp) (E : XK), Room n (A.deeper (PyProof.Rows.envOfC qual (defScope st) sh.heap.objs.size f cdv)) →
      ∃ t, PSs (cxOf (L2.CX P w) P w K mg base N qual (defScope st) f cdv A outer sh H E) (defBody st) t ∧ ∀ (B F0 : Hp) (a0 : List Addr) (a : α) (ds : List D) (kk : AV → List CO → Prop) (ex : Addr → List (Str × D) → List CO → Prop),
        XOk ⟨K, B, F0, a0⟩ (fun cls d _ H => E cls d H) (fun C fs s => ex C fs s.cs) → pre a ds → (∀ d cs', res a d → kk (.d d) cs') → (∀ C fs cs', exc a C fs → ex C fs cs') → WS ⟨K, B, F0, a0⟩ t ⟨ds.map .d ++ List.replicate (N.length - ps.length) .un, []⟩ { nx := fun s => kk (.d .non) s.cs, rt := fun av s => kk av s.cs }) :
    FnOk P w K mg base (L2.CX P w) (n + 1) f fd ps (spF K pre res exc) :=
  okG Fn Sc (fun avs cs k ex h => by
    obtain ⟨_, a, ds, rfl, hp, _⟩ := h
    rw [List.length_map]
    exact len a ds hp) fun cdv A outer sh H E hr => by
    obtain ⟨t, ht, hw⟩ := hbody cdv A outer sh H E hr
    refine ⟨t, ht, fun B F0 a0 avs cs kk ex hx hp => ?_⟩
    obtain ⟨rfl, a, ds, rfl, hp, hk, he⟩ := hp
    exact hw B F0 a0 a ds kk ex hx hp hk he
theorem okC {pre : α → List AV → CO → Prop} {res : α → D → CO → Prop} (Fn : Fun K x qual st f fd) (Sc : FnScope N ps (defScope st)) (len : ∀ a avs co, pre a avs co → avs.length = ps.length)
    (hbody : ∀ (cdv : Value) (A : Around) (outer : List Env) (sh : Shared) (H : Hp) (E : XK), Room n (A.deeper (PyProof.Rows.envOfC qual (defScope st) sh.heap.objs.size f cdv)) →
      ∃ t, PSs (cxOf (L2.CX P w) P w K mg base N qual (defScope st) f cdv A outer sh H E) (defBody st) t ∧ ∀ (B F0 : Hp) (a0 : List Addr) (a : α) (avs : List AV) (co : CO) (kk : AV → List CO → Prop),
        pre a avs co → (∀ d co' rest, res a d co' → kk (.d d) (co' :: rest)) → WS ⟨K, B, F0, a0⟩ t ⟨avs ++ List.replicate (N.length - ps.length) .un, [co]⟩ { nx := fun s => kk (.d .non) s.cs, rt := fun av s => kk av s.cs }) :
    FnOk P w K mg base (L2.CX P w) (n + 1) f fd ps (spC K pre res) :=
  okG Fn Sc (fun avs cs k ex h => by
    obtain ⟨a, co, rfl, hp, _⟩ := h
    exact len a avs co hp) fun cdv A outer sh H E hr => by
    obtain ⟨t, ht, hw⟩ := hbody cdv A outer sh H E hr
    refine ⟨t, ht, fun B F0 a0 avs cs kk ex hx hp => ?_⟩
    obtain ⟨a, co, rfl, hp, hk⟩ := hp
    exact hw B F0 a0 a avs co kk hp hk
end
theorem get_snoc {α : Type} (l : List α) (x : α) : (l ++ [x])[l.length]? = some x := by
  rw [List.getElem?_append_right (Nat.le_refl _), Nat.sub_self]
  rfl
theorem set_snoc {α : Type} (l : List α) (x y : α) : (l ++ [x]).set l.length y = l ++ [y] := by
  rw [List.set_append_right _ _ (Nat.le_refl _), Nat.sub_self]
  rfl
theorem log2_lt {i : Int} {n : Nat} (h : i.natAbs < 2 ^ n) (hn : 0 < n) : i.natAbs.log2 < n := by
  by_cases h0 : i.natAbs = 0
  · rw [h0]
    exact Nat.lt_of_le_of_lt (by decide) hn
  · exact (Nat.log2_lt h0).mpr h
theorem cmulW_of {i j : Int} (hi : i.natAbs < 2 ^ 200) (hj : j.natAbs < 2 ^ 200) : CMulW i j := by
  have h1 := log2_lt hi (by decide)
  have h2 := log2_lt hj (by decide)
  show i.natAbs.log2 + j.natAbs.log2 < 1000000
  omega
theorem cdivP_of {i j : Int} (h0 : 0 < j) (hj : j.natAbs < 2 ^ 200) : CDivP i j := by
  refine ⟨h0, ?_⟩
  have h2 := log2_lt hj (by decide)
  unfold Builtin.divisionGoesByPylong
  simp only []
  have : ¬ ((if (j == 0) = true then 0 else j.natAbs.log2 / 30 + 1) > 300) := by
    split <;> omega
  rw [Bool.and_eq_false_iff]
  exact .inl (decide_eq_false this)
theorem wpr_nil {b : Bx} {s : S} {k : List (AV × AV) → S → Prop} (h : k [] s) : WPr b [] s k := h
theorem wpr_cons {b : Bx} {s : S} {tk tv : TE} {r : List (TE × TE)} {k : List (AV × AV) → S → Prop} (h : WE b tk s fun x s1 => WE b tv s1 fun y s2 => WPr b r s2 fun ps s3 => k ((x, y) :: ps) s3) : WPr b ((tk, tv) :: r) s k := h
theorem dl_new {b : Bx} {env : List AV} {cs : List CO} {kds : List (Key × D)} {i : Str} : DLook b (S.put ⟨env, cs ++ [.dK []]⟩ cs.length (.dK kds)) (.c cs.length) (.d (.str i)) (lkD kds (.inr i)) :=
  dl_cs (by show ((cs ++ [CO.dK []]).set cs.length (.dK kds))[cs.length]? = _; rw [set_snoc, get_snoc])
end KW
namespace L2
open PySem PySem.Spec
def rJoin (K : PySem.W.Frag) : V → List V → Hp → VK → Prop := fun x xs H Q => ∃ a p, ∃ ys : List Str, x = .str a ∧ xs = [.ref p] ∧ (SqL K H p (ys.map V.str) ∨ SqT K H p (ys.map V.str)) ∧ (ys.map (·.length)).sum + ys.length * a.length ≤ 16777216 ∧ Q (.str (Txt.join a ys)) H
end L2
namespace KW
open PySem PySem.Spec L2
theorem rm_joinE {b : Bx} {s : S} {k : AV → S → Prop} {z : Str} (hl : z.length ≤ 100000) (hk : k (.d (.str z)) s) : RM b (rJoin b.K) (.d (.str ⟨#[]⟩)) [.d (.lst ((PyProof.Rows.signs z).map .str))] s k := by
  refine rm_join ?_ ?_
  · have e1 : ((PyProof.Rows.signs z).map (·.length)).sum = z.length := by
      have : (PyProof.Rows.signs z).map (·.length) = List.replicate z.length 1 := by
        unfold PyProof.Rows.signs
        rw [List.map_map]
        refine List.eq_replicate_iff.mpr ⟨by rw [List.length_map]; rfl, fun x hx => ?_⟩
        obtain ⟨c, _, rfl⟩ := List.mem_map.mp hx
        rfl
      rw [this]
      simp
    rw [e1]
    show z.length + _ * 0 ≤ _
    omega
  · have e : Txt.join ⟨#[]⟩ (PyProof.Rows.signs z) = z := by
      have h := eq_of_beq (PyProof.Rows.join_plain_closes ⟨#[]⟩ (PyProof.Rows.signs z))
      rw [h, PyProof.Rows.join_nil_signs]
    rw [e]
    exact hk
theorem cdivW_of {i j : Int} (h0 : 0 < j) (hj : j.natAbs < 2 ^ 200) : CDivW i j := ⟨h0, Nat.lt_of_lt_of_le (log2_lt hj (by decide)) (by decide)⟩
end KW
namespace L2
open PySem PySem.Spec
/-- try: tb, with several clauses 'except c as n' (slot i) -/
def tTryA (K : PySem.W.Frag) (i : Nat) (Wout : WX) (l : List (Value × (Addr → Value → Option Addr → TS))) (tb : WX → TS) : TS := fun D σ H => tb (KW.wManyA K i Wout D l) D σ H
end L2
namespace KW
open PySem PySem.Spec L2
theorem ws_tryA {b : Bx} {s : S} {A : AE} {i : Nat} {l : List (Value × (Addr → Value → Option Addr → TS))} {tb : WX → TS} {Wout : WX} {Wx : Addr → List (Str × D) → S → Prop} (ho : XOk b Wout Wx)
    (h : ∀ (F1 : Hp) (W : WX), XOk (b.at F1) W (Caught b i A Wx l) → WS (b.at F1) (tb W) s A) : WS b (tTryA b.K i Wout l tb) s A := ws_try ho h
theorem hu65 {A : Around} {k : Nat} (hr : Room k A) : A.units + 65 < cLine := by have := hr.un; omega
end KW

-- The facts of own errors, one by one.
namespace KW
open PySem PySem.Spec L2
open PySem.KwX (ErrTxt EvS)
open PySem.W (findIn typeIn keepIn subIn hasDictIn exmOne codeIn mroIn ks_superIn nsIn)
section
variable {P : Program} {K : PySem.W.Frag} {mg : Str → Option Value} {C fI cc cda N : Addr} {qual nm q : Str} {bs bm vs : List Value} {sn : List Str} {sub : List Value} {ab : Bool} {col : Option Bool} {dd od dd1 dd2 an : Option Addr} {k0 k1 k2 k3 k5 : Option Value} {oc cl cl2 kV doc pm ct : Value} {osl sl sl2 : Array (Option Value)} {vf : Array Value} {file : Str} {tf : Tok}
theorem errK1F {p1 p2 q0 q1 q2 q3 q4 q5 r1 r2 r3 r4 : Pos}
    (cls : K.lookup C = some (excClassObj nm q C N bs bm true sn sub ab col dd k0 k1 k2 k3 k5 "ValueError.__new__")) (rv : PySem.HandSPX.refsVE bm = true)
    (sa : findIn K (.ref C) "__setattr__" = some (some (.builtin "object.__setattr__"))) (ga : findIn K (.ref C) "__getattribute__" = some (some (.builtin "BaseException.__getattribute__"))) (gg : findIn K (.ref C) "__getattr__" = some none)
    (nW : findIn K (.ref C) "what" = some none) (nM : findIn K (.ref C) "many" = some none) (iC : findIn K (.ref C) "__init__" = some (some (.ref fI))) (tC : typeIn K (.ref fI) = some (.type "function")) (kC : keepIn K (.ref C) = true)
    (exC : subIn K (.ref C) (.type "BaseException") = some true) (veC : subIn K (.ref C) (.type "ValueError") = some true) (tyC : typeIn K (.ref C) = some (.type "type")) (hdC : hasDictIn K C = true) (te : exmOne K (.ref C) (.ref C) = some true)
    (fn : K.lookup fI = some ⟨oc, od, .func (PySem.W.ksFn "__init__" qual (PySem.KwX.a1 p1 p2) [PySem.KwX.sup q0 q1 q2 q3 q4 q5, PySem.KwX.fldS "what" r1 r2 r3 r4] PySem.KwX.sc1 .none kV doc pm an (.ref cda) ct cc), osl⟩) (co : codeIn K (.ref cda) qual = true)
    (code : K.lookup cda = some ⟨cl, dd1, .fields vf, sl⟩) (v2 : vf[2]? = some (.str file tf)) (mf : (P.main.file == file) = true)
    (cell : K.lookup cc = some ⟨cl2, dd2, .cell (some (.ref C)), sl2⟩) (sm : mroIn K C (.ref C) = some true) (su : ks_superIn K C C "__init__" = some (some (.builtin "ValueError.__init__"))) (ms : mg "super" = none) (mt : nsIn K cStatics "thirdparty.any" = some none)
    (hev : ∀ L, EvS q0 q1 q2 q3 q4 q5 (PySem.W.ksEnv qual PySem.KwX.sc1 L fI (.ref cda) cc)) (htop : (P.main.scope.names.lookup ("super" : Str)).isSome = false) : ErrK P K mg C ["what"] :=
  errK1 ⟨⟨nm, q, N, bs, bm, sn, sub, ab, col, dd, k0, k1, k2, k3, k5, cls, rv⟩, sa, ga, gg, nW, nM, iC, tC, kC, exC, veC, tyC, hdC, te, ⟨oc, od, osl, fn, co⟩, ⟨cl, dd1, vf, sl, tf, file, code, v2, mf⟩, ⟨cl2, dd2, sl2, cell⟩, sm, su, ms, mt⟩ hev htop
theorem errK2F {p1 p2 p3 q0 q1 q2 q3 q4 q5 r1 r2 r3 r4 u1 u2 u3 u4 : Pos}
    (cls : K.lookup C = some (excClassObj nm q C N bs bm true sn sub ab col dd k0 k1 k2 k3 k5 "ValueError.__new__")) (rv : PySem.HandSPX.refsVE bm = true)
    (sa : findIn K (.ref C) "__setattr__" = some (some (.builtin "object.__setattr__"))) (ga : findIn K (.ref C) "__getattribute__" = some (some (.builtin "BaseException.__getattribute__"))) (gg : findIn K (.ref C) "__getattr__" = some none)
    (nW : findIn K (.ref C) "what" = some none) (nM : findIn K (.ref C) "many" = some none) (iC : findIn K (.ref C) "__init__" = some (some (.ref fI))) (tC : typeIn K (.ref fI) = some (.type "function")) (kC : keepIn K (.ref C) = true)
    (exC : subIn K (.ref C) (.type "BaseException") = some true) (veC : subIn K (.ref C) (.type "ValueError") = some true) (tyC : typeIn K (.ref C) = some (.type "type")) (hdC : hasDictIn K C = true) (te : exmOne K (.ref C) (.ref C) = some true)
    (fn : K.lookup fI = some ⟨oc, od, .func (PySem.W.ksFn "__init__" qual (PySem.KwX.a2 p1 p2 p3) [PySem.KwX.sup q0 q1 q2 q3 q4 q5, PySem.KwX.fldS "what" r1 r2 r3 r4, PySem.KwX.fldS "many" u1 u2 u3 u4] PySem.KwX.sc2 .none kV doc pm an (.ref cda) ct cc), osl⟩) (co : codeIn K (.ref cda) qual = true)
    (code : K.lookup cda = some ⟨cl, dd1, .fields vf, sl⟩) (v2 : vf[2]? = some (.str file tf)) (mf : (P.main.file == file) = true)
    (cell : K.lookup cc = some ⟨cl2, dd2, .cell (some (.ref C)), sl2⟩) (sm : mroIn K C (.ref C) = some true) (su : ks_superIn K C C "__init__" = some (some (.builtin "ValueError.__init__"))) (ms : mg "super" = none) (mt : nsIn K cStatics "thirdparty.any" = some none)
    (hev : ∀ L, EvS q0 q1 q2 q3 q4 q5 (PySem.W.ksEnv qual PySem.KwX.sc2 L fI (.ref cda) cc)) (htop : (P.main.scope.names.lookup ("super" : Str)).isSome = false) : ErrK P K mg C ["what", "many"] :=
  errK2 ⟨⟨nm, q, N, bs, bm, sn, sub, ab, col, dd, k0, k1, k2, k3, k5, cls, rv⟩, sa, ga, gg, nW, nM, iC, tC, kC, exC, veC, tyC, hdC, te, ⟨oc, od, osl, fn, co⟩, ⟨cl, dd1, vf, sl, tf, file, code, v2, mf⟩, ⟨cl2, dd2, sl2, cell⟩, sm, su, ms, mt⟩ hev htop
end
theorem exm_in {K : PySem.W.Frag} {C S : Addr} {b : Bool} (h1 : subIn K (.ref S) (.type "BaseException") = some true) (h2 : PySem.W.isClsIn K S = true) (h3 : typeIn K (.ref S) = some (.type "type")) (h4 : subIn K (.ref C) (.ref S) = some b) : exmOne K (.ref C) (.ref S) = some b := by
  have e1 : (subIn K (.ref S) (.type "BaseException") == some true) = true := by rw [h1] <;> rfl
  have e2 : ((PySem.W.clsIn K S).isSome && typeIn K (.ref S) == some (.type "type")) = true := by
    have h2' : (PySem.W.clsIn K S).isSome = true := h2
    rw [h2', h3] <;> rfl
  show (if (subIn K (.ref S) (.type "BaseException") == some true) = true then (if ((PySem.W.clsIn K S).isSome && typeIn K (.ref S) == some (.type "type")) = true then subIn K (.ref C) (.ref S) else none) else none) = some b
  rw [if_pos e1, if_pos e2]
  exact h4
theorem su_of {K : PySem.W.Frag} {C N D N2 : Addr} {nm q nm2 q2 : Str} {bs bm bs2 bm2 : List Value} {sn sn2 : List Str} {sub sub2 : List Value} {hd2 ab ab2 : Bool} {col col2 : Option Bool} {dd dd2 : Option Addr} {k0 k1 k2 k3 k5 j0 j1 j2 j3 j5 : Option Value} {ni : String} {v : Option (Option Value)}
    (c1 : K.lookup C = some (excClassObj nm q C N bs bm true sn sub ab col dd k0 k1 k2 k3 k5 "ValueError.__new__")) (c2 : K.lookup D = some (excClassObj nm2 q2 D N2 bs2 bm2 hd2 sn2 sub2 ab2 col2 dd2 j0 j1 j2 j3 j5 ni)) (hb : bm = .ref D :: bm2) (f : findIn K (.ref D) "__init__" = v) : ks_superIn K C C "__init__" = v := by
  unfold ks_superIn PySem.W.clsIn
  rw [c1]
  show PySem.W.alongIn K "__init__" (((Value.ref C :: bm).dropWhile (· != .ref C)).drop 1) = v
  have e : (Value.ref C :: bm).dropWhile (· != .ref C) = Value.ref C :: bm := by
    rw [List.dropWhile_cons_of_neg]
    simp
  rw [e, hb, ← f]
  have e2 : findIn K (.ref D) "__init__" = (match K.lookup D with
      | some ⟨_, _, .cls cd, _⟩ => PySem.W.alongIn K "__init__" cd.mro
      | _ => none) := rfl
  rw [e2, c2]
  rfl
end KW

namespace KW
open PySem PySem.Spec PyProof.Rows L2
variable {b : Bx} {s : S} {k : AV → S → Prop}
/-- list(x) of a tuple, as data -/
theorem rc_listT {ds : List D} (hk : k (.d (.lst ds)) s) : RC b (fun xs H Q => ∃ p ys, xs = [V.ref p] ∧ (SqL b.K H p ys ∨ SqT b.K H p ys) ∧ ∀ l, H l = none → Q (V.ref l) (upd H l (HO.lst ys))) [.d (.tup ds)] s k := fun F as σ H vs g r Q q => by
  cases r with
  | cons r1 r2 =>
    cases r2
    obtain ⟨a, xs, rfl, h1, h2⟩ := Rep.tup_inv r1
    refine ⟨a, xs, rfl, .inr (.inl (.inl (g.gm.fh _ _ h1))), fun p hp => ?_⟩
    obtain ⟨m, e⟩ := g.gm.fz (o := .lst xs) hp
    exact q (.ref p) _ s _ as _ hk (g.of m e (.refl as) rfl) e (.refl as) (.lst upd_same (h2.mono e))
/-- what isinstance asks of an own class -/
structure IsC (K : PySem.W.Frag) (C : Addr) : Prop where
  c : L2.Cls K C
  k : W.findIn K (Value.ref C) (Str.ofString "__class__") = some (some (Value.builtin "object.__class__"))
  g : W.specialIn K (Value.builtin "object.__class__") (Str.ofString "__get__") = some (some (Value.builtin "getset_descriptor.__get__"))
  t : W.takesIn K (Value.builtin "object.__class__") = some true
  o : W.mroIn K C (Value.type "object") = some true
theorem we_own {C : Addr} (hk : k (.d (.adr C)) s) : WE b (tC (.ref C)) s k := we_cd (fun _ => .adr C) hk
/-- isinstance(x, C) of an instance of C -/
theorem rc_isiC {C : Addr} {fs : List (Str × D)} (hc : IsC b.K C) (hk : k (.d (.bl true)) s) : RC b (rIsi b.K) [.d (.ins C fs), .d (.adr C)] s k := fun F as σ H vs g r Q q => by
  cases r with
  | cons r1 r2 =>
    cases r2 with
    | cons r2 r3 =>
      cases r3
      obtain rfl := Rep.adr_inv r2
      cases r1 with
      | ins h1 h2 h3 =>
        exact ⟨_, _, _, _, true, rfl, .own C, .base (.ins (g.gm.fh _ _ h1) hc.c hc.k hc.g hc.t hc.o), by unfold PySem.W.kitOne; rw [if_pos (by simp)], q _ _ s F as H hk g (.refl F) (.refl as) (Rep.bl _)⟩
end KW

-- Plain: searching breadth first, orbits.
namespace KP
section
variable {α : Type} [DecidableEq α]
theorem len_le_of_sub : ∀ {l u : List α}, l.Nodup → (∀ x ∈ l, x ∈ u) → l.length ≤ u.length
  | [], _, _, _ => Nat.zero_le _
  | x :: l, u, nd, h => by
    have hx : x ∈ u := h x List.mem_cons_self
    have nd' := List.nodup_cons.mp nd
    have h2 : ∀ y ∈ l, y ∈ u.erase x := fun y hy => by
      have hne : y ≠ x := fun e => nd'.1 (e ▸ hy)
      exact (List.mem_erase_of_ne hne).mpr (h y (List.mem_cons_of_mem _ hy))
    have := len_le_of_sub nd'.2 h2
    rw [List.length_erase_of_mem hx] at this
    have : 0 < u.length := List.length_pos_of_mem hx
    rw [List.length_cons]
    omega
theorem sub_of_len : ∀ {l u : List α}, l.Nodup → (∀ x ∈ l, x ∈ u) → u.length ≤ l.length → ∀ x ∈ u, x ∈ l := fun {l u} nd h hl x hx => by
  apply Decidable.byContradiction
  intro hn
  have : (x :: l).length ≤ u.length := len_le_of_sub (List.nodup_cons.mpr ⟨hn, nd⟩) fun y hy => by
    rcases List.mem_cons.mp hy with rfl | hy
    · exact hx
    · exact h y hy
  rw [List.length_cons] at this
  omega
/-- an injective step that keeps a finite lot leads back into it -/
theorem back_of_closed {f : α → α} {T : List α} (nd : T.Nodup) (hc : ∀ x ∈ T, f x ∈ T) (hi : ∀ x ∈ T, ∀ y, f x = f y → x = y) {y : α} (hy : f y ∈ T) : y ∈ T := by
  have nd2 : (T.map f).Nodup := by
    rw [List.nodup_iff_pairwise_ne] at nd ⊢
    rw [List.pairwise_map]
    exact List.Pairwise.imp_of_mem (fun ha _ hab e => hab (hi _ ha _ e)) nd
  have := sub_of_len nd2 (fun x hx => by
    obtain ⟨z, hz, rfl⟩ := List.mem_map.mp hx
    exact hc z hz) (by rw [List.length_map]; exact Nat.le_refl _) _ hy
  obtain ⟨z, hz, e⟩ := List.mem_map.mp this
  exact hi z hz y e ▸ hz
def addN (f : List α) (g : α) : List α := if g ∈ f then f else f ++ [g]
def addAll (f : List α) (gs : List α) : List α := gs.foldl addN f
theorem addN_mem {f : List α} {g y : α} : y ∈ addN f g ↔ y ∈ f ∨ y = g := by
  unfold addN
  split
  · rename_i h
    exact ⟨.inl, fun z => z.elim id fun e => e ▸ h⟩
  · rw [List.mem_append, List.mem_singleton]
theorem addN_nodup {f : List α} {g : α} (nd : f.Nodup) : (addN f g).Nodup := by
  unfold addN
  split
  · exact nd
  · rename_i h
    rw [List.nodup_append]
    exact ⟨nd, List.nodup_cons.mpr ⟨List.not_mem_nil, List.nodup_nil⟩, fun a ha b hb e => h (by rw [List.mem_singleton.mp hb] at e; exact e ▸ ha)⟩
theorem addN_pre (f : List α) (g : α) : ∃ t, addN f g = f ++ t := by
  unfold addN
  split
  · exact ⟨[], (List.append_nil _).symm⟩
  · exact ⟨[g], rfl⟩
theorem addAll_mem : ∀ {gs f : List α} {y : α}, y ∈ addAll f gs ↔ y ∈ f ∨ y ∈ gs
  | [], f, y => by simp [addAll]
  | g :: gs, f, y => by
    show y ∈ addAll (addN f g) gs ↔ _
    rw [addAll_mem, addN_mem, List.mem_cons, or_assoc]
theorem addAll_nodup : ∀ {gs f : List α}, f.Nodup → (addAll f gs).Nodup
  | [], _, nd => nd
  | _ :: gs, _, nd => addAll_nodup (gs := gs) (addN_nodup nd)
theorem addAll_pre : ∀ (gs f : List α), ∃ t, addAll f gs = f ++ t
  | [], f => ⟨[], (List.append_nil _).symm⟩
  | g :: gs, f => by
    obtain ⟨t, h⟩ := addN_pre f g
    obtain ⟨u, h2⟩ := addAll_pre gs (addN f g)
    exact ⟨t ++ u, by show addAll (addN f g) gs = _; rw [h2, h, List.append_assoc]⟩
theorem addAll_append (f gs hs : List α) : addAll f (gs ++ hs) = addAll (addAll f gs) hs := List.foldl_append
/-- the search, from its place on -/
def bfs (nb : α → List α) : Nat → Nat → List α → List α
  | 0, _, f => f
  | k + 1, i, f => match f[i]? with
    | none => f
    | some x => bfs nb k (i + 1) (addAll f (nb x))
theorem bfs_end {nb : α → List α} {k i : Nat} {f : List α} (h : f.length ≤ i) : bfs nb k i f = f := by
  cases k with
  | zero => rfl
  | succ k =>
    unfold bfs
    rw [List.getElem?_eq_none h]
theorem bfs_step {nb : α → List α} {k i : Nat} {f : List α} {x : α} (h : f[i]? = some x) : bfs nb (k + 1) i f = bfs nb k (i + 1) (addAll f (nb x)) := by
  show (match f[i]? with | none => f | some x => _) = _
  rw [h]
theorem bfs_pre (nb : α → List α) : ∀ (k i : Nat) (f : List α), ∃ t, bfs nb k i f = f ++ t
  | 0, _, f => ⟨[], (List.append_nil _).symm⟩
  | k + 1, i, f => by
    cases h : f[i]? with
    | none =>
      refine ⟨[], ?_⟩
      rw [bfs, h, List.append_nil]
    | some x =>
      rw [bfs_step h]
      obtain ⟨t, e⟩ := addAll_pre (nb x) f
      obtain ⟨u, e2⟩ := bfs_pre nb k (i + 1) (addAll f (nb x))
      exact ⟨t ++ u, by rw [e2, e, List.append_assoc]⟩
theorem bfs_nodup {nb : α → List α} : ∀ {k i : Nat} {f : List α}, f.Nodup → (bfs nb k i f).Nodup
  | 0, _, _, nd => nd
  | k + 1, i, f, nd => by
    cases h : f[i]? with
    | none =>
      rw [bfs, h]
      exact nd
    | some x =>
      rw [bfs_step h]
      exact bfs_nodup (addAll_nodup nd)
/-- what holds of the start and is kept holds of all that is found -/
theorem bfs_all {nb : α → List α} {P : α → Prop} (hs : ∀ x, P x → ∀ y ∈ nb x, P y) : ∀ {k i : Nat} {f : List α}, (∀ x ∈ f, P x) → ∀ x ∈ bfs nb k i f, P x
  | 0, _, _, h => h
  | k + 1, i, f, h => by
    cases e : f[i]? with
    | none =>
      rw [bfs, e]
      exact h
    | some x =>
      rw [bfs_step e]
      refine bfs_all hs fun y hy => ?_
      rcases addAll_mem.mp hy with hy | hy
      · exact h y hy
      · exact hs x (h x (List.mem_of_getElem? e)) y hy
theorem bfs_closed {nb : α → List α} {U : List α} (hu : ∀ x ∈ U, ∀ y ∈ nb x, y ∈ U) : ∀ {k i : Nat} {f : List α}, f.Nodup → (∀ x ∈ f, x ∈ U) → U.length ≤ k + i → (∀ j x, j < i → f[j]? = some x → ∀ y ∈ nb x, y ∈ f) → ∀ x ∈ bfs nb k i f, ∀ y ∈ nb x, y ∈ bfs nb k i f := by
  intro k
  induction k with
  | zero =>
    intro i f nd hf hk hc x hx
    obtain ⟨j, hj, e⟩ := List.getElem_of_mem hx
    have hj : j < f.length := hj
    have hl := len_le_of_sub nd hf
    exact hc j x (by omega) (by rw [List.getElem?_eq_getElem hj]; exact congrArg some e)
  | succ k ih =>
    intro i f nd hf hk hc
    cases e : f[i]? with
    | none =>
      have hl : f.length ≤ i := List.getElem?_eq_none_iff.mp e
      rw [bfs_end hl]
      intro x hx
      obtain ⟨j, hj, e2⟩ := List.getElem_of_mem hx
      exact hc j x (by omega) (by rw [List.getElem?_eq_getElem hj]; exact congrArg some e2)
    | some z =>
      rw [bfs_step e]
      refine ih (addAll_nodup nd) (fun y hy => ?_) (by omega) fun j x hj hx y hy => ?_
      · rcases addAll_mem.mp hy with hy | hy
        · exact hf y hy
        · exact hu z (hf z (List.mem_of_getElem? e)) y hy
      · obtain ⟨t, ht⟩ := addAll_pre (nb z) f
        have hi : i < f.length := (List.getElem?_eq_some_iff.mp e).1
        rw [ht, List.getElem?_append_left (by omega)] at hx
        by_cases hji : j = i
        · subst hji
          rw [e] at hx
          obtain rfl := Option.some.inj hx
          exact addAll_mem.mpr (.inr hy)
        · exact addAll_mem.mpr (.inl (hc j x (by omega) hx y hy))
end
-- orbits of two orders
/-- both steps of a place -/
def nbO (w c : List Nat) (x : Nat) : List Nat := [w.getD x 0, c.getD x 0]
def reach (w c : List Nat) (p : Nat) : List Nat := bfs (nbO w c) w.length 0 [p]
section
variable {w c : List Nat} {n p q x y : Nat}
structure Two (w c : List Nat) (n : Nat) : Prop where
  lw : w.length = n
  lc : c.length = n
  iw : ∀ {x y : Nat}, x < n → y < n → w.getD x 0 = w.getD y 0 → x = y
  ic : ∀ {x y : Nat}, x < n → y < n → c.getD x 0 = c.getD y 0 → x = y
  bw : ∀ {x : Nat}, x < n → w.getD x 0 < n
  bc : ∀ {x : Nat}, x < n → c.getD x 0 < n
theorem reach_nodup : (reach w c p).Nodup := bfs_nodup (List.nodup_cons.mpr ⟨List.not_mem_nil, List.nodup_nil⟩)
theorem reach_self : p ∈ reach w c p := by
  obtain ⟨t, h⟩ := bfs_pre (nbO w c) w.length 0 [p]
  unfold reach
  rw [h]
  exact List.mem_cons_self
theorem nbO_lt (T : Two w c n) : ∀ x, x < n → ∀ y ∈ nbO w c x, y < n := fun x hx y hy => by
  rcases List.mem_cons.mp hy with rfl | hy
  · exact T.bw hx
  · rw [List.mem_singleton.mp hy]
    exact T.bc hx
theorem reach_lt (T : Two w c n) (hp : p < n) : ∀ x ∈ reach w c p, x < n := bfs_all (nbO_lt T) fun x hx => by
  rw [List.mem_singleton.mp hx]
  exact hp
theorem reach_all {P : Nat → Prop} (h0 : P p) (hw : ∀ x, P x → P (w.getD x 0)) (hc : ∀ x, P x → P (c.getD x 0)) : ∀ x ∈ reach w c p, P x := bfs_all (fun x hx y hy => by
    rcases List.mem_cons.mp hy with rfl | hy
    · exact hw x hx
    · rw [List.mem_singleton.mp hy]
      exact hc x hx) fun x hx => by
  rw [List.mem_singleton.mp hx]
  exact h0
theorem reach_closed (T : Two w c n) (hp : p < n) : ∀ x ∈ reach w c p, w.getD x 0 ∈ reach w c p ∧ c.getD x 0 ∈ reach w c p := fun x hx => by
  have := bfs_closed (nb := nbO w c) (U := List.range n) (k := w.length) (i := 0) (f := [p]) (fun x hx y hy => List.mem_range.mpr (nbO_lt T x (List.mem_range.mp hx) y hy)) (List.nodup_cons.mpr ⟨List.not_mem_nil, List.nodup_nil⟩) (fun x hx => by rw [List.mem_singleton.mp hx]; exact List.mem_range.mpr hp) (by rw [List.length_range, T.lw]; exact Nat.le_refl _) (fun j x hj => absurd hj (Nat.not_lt_zero _)) x hx
  exact ⟨this _ List.mem_cons_self, this _ (List.mem_cons_of_mem _ List.mem_cons_self)⟩
theorem reach_trans (T : Two w c n) (hp : p < n) (h : q ∈ reach w c p) : ∀ x ∈ reach w c q, x ∈ reach w c p :=
  reach_all h (fun x hx => (reach_closed T hp x hx).1) (fun x hx => (reach_closed T hp x hx).2)
theorem reach_symm (T : Two w c n) (hp : p < n) (h : q ∈ reach w c p) : p ∈ reach w c q := by
  have key : ∀ x ∈ reach w c p, x < n ∧ p ∈ reach w c x := reach_all (P := fun x => x < n ∧ p ∈ reach w c x) ⟨hp, reach_self⟩ (fun x ⟨hx, h⟩ => ?_) (fun x ⟨hx, h⟩ => ?_)
  · exact (key q h).2
  · have hw := T.bw hx
    refine ⟨hw, reach_trans T hw (q := x) ?_ p h⟩
    have hb : ∀ z ∈ reach w c (w.getD x 0), z < n := reach_lt T hw
    -- the lot of w x, with an injective step
    let f : Nat → Nat := fun z => if z < n then w.getD z 0 else z
    have hf : ∀ z, z < n → f z = w.getD z 0 := fun z hz => if_pos hz
    refine back_of_closed (f := f) reach_nodup (fun z hz => by rw [hf z (hb z hz)]; exact (reach_closed T hw z hz).1) (fun z hz y e => ?_) (y := x) (by rw [hf x hx]; exact reach_self)
    rw [hf z (hb z hz)] at e
    by_cases hy : y < n
    · rw [hf y hy] at e
      exact T.iw (hb z hz) hy e
    · have : f y = y := if_neg hy
      rw [this] at e
      have := T.bw (hb z hz)
      omega
  · have hw := T.bc hx
    refine ⟨hw, reach_trans T hw (q := x) ?_ p h⟩
    have hb : ∀ z ∈ reach w c (c.getD x 0), z < n := reach_lt T hw
    let f : Nat → Nat := fun z => if z < n then c.getD z 0 else z
    have hf : ∀ z, z < n → f z = c.getD z 0 := fun z hz => if_pos hz
    refine back_of_closed (f := f) reach_nodup (fun z hz => by rw [hf z (hb z hz)]; exact (reach_closed T hw z hz).2) (fun z hz y e => ?_) (y := x) (by rw [hf x hx]; exact reach_self)
    rw [hf z (hb z hz)] at e
    by_cases hy : y < n
    · rw [hf y hy] at e
      exact T.ic (hb z hz) hy e
    · have : f y = y := if_neg hy
      rw [this] at e
      have := T.bc (hb z hz)
      omega
theorem reach_mem_iff (T : Two w c n) (hp : p < n) (h : q ∈ reach w c p) : x ∈ reach w c q ↔ x ∈ reach w c p := by
  have hq := reach_lt T hp q h
  exact ⟨reach_trans T hp h x, reach_trans T hq (reach_symm T hp h) x⟩
end
end KP
namespace KP
-- ### the least of a lot; lots
def isRep (w c : List Nat) (p : Nat) : Bool := (reach w c p).all fun x => decide (p ≤ x)
def lot (w c : List Nat) (p : Nat) : List Nat := (List.range w.length).filter fun x => decide (x ∈ reach w c p)
def parts (w c : List Nat) : List (List Nat) := ((List.range w.length).filter (isRep w c)).map (lot w c)
section
variable {w c : List Nat} {n p q x y : Nat}
theorem isRep_iff : isRep w c p = true ↔ ∀ x ∈ reach w c p, p ≤ x := by
  unfold isRep
  rw [List.all_eq_true]
  exact ⟨fun h x hx => of_decide_eq_true (h x hx), fun h x hx => decide_eq_true (h x hx)⟩
theorem rep_uniq (T : Two w c n) (hp : p < n) (h : q ∈ reach w c p) (rp : isRep w c p = true) (rq : isRep w c q = true) : p = q := by
  have h1 := isRep_iff.mp rp q h
  have h2 := isRep_iff.mp rq p (reach_symm T hp h)
  omega
theorem rep_ex (T : Two w c n) : ∀ {p : Nat}, p < n → ∃ r ∈ reach w c p, isRep w c r = true := by
  intro p
  induction p using Nat.strongRecOn with
  | ind p ih =>
    intro hp
    cases h : isRep w c p with
    | true => exact ⟨p, reach_self, h⟩
    | false =>
      have : ∃ x ∈ reach w c p, x < p := by
        apply Decidable.byContradiction
        intro hn
        have : isRep w c p = true := isRep_iff.mpr fun x hx => by
          apply Decidable.byContradiction
          intro h2
          exact hn ⟨x, hx, by omega⟩
        rw [h] at this
        cases this
      obtain ⟨x, hx, hlt⟩ := this
      obtain ⟨r, hr, hr2⟩ := ih x hlt (by omega)
      exact ⟨r, reach_trans T hp hx r hr, hr2⟩
theorem rep_iff_new (T : Two w c n) (hp : p < n) : isRep w c p = true ↔ ∀ j < p, p ∉ reach w c j := by
  rw [isRep_iff]
  constructor
  · intro h j hj hm
    have := h j (reach_symm T (by omega) hm)
    omega
  · intro h x hx
    apply Decidable.byContradiction
    intro hlt
    exact h x (by omega) (reach_symm T hp hx)
-- ### names handed on
def updL (ns : List Nat) (x g : Nat) : List Nat := (ns.set x (min (ns.getD x 0) (ns.getD g 0))).set g (min (ns.getD x 0) (ns.getD g 0))
def visit (w c : List Nat) (ns : List Nat) (x : Nat) : List Nat := updL (updL ns x (w.getD x 0)) x (c.getD x 0)
def roundL (w c : List Nat) (ns : List Nat) : List Nat := (List.range w.length).foldl (visit w c) ns
def rounds (w c : List Nat) : Nat → List Nat → List Nat
  | 0, ns => ns
  | t + 1, ns => roundL w c (rounds w c t ns)
def names (w c : List Nat) : List Nat := rounds w c w.length (List.range w.length)
structure NOk (w c : List Nat) (n : Nat) (ns : List Nat) : Prop where
  len : ns.length = n
  mem : ∀ x, x < n → ns.getD x 0 ∈ reach w c x
theorem getD_set {ns : List Nat} {i j v : Nat} (hi : i < ns.length) : (ns.set i v).getD j 0 = if j = i then v else ns.getD j 0 := by
  rw [List.getD_eq_getElem?_getD, List.getD_eq_getElem?_getD]
  split
  · rename_i h
    subst h
    rw [List.getElem?_set_self hi]
    rfl
  · rename_i h
    rw [List.getElem?_set_ne (fun e => h e.symm)]
theorem updL_get {ns : List Nat} {x g y : Nat} (hx : x < ns.length) (hg : g < ns.length) : (updL ns x g).getD y 0 = if y = x ∨ y = g then min (ns.getD x 0) (ns.getD g 0) else ns.getD y 0 := by
  unfold updL
  rw [getD_set (by rw [List.length_set]; exact hg), getD_set hx]
  by_cases h1 : y = g
  · rw [if_pos h1, if_pos (.inr h1)]
  · rw [if_neg h1]
    by_cases h2 : y = x
    · rw [if_pos h2, if_pos (.inl h2)]
    · rw [if_neg h2, if_neg (fun z => z.elim h2 h1)]
theorem updL_length {ns : List Nat} {x g : Nat} : (updL ns x g).length = ns.length := by
  unfold updL
  rw [List.length_set, List.length_set]
/-- what a stroke does: what was least stays so, and is handed on -/
structure Goes (w c : List Nat) (n : Nat) (ns ns' : List Nat) : Prop where
  ok : NOk w c n ns'
  keep : ∀ x, x < n → isRep w c (ns.getD x 0) = true → isRep w c (ns'.getD x 0) = true
theorem Goes.trans {a b d : List Nat} (h : Goes w c n a b) (h2 : Goes w c n b d) : Goes w c n a d := ⟨h2.ok, fun x hx r => h2.keep x hx (h.keep x hx r)⟩
theorem min_or (a b : Nat) : min a b = a ∨ min a b = b := by
  rcases Nat.le_total a b with h | h
  · exact .inl (Nat.min_eq_left h)
  · exact .inr (Nat.min_eq_right h)
theorem updL_goes (T : Two w c n) {ns : List Nat} {x g : Nat} (h : NOk w c n ns) (hx : x < n) (hg : g ∈ reach w c x) : Goes w c n ns (updL ns x g) ∧ (isRep w c (ns.getD x 0) = true → isRep w c ((updL ns x g).getD g 0) = true) := by
  have hgn := reach_lt T hx g hg
  have lx : x < ns.length := by rw [h.len]; exact hx
  have lg : g < ns.length := by rw [h.len]; exact hgn
  have ma := h.mem x hx
  have mb := h.mem g hgn
  have mb' : ns.getD g 0 ∈ reach w c x := reach_trans T hx hg _ mb
  have mlow : min (ns.getD x 0) (ns.getD g 0) ∈ reach w c x := by
    rcases min_or (ns.getD x 0) (ns.getD g 0) with e | e
    · rw [e]; exact ma
    · rw [e]; exact mb'
  have mlow' : min (ns.getD x 0) (ns.getD g 0) ∈ reach w c g := (reach_mem_iff T hx hg).mpr mlow
  have ra : isRep w c (ns.getD x 0) = true → min (ns.getD x 0) (ns.getD g 0) = ns.getD x 0 := fun r => by
    have := isRep_iff.mp r _ ((reach_mem_iff T hx ma).mpr mb')
    exact Nat.min_eq_left this
  have rb : isRep w c (ns.getD g 0) = true → min (ns.getD x 0) (ns.getD g 0) = ns.getD g 0 := fun r => by
    have := isRep_iff.mp r _ ((reach_mem_iff T hx mb').mpr ma)
    exact Nat.min_eq_right this
  refine ⟨⟨⟨updL_length.trans h.len, fun y hy => ?_⟩, fun y hy r => ?_⟩, fun r => ?_⟩
  · rw [updL_get lx lg]
    split
    · rename_i e
      rcases e with rfl | rfl
      · exact mlow
      · exact mlow'
    · exact h.mem y hy
  · rw [updL_get lx lg]
    split
    · rename_i e
      rcases e with rfl | rfl
      · rw [ra r]; exact r
      · rw [rb r]; exact r
    · exact r
  · rw [updL_get lx lg, if_pos (.inr rfl), ra r]
    exact r
theorem w_mem (T : Two w c n) (hx : x < n) : w.getD x 0 ∈ reach w c x := (reach_closed T hx x reach_self).1
theorem c_mem (T : Two w c n) (hx : x < n) : c.getD x 0 ∈ reach w c x := (reach_closed T hx x reach_self).2
theorem visit_goes (T : Two w c n) {ns : List Nat} (h : NOk w c n ns) (hx : x < n) : Goes w c n ns (visit w c ns x) ∧ (isRep w c (ns.getD x 0) = true → isRep w c ((visit w c ns x).getD (w.getD x 0) 0) = true ∧ isRep w c ((visit w c ns x).getD (c.getD x 0) 0) = true) := by
  obtain ⟨g1, k1⟩ := updL_goes T h hx (w_mem T hx)
  obtain ⟨g2, k2⟩ := updL_goes T g1.ok hx (c_mem T hx)
  exact ⟨g1.trans g2, fun r => ⟨g2.keep _ (T.bw hx) (k1 r), k2 (g1.keep x hx r)⟩⟩
theorem visits_goes (T : Two w c n) : ∀ {l : List Nat} {ns : List Nat}, (∀ x ∈ l, x < n) → NOk w c n ns → Goes w c n ns (l.foldl (visit w c) ns) ∧ ∀ x ∈ l, isRep w c (ns.getD x 0) = true → isRep w c ((l.foldl (visit w c) ns).getD (w.getD x 0) 0) = true ∧ isRep w c ((l.foldl (visit w c) ns).getD (c.getD x 0) 0) = true
  | [], ns, _, h => ⟨⟨h, fun _ _ r => r⟩, fun x hx => absurd hx List.not_mem_nil⟩
  | z :: l, ns, hl, h => by
    have hz := hl z List.mem_cons_self
    obtain ⟨g1, k1⟩ := visit_goes T h hz
    obtain ⟨g2, k2⟩ := visits_goes T (l := l) (fun x hx => hl x (List.mem_cons_of_mem _ hx)) g1.ok
    refine ⟨g1.trans g2, fun x hx r => ?_⟩
    rcases List.mem_cons.mp hx with rfl | hx
    · exact ⟨g2.keep _ (T.bw hz) (k1 r).1, g2.keep _ (T.bc hz) (k1 r).2⟩
    · exact k2 x hx (g1.keep x (hl x (List.mem_cons_of_mem _ hx)) r)
theorem countP_lt {l : List Nat} {P Q : Nat → Bool} (h : ∀ x ∈ l, P x = true → Q x = true) (hx : ∃ x ∈ l, P x = false ∧ Q x = true) : l.countP P < l.countP Q := by
  induction l with
  | nil => obtain ⟨x, hx, _⟩ := hx; cases hx
  | cons a l ih =>
    have hle : l.countP P ≤ l.countP Q := List.countP_mono_left fun x hx => h x (List.mem_cons_of_mem _ hx)
    obtain ⟨x, hx, h1, h2⟩ := hx
    have ha := h a List.mem_cons_self
    rw [List.countP_cons, List.countP_cons]
    rcases List.mem_cons.mp hx with rfl | hx
    · rw [h1, h2]
      simp only [Bool.false_eq_true, if_false, if_true]
      omega
    · have := ih (fun x hx => h x (List.mem_cons_of_mem _ hx)) ⟨x, hx, h1, h2⟩
      cases hp : P a
      · cases hq : Q a <;> simp <;> omega
      · rw [ha hp]
        simp only [if_true]
        omega
def goodN (w c ns : List Nat) (x : Nat) : Bool := isRep w c (ns.getD x 0)
theorem round_goes (T : Two w c n) {ns : List Nat} (h : NOk w c n ns) (hr : ∀ x, x < n → isRep w c x = true → goodN w c ns x = true) : Goes w c n ns (roundL w c ns) ∧ ((∀ x, x < n → goodN w c ns x = true) ∨ (List.range n).countP (goodN w c ns) < (List.range n).countP (goodN w c (roundL w c ns))) := by
  obtain ⟨g, k⟩ := visits_goes T (l := List.range w.length) (ns := ns) (fun x hx => by rw [← T.lw]; exact List.mem_range.mp hx) h
  have g : Goes w c n ns (roundL w c ns) := g
  refine ⟨g, ?_⟩
  by_cases hc : ∀ x, x < n → goodN w c ns x = true → goodN w c ns (w.getD x 0) = true ∧ goodN w c ns (c.getD x 0) = true
  · refine .inl fun x hx => ?_
    obtain ⟨r, hr1, hr2⟩ := rep_ex T hx
    have hrn := reach_lt T hx r hr1
    have : ∀ y ∈ reach w c r, y < n ∧ goodN w c ns y = true := reach_all ⟨hrn, hr r hrn hr2⟩ (fun y ⟨hy, hg⟩ => ⟨T.bw hy, (hc y hy hg).1⟩) (fun y ⟨hy, hg⟩ => ⟨T.bc hy, (hc y hy hg).2⟩)
    exact (this x (reach_symm T hx hr1)).2
  · refine .inr (countP_lt (fun x hx hg => g.keep x (List.mem_range.mp hx) hg) ?_)
    apply Decidable.byContradiction
    intro hn
    apply hc
    intro x hx hg
    have kx := k x (List.mem_range.mpr (by rw [T.lw]; exact hx)) hg
    have no : ∀ y, y < n → goodN w c (roundL w c ns) y = true → goodN w c ns y = true := fun y hy h2 => by
      cases h3 : goodN w c ns y with
      | true => rfl
      | false => exact absurd ⟨y, List.mem_range.mpr hy, h3, h2⟩ hn
    exact ⟨no _ (T.bw hx) kx.1, no _ (T.bc hx) kx.2⟩
theorem rounds_ok (T : Two w c n) : ∀ t, NOk w c n (rounds w c t (List.range n)) ∧ (∀ x, x < n → isRep w c x = true → goodN w c (rounds w c t (List.range n)) x = true) ∧ ((∀ x, x < n → goodN w c (rounds w c t (List.range n)) x = true) ∨ t ≤ (List.range n).countP (goodN w c (rounds w c t (List.range n))))
  | 0 => by
    have e : ∀ x, x < n → (List.range n).getD x 0 = x := fun x hx => by
      rw [List.getD_eq_getElem?_getD, List.getElem?_range hx]
      rfl
    refine ⟨⟨List.length_range, fun x hx => ?_⟩, fun x hx r => ?_, .inr (Nat.zero_le _)⟩
    · show (List.range n).getD x 0 ∈ _
      rw [e x hx]
      exact reach_self
    · show isRep w c ((List.range n).getD x 0) = true
      rw [e x hx]
      exact r
  | t + 1 => by
    obtain ⟨h1, h2, h3⟩ := rounds_ok T t
    obtain ⟨g, hg⟩ := round_goes T h1 h2
    refine ⟨g.ok, fun x hx r => g.keep x hx (h2 x hx r), ?_⟩
    have keepall : (∀ x, x < n → goodN w c (rounds w c t (List.range n)) x = true) → ∀ x, x < n → goodN w c (rounds w c (t + 1) (List.range n)) x = true := fun h x hx => g.keep x hx (h x hx)
    rcases h3 with h3 | h3
    · exact .inl (keepall h3)
    · rcases hg with hg | hg
      · exact .inl (keepall hg)
      · right
        have : (List.range n).countP (goodN w c (rounds w c t (List.range n))) < (List.range n).countP (goodN w c (rounds w c (t + 1) (List.range n))) := hg
        omega
theorem names_ok (T : Two w c n) : (names w c).length = n ∧ ∀ x, x < n → (names w c).getD x 0 ∈ reach w c x ∧ isRep w c ((names w c).getD x 0) = true := by
  obtain ⟨h1, h2, h3⟩ := rounds_ok T n
  have e : names w c = rounds w c n (List.range n) := by unfold names; rw [T.lw]
  rw [e]
  refine ⟨h1.len, fun x hx => ⟨h1.mem x hx, ?_⟩⟩
  rcases h3 with h3 | h3
  · exact h3 x hx
  · have hl : (List.range n).countP (goodN w c (rounds w c n (List.range n))) = (List.range n).length := by
      have := List.countP_le_length (p := goodN w c (rounds w c n (List.range n))) (l := List.range n)
      rw [List.length_range] at this ⊢
      omega
    exact (List.countP_eq_length.mp hl) x (List.mem_range.mpr hx)
/-- two rising rows with the same numbers are one -/
theorem rising_eq : ∀ {a b : List Nat}, a.Pairwise (· < ·) → b.Pairwise (· < ·) → (∀ x, x ∈ a ↔ x ∈ b) → a = b
  | [], [], _, _, _ => rfl
  | [], y :: b, _, _, h => absurd ((h y).mpr List.mem_cons_self) List.not_mem_nil
  | x :: a, [], _, _, h => absurd ((h x).mp List.mem_cons_self) List.not_mem_nil
  | x :: a, y :: b, ha, hb, h => by
    have ha' := List.pairwise_cons.mp ha
    have hb' := List.pairwise_cons.mp hb
    have e : x = y := by
      rcases List.mem_cons.mp ((h x).mp List.mem_cons_self) with e | e
      · exact e
      · rcases List.mem_cons.mp ((h y).mpr List.mem_cons_self) with e2 | e2
        · exact e2.symm
        · have := ha'.1 y e2
          have := hb'.1 x e
          omega
    subst e
    rw [rising_eq ha'.2 hb'.2 fun z => ?_]
    constructor
    · intro hz
      rcases List.mem_cons.mp ((h z).mp (List.mem_cons_of_mem _ hz)) with e | e
      · subst e
        exact absurd (ha'.1 z hz) (Nat.lt_irrefl _)
      · exact e
    · intro hz
      rcases List.mem_cons.mp ((h z).mpr (List.mem_cons_of_mem _ hz)) with e | e
      · subst e
        exact absurd (hb'.1 z hz) (Nat.lt_irrefl _)
      · exact e
theorem range_rising (n : Nat) : (List.range n).Pairwise (· < ·) := List.pairwise_lt_range
theorem lot_rising : (lot w c p).Pairwise (· < ·) := (range_rising _).filter _
theorem mem_lot (T : Two w c n) (hp : p < n) : x ∈ lot w c p ↔ x ∈ reach w c p := by
  unfold lot
  rw [List.mem_filter, List.mem_range, T.lw]
  exact ⟨fun h => of_decide_eq_true h.2, fun h => ⟨reach_lt T hp x h, decide_eq_true h⟩⟩
/-- the names that are left, ascending -/
theorem names_set (T : Two w c n) {l : List Nat} (hr : l.Pairwise (· < ·)) (hm : ∀ x, x ∈ l ↔ x ∈ names w c) : l = (List.range w.length).filter (isRep w c) := by
  obtain ⟨hl, h⟩ := names_ok T
  refine rising_eq hr ((range_rising _).filter _) fun x => ?_
  rw [hm, List.mem_filter, List.mem_range, T.lw]
  constructor
  · intro hx
    obtain ⟨i, hi, e⟩ := List.getElem_of_mem hx
    have hi' : i < n := by omega
    have := h i hi'
    rw [List.getD_eq_getElem?_getD, List.getElem?_eq_getElem hi] at this
    have e2 : (some (names w c)[i]).getD 0 = x := e
    rw [e2] at this
    exact ⟨reach_lt T hi' x this.1, this.2⟩
  · rintro ⟨hx, r⟩
    obtain ⟨h1, h2⟩ := h x hx
    have := rep_uniq T hx h1 r h2
    rw [List.getD_eq_getElem?_getD, List.getElem?_eq_getElem (by omega)] at this
    have this : x = (names w c)[x]'(by omega) := this
    rw [this]
    exact List.getElem_mem _
theorem names_lot (T : Two w c n) (hp : p < n) (r : isRep w c p = true) : ((List.range w.length).filter fun x => decide ((names w c).getD x 0 = p)) = lot w c p := by
  obtain ⟨hl, h⟩ := names_ok T
  refine List.filter_congr fun x hx => ?_
  have hx : x < n := by rw [← T.lw]; exact List.mem_range.mp hx
  obtain ⟨h1, h2⟩ := h x hx
  by_cases e : (names w c).getD x 0 = p
  · rw [decide_eq_true e, decide_eq_true]
    rw [e] at h1
    exact reach_symm T hx h1
  · rw [decide_eq_false e, decide_eq_false]
    intro hm
    apply e
    have h3 : p ∈ reach w c x := reach_symm T hp hm
    have hq := reach_lt T hx _ h1
    exact rep_uniq T hq ((reach_mem_iff T hx h1).mpr h3) h2 r
end
end KP

-- Sets of ints out of lists, update, dict comprehensions, get of a dict of the top.
namespace KW
open PySem PySem.Spec PyProof.Rows L2
/-- a set's object, new -/
abbrev sOb (w : World) : Obj := { cls := .type "set", dict := none, data := .set #[] 0 (.fresh 0 0 (!w.params.followText "set-order")) }
/-- a list's iterator, new -/
abbrev lIt (l : Addr) : Obj := { cls := .type "list_iterator", data := .fields #[.ref l, .int 0 0] }
section
variable {P : Program} {w : World} {A : Around} {E : Value → Shared → Prop} {s : Shared}
set_option maxHeartbeats 3200000 in
theorem set_of_list {l : Addr} {vs : Array Value} (ns : List Int) {Q : Value → Shared → Prop} (nh : A.handled = none) (isl : s.heap.IsList l vs) (are : IntsAre vs.toList ns) (few : ns.length + 1 < scanBound)
    (fin : ∀ (g : Heap) (t c : Nat), SetR w g s.heap.objs.size (fun j => decide (j ∈ ns)) c → c ≤ ns.length → (∀ b o, s.heap.get? b = some o → g.get? b = some o) → Q (.ref s.heap.objs.size) { s with heap := g, toks := t }) :
    wpAny (model P w) A (call (.type "set") [.ref l]) Q E s := by
  have lens : vs.size = ns.length := by
    have z := IntsAre.length are
    rw [Array.length_toList] at z
    exact z
  obtain ⟨mc, mt, mroF⟩ := F.called_set.mro
  have madeF := F.called_set.made
  have subF := F.called_set.sub
  refine wpAny_call (codeAny_of_tree ?_)
  show wpAny _ _ (callAny (.type "set") _) _ _ _
  refine wpAny_pure ⟨Code.quiet_builtin _ (by decide +kernel), ?_⟩
  refine codeAny_builtin F.entry_type_call ?_
  rw [Around.under_plain (weight_type_call_type "set" _ []) rfl]
  have ntF := F.called_set.notType
  have ccF := F.called_set.canCreate
  have tcF := F.typeCall_set_1 (.ref l)
  repeat (any_goals (first | assumption | wp_step))

  refine codeAny_mono (code_set_led1 (.ref l) (E := E) (Q₁ := fun ob z => ob = .ref s.heap.objs.size ∧ z = { s with heap := s.heap.push (sOb w) }) ⟨rfl, rfl⟩) fun r z hz => ?_
  cases r with
  | error e => exact hz
  | ok fl =>
    cases fl with
    | ret ob =>
      obtain ⟨rfl, rfl⟩ := hz
      have newS : (s.heap.push (sOb w)).get? s.heap.objs.size = some (sOb w) := Heap.get?_push_size _ rfl
      have tyS : Shared.TypeIs { s with heap := s.heap.push (sOb w) } (.ref s.heap.objs.size) "set" := ⟨_, newS, rfl⟩
      have iL := F.called_set.init.lookup
      have iB := F.called_set.init.bind (.ref s.heap.objs.size)
      repeat (any_goals (first | assumption | wp_step))

      refine codeAny_mono (codeAny_call_builtin (R := wants (fun r z => r = .none ∧ ∃ g t c, z = { s with heap := g, toks := t } ∧ SetR w g s.heap.objs.size (fun j => decide (j ∈ ns)) c ∧ c ≤ ns.length ∧
          (∀ b o, s.heap.get? b = some o → g.get? b = some o)) E) F.called_set.init.plain F.entry_set_init (check_set_init_1 tyS ?_)) fun r2 z2 hz2 => ?_
      · obtain ⟨ol, gl, cl, nl, dl⟩ := isl
        obtain ⟨oc, od, odt, osl⟩ := ol
        simp only at cl dl
        subst cl; subst dl
        have gl' : (s.heap.push (sOb w)).get? l = some { cls := .type "list", dict := od, data := .seq vs nl, slots := osl } := Heap.get?_push_of_some _ gl
        have sbS := F.sub_list_set
        have sbF := F.sub_list_frozenset
        have noD : (Value.type "list" == Value.type "dict") = false := by decide
        have isl1 : (s.heap.push (sOb w)).IsList l vs := ⟨_, gl', rfl, nl, rfl⟩
        unfold Builtin.«set.__init__» noKeywords Builtin.Frozenset.updateFrom
        generalize gPI : pyIter = PI
        wp_walk
        subst gPI

        refine wpAny_pyIter_list isl1 ?_
        refine wpAny_bind (wpAny_runValue ?_)
        have ltl : l < s.heap.objs.size := Heap.lt_size gl
        have nh3 : A.in1.in1.in1.handled = none := by simp [nh]
        have sz1 : (s.heap.push (sOb w)).objs.size = s.heap.objs.size + 1 := Heap.size_push ..
        have neI : l ≠ (s.heap.push (sOb w)).objs.size := by
          rw [sz1]; exact Nat.ne_of_lt (Nat.lt_succ_of_lt ltl)
        have noS : s.heap.objs.size ∉ [(s.heap.push (sOb w)).objs.size, l] := by
          rw [sz1]
          intro z
          rcases List.mem_cons.mp z with z | z
          · exact absurd z (Nat.ne_of_lt (Nat.lt_succ_self _))
          · exact absurd (List.mem_singleton.mp z) (Nat.ne_of_gt ltl)
        have valsI : ∀ (i : Nat) (v : Value), vs[i]? = some v → ∃ k t, ns[i]? = some k ∧ v = .int k t := fun i v hv => by
          have hi : i < ns.length := by rw [← lens]; exact (Array.getElem?_eq_some_iff.mp hv).1
          obtain ⟨t, e⟩ := PyProof.Rows.IntsAre.int_at are i v (by rw [Array.getElem?_toList]; exact hv)
          have e2 : ns[i]? = some ns[i] := List.getElem?_eq_getElem hi
          refine ⟨ns[i], t, e2, ?_⟩
          rw [e, List.getD_eq_getElem?_getD, e2] <;> rfl
        refine set_update_ints ((Walks.list nh3 _ l neI vs).toS) s.heap.objs.size noS ns lens few valsI (vs.size - 0) 0 _ (by omega) (Nat.zero_le _)
          ⟨⟨_, Heap.get?_push_size _ rfl, rfl, rfl⟩, (isl1.push _)⟩ ?c0 ?c1
        case c0 =>
          have got : ((s.heap.push (sOb w)).push (lIt l)).get? s.heap.objs.size = some (sOb w) := Heap.get?_push_of_some _ newS
          exact ⟨0, Nat.le_refl 0, setR_new_at got⟩
        case c1 =>
          intro z c2 mv lc rS
          obtain ⟨g, g2, d2, t2, os2⟩ := z
          have e1 : g2 = s.gens := mv.gens
          have e2 : d2 = s.drawn := mv.drawn
          have e3 : os2 = s.os := mv.os
          subst e1; subst e2; subst e3
          show wpAny _ _ _ _ _ _
          refine wpAny_pure ?_
          show wpAny _ _ (ret Value.none) _ _ _
          rw [lens] at lc
          refine wpAny_pure ⟨rfl, g, t2, c2, rfl, rS, lc, fun b o e => ?_⟩
          have b0 : b < s.heap.objs.size := Heap.lt_size e
          refine mv.heap b o (fun z => ?_) (Heap.get?_push_of_some _ (Heap.get?_push_of_some _ e))
          rcases List.mem_cons.mp z with z | z
          · exact absurd z (Nat.ne_of_lt b0)
          · have y := List.mem_singleton.mp z
            rw [sz1] at y
            exact absurd y (Nat.ne_of_lt (Nat.lt_succ_of_lt b0))
      · cases r2 with
        | error e => exact hz2
        | ok fl2 =>
          cases fl2 with
          | ret r =>
            obtain ⟨rfl, g, t, c2, rfl, rS, lc, kp⟩ := hz2
            repeat (any_goals (first | assumption | wp_step))
            exact fin _ _ _ rS lc kp
          | _ => exact hz2.elim
    | _ => exact hz.elim
end
section
variable {X : Cx}
/-- set(x) of a list of ints -/
def rSetI (K : PySem.W.Frag) (w : World) : List V → Hp → VK → Prop := fun xs H Q => ∃ (a : Addr) (ns : List Int), xs = [V.ref a] ∧ SqL K H a (ns.map V.int) ∧ ns.length ≤ 1000 ∧ ∀ (p : Addr) (c : Nat), H p = none → c ≤ ns.length → Q (.ref p) (upd H p (SetO w p (fun j => decide (j ∈ ns)) c))
theorem cr_setI (hc : X.calm = true) : CallR X (.type "set") (rSetI X.K X.w) := by
  intro pins s σ H xs us Q I r h
  obtain ⟨a, ns, rfl, hs, hl, q⟩ := h
  rw [Vals.ref1 r]
  obtain ⟨its, rv, pl, hz⟩ := I.list hs
  refine set_of_list ns (I.ok.hd hc) pl.isList (by simpa using ints_of_vals rv) (by unfold scanBound; omega) fun g t c R lc k => ?_
  exact ⟨.ref _, upd H s.heap.objs.size (SetO X.w s.heap.objs.size (fun j => decide (j ∈ ns)) c), I.laid (t' := t) (fun b u e => k b u e) (Nat.le_refl _) (setO_new R), rfl, q _ c (I.hok.fresh (Nat.le_refl _)) lc⟩
end
end KW

namespace KW
open PySem PySem.Spec PyProof.Rows L2
-- ### machine: sorted(set(x)), d.update(e), D.get(k) of the top
theorem pe_weak {X : Cx} {e : Expr} {t t' : TE} (h : PE X e t) (w : ∀ σ H Q, t' σ H Q → t σ H Q) : PE X e t' := ⟨fun pins s σ H Q I q => h.run pins s σ H Q I (w σ H Q q)⟩
def tSortSet (K : PySem.W.Frag) (ta : TA) : TE := fun σ H Q => ta σ H fun xs H1 => ∃ (a : Addr) (ns : List Int), xs = [V.ref a] ∧ SqL K H1 a (ns.map V.int) ∧ ns.length < 64 ∧
  ∀ (p q : Addr) (o : HO) (ms : List Int), H1 p = none → upd H1 p o q = none → ms.Pairwise (· < ·) → (∀ k, k ∈ ms ↔ k ∈ ns) → Q (.ref q) (upd (upd H1 p o) q (.lst (ms.map V.int)))
theorem pe_sortSet {X : Cx} {e1 : Expr} {ta : TA} (h : PE X e1 (tCB (rSortedSet X.w) (tCons (tCB (rSetI X.K X.w) ta) tNil))) (hm : ∀ σ H (Q Q' : List V → Hp → Prop), (∀ v H, Q v H → Q' v H) → ta σ H Q → ta σ H Q') : PE X e1 (tSortSet X.K ta) :=
  pe_weak h fun σ H Q q => by
    show ta σ H fun xs H1 => rSetI X.K X.w xs H1 fun x H2 => rSortedSet X.w [x] H2 Q
    refine hm σ H _ _ (fun xs H1 z => ?_) q
    obtain ⟨a, ns, rfl, hs, hl, qq⟩ := z
    refine ⟨a, ns, rfl, hs, by omega, fun p c hp hc => ?_⟩
    refine ⟨p, _, c, rfl, upd_same, by omega, fun ms q' hms hmem _ hq => ?_⟩
    exact qq p q' _ ms hp hq hms fun k => by rw [hmem k, decide_eq_true_eq]
/-- d.update(e) -/
def rUpdate : V → List V → Hp → VK → Prop := fun x xs H Q => ∃ (a o : Addr) (kvs more : List (Key × V)), x = .ref a ∧ xs = [.ref o] ∧ H a = some (.dK kvs) ∧ Rd H o (.dK more) ∧ a ≠ o ∧ kvs.length + more.length ≤ sizeLine ∧ Q .non (upd H a (.dK (mergeK kvs more)))
theorem mt_update {X : Cx} : MtR X "dict.update" rUpdate := by
  intro pins s σ H x xs v us Q I rx rxs h
  obtain ⟨a, o, kvs, more, rfl, rfl, ha, ho, hne, hl, q⟩ := h
  cases rx
  cases rxs with
  | cons ry rt =>
    cases rt
    cases ry
    obtain ⟨z1, l1, vs, rel1, d1⟩ := dk_of I.hok ha
    obtain ⟨z2, l2, ms, rel2, d2⟩ := dk_rd I.hok ho
    refine call_meetsIn PySem.F.slot_dict_update d1.typeIs PySem.F.entry_dict_update (PySem.F.args_dict_update_2 _ _) (meets_dict_update (mixKind X.prog X.w) a o hne l2) ⟨vs, ms, d1, d2, ?_, fun g d3 _ sb => ?_⟩
    · rw [← rel1.length, ← rel2.length]
      exact hl
    · have lk : (mergeK kvs more).length ≤ sizeLine := Nat.le_trans (length_mergeK more kvs) hl
      have he : ∃ q, g.get? a = some q := let ⟨q, _, _, hq, _⟩ := d3; ⟨q, hq⟩
      exact ⟨.non, _, d_write (t' := s.toks) I (by rw [ha]; exact True.intro) sb he (dk_new lk l1 (KV.merge rel2 rel1) d3), rfl, q⟩
/-- D.get(k), D a dict of the top with text keys -/
def tKGet (K : PySem.W.Frag) (d : Addr) (td ty : TE) : TE := fun σ H Q => td σ H fun x H1 => x = .ref d ∧ ty σ H1 fun y H2 => ∃ (z : Str) (r : Option Value) (v0 : V), y = .str z ∧ PySem.W.nsIn K d z = some r ∧ RelV v0 (r.getD .none) ∧ Q v0 H2
theorem pe_kget {X : Cx} {o e : Expr} {td ty : TE} {apos cpos : Pos} {d : Addr} {es : Array DictEntry} {n : Nat} (D : KDict X.K X.w d es n) (ho : PE X o td) (he : PE X e ty) (m : M1 X o "get" apos e cpos) : PE X (.Call (.Attribute o "get" apos) [e] [] cpos) (tKGet X.K d td ty) := by
  refine ⟨fun pins s σ H Q I h => ?_⟩
  refine wpAny_Call_method m.base m.few m.line PySem.F.plainAttrs_dict PySem.F.slot_dict_get PySem.F.type_dict_get (thn (ho.run pins s σ H _ I h) fun u s1 ⟨x, H1, I1, rx, ex, q1⟩ => ?_)
  subst ex
  obtain rfl : u = Value.ref d := rx
  have mp := PySem.W.mapOf_K (prog := X.prog) (w := X.w) I1.kIn D.at_ D.lit
  refine ⟨mp.typeIs, fun a e => ?_, ?_⟩
  · cases e
    exact ⟨_, I1.kIn _ _ D.at_, rfl⟩
  rw [m.trees]
  refine Calls.callWith_builtin rfl (Calls.evalArgs_plain (Calls.spliced_cons (thn (he.run pins s1 σ H1 _ I1 q1) fun iv s2 ⟨y, H2, I2, ry, z, r, v0, ey, ns, rv, q2⟩ => Calls.spliced_nil ?_)))
  subst ey
  obtain ⟨t, rfl⟩ := ry
  have mp2 := PySem.W.mapOf_K (prog := X.prog) (w := X.w) I2.kIn D.at_ D.lit
  refine call_meetsIn PySem.F.slot_dict_get mp2.typeIs PySem.F.entry_dict_get (PySem.F.args_dict_get_2 _ _) (meets_dict_get (PySem.strKind X.prog X.w) d (PySem.strKind_is X.prog X.w z t) D.low) ⟨_, mp2, ⟨v0, H2, I2.tok _, ?_, q2⟩⟩
  rw [PySem.W.find_K D.at_ ns]
  exact rv
-- ### .. over the abstract store
section
variable {b : Bx} {F F' H H' : Hp} {as as' : List Addr} {s s' : S} {σ σ' : L2.St} {k : AV → S → Prop} {A : AE}
theorem we_sortSet {ta : TA} (h : WA b ta s fun xs s1 => ∃ ns : List Int, (xs = [.d (.lst (ns.map .int))] ∨ ∃ n, xs = [.c n] ∧ s1.cs[n]? = some (.lst (ns.map .int))) ∧ ns.length < 64 ∧ ∀ ms : List Int, ms.Pairwise (· < ·) → (∀ k, k ∈ ms ↔ k ∈ ns) → k (.d (.lst (ms.map .int))) s1) : WE b (tSortSet b.K ta) s k := fun F as σ H g Q q =>
  h F as σ H g _ fun vs xs s1 F1 as1 H1 h1 g1 e1 p1 r1 => by
    obtain ⟨ns, hx, hl, hk⟩ := h1
    have key : ∃ a, vs = [V.ref a] ∧ SqL b.K H1 a (ns.map V.int) := by
      rcases hx with rfl | ⟨n, rfl, hc⟩
      · cases r1 with
        | cons r2 r3 =>
          cases r3
          obtain ⟨a, ys, rfl, q1, q2⟩ := Rep.lst_inv r2
          rw [q2.ints_inv] at q1
          exact ⟨a, rfl, .inl (.inl (g1.gm.fh _ _ q1))⟩
      · cases r1 with
        | cons r2 r3 =>
          cases r3
          obtain ⟨a, ys, rfl, _, q1, q2, _⟩ := g1.lst hc r2
          rw [q2.ints_inv] at q1
          exact ⟨a, rfl, .inl (.inl q1)⟩
    obtain ⟨a, rfl, hs⟩ := key
    refine ⟨a, ns, rfl, hs, hl, fun p q2 o ms hp hq hms hmem => ?_⟩
    obtain ⟨m1, e2⟩ := g1.gm.fz (o := o) hp
    have g2 : G b _ as1 s1 σ _ := g1.of m1 e2 (.refl as1) rfl
    obtain ⟨g3, e3, r3⟩ := fz_lst g2 hq (Reps.ints ms)
    exact q _ _ s1 _ as1 _ (hk ms hms hmem) g3 ((e1.trans e2).trans e3) p1 r3
theorem ty_dc {n : Nat} {kds : List (Key × D)} (hc : s.cs[n]? = some (.dK kds)) : ∀ F as σ H v, G b F as s σ H → AVRep b.K F as v (.c n) → tyV b.K "dict" v H := fun F as σ H v g r => by
  obtain ⟨a, kvs, rfl, _, h1, _⟩ := g.dict hc r
  exact .inr (.inr (.inl ⟨rfl, .inl ⟨kvs, h1⟩⟩))
/-- known.update(more), more as another cell that is not used any more or data -/
theorem rm_update {n m : Nat} {kds more : List (Key × D)} (hc : s.cs[n]? = some (.dK kds)) (hm : s.cs[m]? = some (.dK more)) (hnm : n ≠ m) (hl : kds.length + more.length ≤ sizeLine) (hk : k (.d .non) (s.put n (.dK (mergeD kds more)))) : RM b rUpdate (.c n) [.c m] s k := fun F as σ H v vs g r rs Q q => by
  obtain ⟨a, kvs, rfl, ha, h1, h2⟩ := g.dict hc r
  cases rs with
  | cons r1 r2 =>
    cases r2
    obtain ⟨o, mvs, rfl, ho, h3, h4⟩ := g.dict hm r1
    have hne : a ≠ o := fun z => hnm (by
      subst z
      exact (List.getElem?_inj (lt_of_get ha) g.gm.nd).mp (ha.trans ho.symm))
    have l1 : kvs.length = kds.length := by have := congrArg List.length h2.1; rwa [List.length_map, List.length_map] at this
    have l2 : mvs.length = more.length := by have := congrArg List.length h4.1; rwa [List.length_map, List.length_map] at this
    refine ⟨a, o, kvs, mvs, rfl, rfl, h1, .inl h3, hne, by omega, ?_⟩
    exact q _ _ _ F as _ hk (g.put ha hc trivial ⟨_, upd_same, dreps_merge h4 h2⟩) (.refl F) (.refl as) Rep.non
/-- known.update(more), more as data -/
theorem rm_updateD {n : Nat} {kds more : List (Key × D)} (hc : s.cs[n]? = some (.dK kds)) (hl : kds.length + more.length ≤ sizeLine) (hk : k (.d .non) (s.put n (.dK (mergeD kds more)))) : RM b rUpdate (.c n) [.d (.dK more)] s k := fun F as σ H v vs g r rs Q q => by
  obtain ⟨a, ha, rfl⟩ := r
  obtain ⟨y1, y2, kvs, h1, h2⟩ := g.gm.cell n a _ ha hc trivial
  cases rs with
  | cons r1 r2 =>
    cases r2
    cases r1 with
    | @dK o mvs _ h3 h4 h5 =>
      have hne : a ≠ o := fun z => by
        subst z
        rcases h3 with h3 | ⟨_, h3⟩
        · rw [y1] at h3
          cases h3
        · rw [y1] at h3
          cases h3
      have l1 : kvs.length = kds.length := by have := congrArg List.length h2.1; rwa [List.length_map, List.length_map] at this
      have l2 : mvs.length = more.length := by have := congrArg List.length h4; rwa [List.length_map, List.length_map] at this
      refine ⟨a, o, kvs, mvs, rfl, rfl, h1, g.gm.fh.rd h3, hne, by omega, ?_⟩
      exact q _ _ _ F as _ hk (g.put ha hc trivial ⟨_, upd_same, dreps_merge ⟨h4, h5⟩ h2⟩) (.refl F) (.refl as) Rep.non
/-- D.get(z), of the top: its answer as data -/
theorem we_kget {d : Addr} {td ty : TE} (h : WE b td s fun x s1 => x = .d (.adr d) ∧ WE b ty s1 fun y s2 => ∃ (z : Str) (r : Option Value) (v0 : V) (dd : D), y = .d (.str z) ∧ PySem.W.nsIn b.K d z = some r ∧ RelV v0 (r.getD .none) ∧ (∀ F, Rep b.K F v0 dd) ∧ k (.d dd) s2) : WE b (tKGet b.K d td ty) s k := fun F as σ H g Q q =>
  h F as σ H g _ fun x av s1 F1 as1 H1 h1 g1 e1 p1 r1 => by
    obtain ⟨rfl, h2⟩ := h1
    refine ⟨Rep.adr_inv r1, h2 F1 as1 σ H1 g1 _ fun y av2 s2 F2 as2 H2 h3 g2 e2 p2 r2 => ?_⟩
    obtain ⟨z, r, v0, dd, rfl, hn, hr, rep, hk⟩ := h3
    exact ⟨z, r, v0, Rep.str_inv r2, hn, hr, q v0 _ s2 F2 as2 H2 hk g2 (e1.trans e2) (p1.trans p2) (rep F2)⟩
-- ### dict comprehensions
def S.blkC (s : S) (vs : List Nat) (co : CO) : S := ⟨wipeA s.env vs, s.cs ++ [co]⟩
theorem G.blkC {vs : List Nat} {co : CO} {F2 H2 : Hp} {as2 : List Addr} (g : G b F as s σ H) (m : Gm b.K b.B b.F0 F2 as2 (s.cs ++ [co]) H2) (e : Ex F F2) (p : Pre as as2) : G b F2 as2 (s.blkC vs co) (wipe σ vs) H2 := by
  obtain ⟨h1, h2⟩ := sl_wipe (F := F2) (as := as2) (b := b) g.len (fun i av h => by
    obtain ⟨o, q1, q2⟩ := g.sl i av h
    exact ⟨o, q1, q2.mono e p⟩) vs
  exact ⟨m, g.pr.trans p, g.e0.trans e, h1, h2⟩
/-- behind the block: what it made is frozen, the state as it was -/
theorem blkC_end {co : CO} {x : D} {F2 H2 : Hp} {p : Addr} (g : G b F as s σ H) (m : Gm b.K b.B b.F0 F2 (as ++ [p]) (s.cs ++ [co]) H2) (e : Ex F F2) (hr : ∀ c ∈ s.cs, noRef s.cs.length c) (hx : frozen co = some x) : ∃ F3, G b F3 as s σ H2 ∧ Ex F F3 ∧ Rep b.K F3 (.ref p) x := by
  have hla : as.length = s.cs.length := g.gm.len
  have h1 : (as ++ [p])[s.cs.length]? = some p := by rw [← hla, List.getElem?_append_right (Nat.le_refl _), Nat.sub_self] <;> rfl
  have h2 : (s.cs ++ [co])[s.cs.length]? = some co := by rw [List.getElem?_append_right (Nat.le_refl _), Nat.sub_self] <;> rfl
  have lv := frozen_live hx
  obtain ⟨x1, x2, x3⟩ := m.cell _ _ _ h1 h2 lv
  obtain ⟨o, ho, hrep⟩ := crep_frozen x3 hx
  obtain ⟨m', e'⟩ := m.fr h1 h2 lv ho
  have lift : ∀ {i : Nat} {c : Addr}, as[i]? = some c → (as ++ [p])[i]? = some c := fun {i c} h => (Pre.snoc as p).get h
  refine ⟨_, g.of (F' := upd F2 p o) (as' := as) (s' := s) ⟨m'.fh, m'.bh, m'.nw, hla, g.gm.nd, fun i c h => m'.ha i c (lift h), fun i c d e1 e2 e3 => ?_⟩ (e.trans e') (.refl as) rfl, e.trans e', hrep _ e' upd_same⟩
  have hi : i < s.cs.length := lt_of_get e2
  have q : ((s.cs ++ [co]).set s.cs.length .dead)[i]? = some d := by
    rw [List.getElem?_set_ne (by omega), List.getElem?_append_left hi]
    exact e2
  obtain ⟨y1, y2, y3⟩ := m'.cell i c d (lift e1) q e3
  exact ⟨y1, y2, y3.cut (by rw [hla]; exact hr d (List.mem_of_getElem? e2))⟩
/-- {key: value for target in source if test} -/
theorem we_dc {wi : TI} {g : TG} {tt : TT} {tk tv : TE} {vs : List Nat} (ho : Own g vs) (h : WI b wi s fun ds s1 => ds.length ≤ sizeLine ∧ (∀ c ∈ s1.cs, noRef s1.cs.length c) ∧ ∃ I : Nat → List (Key × D) → Prop, I 0 [] ∧
    (∀ (i : Nat) d acc, ds[i]? = some d → I i acc → WG b g (.d d) (s1.blkC vs (.dK acc)) fun s2 => WT b tt s2 fun y s3 => (y = true → WE b tk s3 fun ak s4 => WE b tv s4 fun av s5 => ∃ key z, ak = .d (keyD key) ∧ av = .d z ∧ s5.cs = s1.cs ++ [.dK acc] ∧ I (i + 1) (putD acc key z)) ∧ (y = false → s3.cs = s1.cs ++ [.dK acc] ∧ I (i + 1) acc)) ∧
    ∀ acc, I ds.length acc → k (.d (.dK acc)) s1) : WE b (tDc wi g tt tk tv vs) s k := fun F as σ H gg Q q =>
  h F as σ H gg _ fun J ds s1 F1 as1 H1 h1 g1 e1 p1 wk => fun p hp => by
    obtain ⟨hsz, hr, I, i0, hs, hd⟩ := h1
    have m0 := g1.gm.nc (o := .dK []) (co := .dK []) hp ⟨[], upd_same, rfl, .nil⟩
    refine ⟨fun i m H => m = ds.length - i ∧ i ≤ ds.length ∧ ∃ acc F2, I i acc ∧ acc.length ≤ i ∧ Gm b.K b.B b.F0 F2 (as1 ++ [p]) (s1.cs ++ [.dK acc]) H ∧ Ex F1 F2, ⟨ds.length, by omega, Nat.zero_le _, [], F1, i0, Nat.le_refl _, m0, .refl F1⟩, ?_⟩
    rintro i m H2 ⟨rfl, hi, acc, F2, h2, hal, m2, e2⟩
    have g2 : G b F2 (as1 ++ [p]) (s1.blkC vs (.dK acc)) (wipe σ vs) H2 := g1.blkC m2 e2 (.snoc as1 p)
    by_cases hlt : i < ds.length
    · have hx : ds[i]? = some ds[i] := List.getElem?_eq_getElem hlt
      obtain ⟨go, yl⟩ := wk.go F2 _ _ _ H2 i _ e2 g2 hx
      refine .inr ⟨go, fun H => ∃ acc F3, I (i + 1) acc ∧ acc.length ≤ i + 1 ∧ Gm b.K b.B b.F0 F3 (as1 ++ [p]) (s1.cs ++ [.dK acc]) H ∧ Ex F1 F3, fun H' z => ⟨ds.length - (i + 1), by omega, rfl, hlt, z⟩, fun x H' y => ?_⟩
      obtain ⟨F3, e3, g3, r3⟩ := yl x H' y
      have same : ∀ {as4 : List Addr} {F4 H4 : Hp}, Gm b.K b.B b.F0 F4 as4 (s1.cs ++ [.dK acc]) H4 → Pre (as1 ++ [p]) as4 → as4 = as1 ++ [p] := fun {as4 F4 H4} m4 hp4 => by
        obtain ⟨zs, rfl⟩ := hp4
        have := m4.len
        have h5 := m2.len
        rw [List.length_append] at this
        have : zs.length = 0 := by omega
        rw [List.length_eq_zero_iff.mp this, List.append_nil]
      have step := hs i _ acc hx h2 F3 _ _ H' x g3 r3 (fun σ' H'' => tt σ' H'' fun c H3 => if c = true then tk σ' H3 fun y H4 => tv σ' H4 fun z H5 => ∃ kvs key, y = kV key ∧ H5 p = some (.dK kvs) ∧ kvs.length < sizeLine ∧ (∃ acc F3, I (i + 1) acc ∧ acc.length ≤ i + 1 ∧ Gm b.K b.B b.F0 F3 (as1 ++ [p]) (s1.cs ++ [.dK acc]) (upd H5 p (.dK (putK kvs key z))) ∧ Ex F1 F3) else ∃ acc F3, I (i + 1) acc ∧ acc.length ≤ i + 1 ∧ Gm b.K b.B b.F0 F3 (as1 ++ [p]) (s1.cs ++ [.dK acc]) H3 ∧ Ex F1 F3) fun s4 F4 as4 σ4 H4 h4 g4 e4 p4 => ?_
      · have := ho _ _ _ _ step
        refine cast ?_ this
        congr 1
        funext σ2 H2'
        rw [wipe_wipe]
        exact propext ⟨fun z => ⟨z.2, z.1⟩, fun z => ⟨z.2, z.1⟩⟩
      · refine h4 F4 as4 σ4 H4 g4 _ fun c s5 F5 as5 H5 h5 g5 e5 p5 => ?_
        cases c with
        | true =>
          refine h5.1 rfl F5 as5 σ4 H5 g5 _ fun y ak s6 F6 as6 H6 h6 g6 e6 p6 r6 => ?_
          refine h6 F6 as6 σ4 H6 g6 _ fun v av s7 F7 as7 H7 h7 g7 e7 p7 r7 => ?_
          obtain ⟨key, z, rfl, rfl, hcs, hI⟩ := h7
          have m6 := g7.gm
          rw [hcs] at m6
          have := same m6 (((p4.trans p5).trans p6).trans p7)
          subst this
          have hla : as1.length = s1.cs.length := g1.gm.len
          have q1 : (as1 ++ [p])[s1.cs.length]? = some p := by rw [← hla, List.getElem?_append_right (Nat.le_refl _), Nat.sub_self] <;> rfl
          have q2 : (s1.cs ++ [CO.dK acc])[s1.cs.length]? = some (.dK acc) := by rw [List.getElem?_append_right (Nat.le_refl _), Nat.sub_self] <;> rfl
          obtain ⟨x1, x2, kvs, x3, x4⟩ := m6.cell _ _ _ q1 q2 trivial
          have l1 : kvs.length = acc.length := by have := congrArg List.length x4.1; rwa [List.length_map, List.length_map] at this
          refine ⟨kvs, key, rep_key r6, x3, by omega, putD acc key z, F7, hI, by have := putD_length acc key z; omega, ?_, ((((e2.trans e3).trans e4).trans e5).trans e6).trans e7⟩
          have m7 := m6.put (o := .dK (putK kvs key v)) (co' := .dK (putD acc key z)) q1 q2 trivial ⟨_, upd_same, x4.put r7⟩
          rw [List.set_append_right _ _ (Nat.le_refl _), Nat.sub_self] at m7
          exact m7
        | false =>
          obtain ⟨hcs, hI⟩ := h5.2 rfl
          have m5 := g5.gm
          rw [hcs] at m5
          have := same m5 (p4.trans p5)
          subst this
          exact ⟨acc, F5, hI, by omega, m5, ((e2.trans e3).trans e4).trans e5⟩
    · have hq : i = ds.length := by omega
      subst hq
      refine .inl ⟨wk.stop F2 _ _ _ H2 _ e2 g2 (Nat.le_refl _), ?_⟩
      obtain ⟨F3, g3, e3, r3⟩ := blkC_end g1 m2 e2 hr rfl
      exact q _ _ s1 F3 as1 H2 (hd acc h2) g3 (e1.trans e3) p1 r3
end
end KW

namespace KW
open PySem PySem.Spec PyProof.Rows L2
theorem keysLit_cons {P : Params} {e : DictEntry} {r : List DictEntry} {x : Str} {t : Tok} (h : e.key = .str x t) (h2 : e.hash = PyData.keyHash P x) (q : PySem.W.KeysLit P r) : PySem.W.KeysLit P (e :: r) := ⟨⟨x, t, h, h2⟩, q⟩
theorem ta_mono1 {te : TE} {σ : L2.St} {H : Hp} {Q Q' : List V → Hp → Prop} (hq : ∀ v H, Q v H → Q' v H) (h : tCons (fun σ H Q => te σ H Q) tNil σ H Q) (hm : ∀ σ H (Q Q' : VK), (∀ v H, Q v H → Q' v H) → te σ H Q → te σ H Q' := by intro σ H Q Q' hq hz; obtain ⟨v, h1, h2⟩ := hz; exact ⟨v, h1, hq _ _ h2⟩) : tCons te tNil σ H Q' := hm σ H _ _ (fun v H z => hq _ _ z) h
section
variable {b : Bx} {s : S} {k : AV → S → Prop}
/-- x.f -/
def FldAt (b : Bx) (f : Str) (x : AV) (s : S) (k : AV → S → Prop) : Prop := (∃ C fs d, x = .d (.ins C fs) ∧ Cls b.K C ∧ NoAttr b.K C f ∧ fs.lookup f = some d ∧ k (.d d) s) ∨ ∃ n C fs av, x = .c n ∧ s.cs[n]? = some (.ins C fs) ∧ Cls b.K C ∧ NoAttr b.K C f ∧ fs.lookup f = some av ∧ k av s
theorem we_fldA {te : TE} {f : Str} (h : WE b te s fun x s1 => FldAt b f x s1 k) : WE b (tFld b.K te f) s k := fun F as σ H g Q q =>
  h F as σ H g _ fun v x s1 F1 as1 H1 h1 g1 e1 p1 r1 => by
    rcases h1 with ⟨C, fs, d, rfl, hC, hn, hl, hk⟩ | ⟨n, C, fs, av, rfl, hc, hC, hn, hl, hk⟩
    · cases r1 with
      | ins q1 q2 q3 =>
        obtain ⟨w, e, r⟩ := lookup_reps q2 q3 hl
        exact ⟨_, C, _, _, w, rfl, g1.gm.fh _ _ q1, hC, hn, e, q _ _ s1 F1 as1 H1 hk g1 e1 p1 r⟩
    · obtain ⟨a, dx, fvs, rfl, ha, q1, q2, q3⟩ := g1.inst hc r1
      obtain ⟨w, e, r⟩ := lookup_areps q2 q3 hl
      exact ⟨a, C, dx, fvs, w, rfl, q1, hC, hn, e, q _ _ s1 F1 as1 H1 hk g1 e1 p1 r⟩
theorem fa_d {C : Addr} {fs : List (Str × D)} {d : D} {f : Str} (hC : Cls b.K C) (hn : NoAttr b.K C f) (hl : fs.lookup f = some d) (hk : k (.d d) s) : FldAt b f (.d (.ins C fs)) s k := .inl ⟨C, fs, d, rfl, hC, hn, hl, hk⟩
theorem fa_c {n : Nat} {C : Addr} {fs : List (Str × AV)} {av : AV} {f : Str} {env : List AV} {cs : List CO} (hC : Cls b.K C) (hn : NoAttr b.K C f) (hl : cs[n]? = some (.ins C fs) ∧ fs.lookup f = some av) (hk : k av ⟨env, cs⟩) : FldAt b f (.c n) ⟨env, cs⟩ k := .inr ⟨n, C, fs, av, rfl, hl.1, hC, hn, hl.2, hk⟩
theorem ro_ixTn {l : List Nat} {i q : Nat} (h : l[i]? = some q) (hk : k (.d (.int (q : Nat))) s) : RO b (rIxT b.K) (.d (.tup (natD l))) (.d (.int (i : Nat))) s k := ro_ixT (atI_natN (by rw [natD_get, h]; rfl)) hk
theorem ro_ixLn {l : List Nat} {i q : Nat} (h : l[i]? = some q) (hk : k (.d (.int (q : Nat))) s) : RO b (rIxL b.K) (.d (.lst (natD l))) (.d (.int (i : Nat))) s k := ro_ixL (atI_natN (by rw [natD_get, h]; rfl)) hk
theorem ro_ixLcn {n : Nat} {l : List Nat} {i q : Nat} {env : List AV} {cs : List CO} (hc : cs[n]? = some (.lst (natD l))) (h : l[i]? = some q) (hk : k (.d (.int (q : Nat))) ⟨env, cs⟩) : RO b (rIxL b.K) (.c n) (.d (.int (i : Nat))) ⟨env, cs⟩ k := ro_ixLc (s := ⟨env, cs⟩) hc (atI_natN (by rw [natD_get, h]; rfl)) hk
end
end KW

-- in, text + text, dict of pairs.
namespace KW
open PySem PySem.Spec PyProof.Rows L2
/-- flat data as values -/
def fvD : D → V
  | .bl b => .bl b
  | .int i => .int i
  | .str z => .str z
  | _ => .non
def flatD : D → Bool
  | .non => true
  | .bl _ => true
  | .int _ => true
  | .str _ => true
  | _ => false
theorem rep_fv {K : PySem.W.Frag} {F : Hp} {v : V} {d : D} (r : Rep K F v d) (h : flatD d = true) : v = fvD d ∧ flatV v = true := by
  cases r <;> first | exact ⟨rfl, rfl⟩ | cases h
theorem reps_fv {K : PySem.W.Frag} {F : Hp} : ∀ {vs : List V} {ds : List D}, Reps K F vs ds → ds.all flatD = true → vs = ds.map fvD ∧ vs.all flatV = true
  | _, _, .nil, _ => ⟨rfl, rfl⟩
  | _, _, .cons h r, e => by
    rw [List.all_cons, Bool.and_eq_true] at e
    obtain ⟨e1, e2⟩ := rep_fv h e.1
    obtain ⟨e3, e4⟩ := reps_fv r e.2
    exact ⟨by rw [List.map_cons, ← e1, ← e3], by rw [List.all_cons, e2, e4]; rfl⟩
/-- d is among ds -/
def inD (d : D) (ds : List D) : Bool := inV (fvD d) (ds.map fvD)
section
variable {b : Bx} {F F' H H' : Hp} {as as' : List Addr} {s s' : S} {σ σ' : L2.St} {k : AV → S → Prop} {A : AE}
/-- what `in` looks through -/
def SeqAV (s : S) (y : AV) (ds : List D) : Prop := y = .d (.lst ds) ∨ y = .d (.tup ds) ∨ y = .d (.tupK ds) ∨ ∃ n, y = .c n ∧ s.cs[n]? = some (.lst ds)
theorem seqAV_rd {y : AV} {ds : List D} {v : V} (g : G b F as s σ H) (h : SeqAV s y ds) (r : AVRep b.K F as v y) : ∃ p xs, v = .ref p ∧ (SqL b.K H p xs ∨ SqT b.K H p xs) ∧ Reps b.K F xs ds := by
  rcases h with rfl | rfl | rfl | ⟨n, rfl, hc⟩
  · obtain ⟨a, xs, rfl, h1, h2⟩ := Rep.lst_inv r
    exact ⟨a, xs, rfl, .inl (.inl (.inl (g.gm.fh _ _ h1))), h2⟩
  · obtain ⟨a, xs, rfl, h1, h2⟩ := Rep.tup_inv r
    exact ⟨a, xs, rfl, .inr (.inl (.inl (g.gm.fh _ _ h1))), h2⟩
  · obtain ⟨a, xs, rfl, h1, h2⟩ := Rep.tupK_inv r
    exact ⟨a, xs, rfl, .inr (h1 H), h2⟩
  · obtain ⟨a, xs, rfl, _, h1, h2, _⟩ := g.lst hc r
    exact ⟨a, xs, rfl, .inl (.inl (.inl h1)), h2⟩
theorem ro_in {neg : Bool} {d : D} {y : AV} {ds : List D} (hy : SeqAV s y ds) (hd : flatD d = true) (hds : ds.all flatD = true) (hk : k (.d (.bl (if neg then !inD d ds else inD d ds))) s) : RO b (rIn b.K neg) (.d d) y s k := fun F as σ H v w g r1 r2 Q q => by
  obtain ⟨p, xs, rfl, hq, hr⟩ := seqAV_rd g hy r2
  obtain ⟨e1, e2⟩ := rep_fv r1 hd
  obtain ⟨e3, e4⟩ := reps_fv hr hds
  refine ⟨p, xs, rfl, hq, e2, e4, ?_⟩
  rw [e1, e3]
  exact q _ _ s F as H hk g (.refl F) (.refl as) (Rep.bl _)
theorem inV_int (p : Int) (l : List Int) : inV (.int p) (l.map V.int) = decide (p ∈ l) := by
  unfold inV
  induction l with
  | nil => rfl
  | cons x l ih =>
    rw [List.map_cons, List.any_cons, ih]
    show ((x == p) || decide (p ∈ l)) = decide (p ∈ x :: l)
    by_cases h : x = p
    · subst h
      simp
    · have h1 : (x == p) = false := by simpa using h
      rw [h1, Bool.false_or]
      have : p ∈ x :: l ↔ p ∈ l := ⟨fun z => (List.mem_cons.mp z).elim (fun e => absurd e.symm h) id, List.mem_cons_of_mem _⟩
      simp only [this]
theorem inD_nat (p : Nat) (l : List Nat) : inD (.int p) (natD l) = decide (p ∈ l) := by
  unfold inD
  have e : (natD l).map fvD = (l.map fun (i : Nat) => (i : Int)).map V.int := by
    unfold natD
    rw [List.map_map, List.map_map]
    rfl
  rw [e]
  show inV (.int (p : Int)) _ = _
  rw [inV_int]
  have : (p : Int) ∈ l.map (fun (i : Nat) => (i : Int)) ↔ p ∈ l := by
    rw [List.mem_map]
    exact ⟨fun ⟨a, h1, h2⟩ => by rw [← Int.ofNat.inj h2]; exact h1, fun h => ⟨p, h, rfl⟩⟩
  simp only [this]
theorem natD_flat (l : List Nat) : (natD l).all flatD = true := by
  rw [List.all_eq_true]
  intro d hd
  obtain ⟨i, _, rfl⟩ := List.mem_map.mp hd
  rfl
/-- p in a row of numbers -/
theorem ro_inN {neg : Bool} {p : Nat} {y : AV} {l : List Nat} (hy : SeqAV s y (natD l)) (hk : k (.d (.bl (if neg then !decide (p ∈ l) else decide (p ∈ l)))) s) : RO b (rIn b.K neg) (.d (.int (p : Nat))) y s k :=
  ro_in hy rfl (natD_flat l) (by rw [inD_nat]; exact hk)
theorem ro_ip {f : Int → Int → Int} {i j : Int} (hk : k (.d (.int (f i j))) s) : RO b (ipI f) (.d (.int i)) (.d (.int j)) s k := fun F as σ H v w gg r1 r2 Q q =>
  ⟨i, j, Rep.int_inv r1, Rep.int_inv r2, q _ _ s F as H hk gg (.refl F) (.refl as) (Rep.int _)⟩
theorem ro_strcat {x y : Str} (hl : x.length + y.length ≤ sizeLine) (hk : k (.d (.str (x ++ y))) s) : RO b (fun x y H Q => ∃ i j, x = .str i ∧ y = .str j ∧ i.length + j.length ≤ sizeLine ∧ Q (.str (i ++ j)) H) (.d (.str x)) (.d (.str y)) s k := fun F as σ H v w g r1 r2 Q q =>
  ⟨x, y, Rep.str_inv r1, Rep.str_inv r2, hl, q _ _ s F as H hk g (.refl F) (.refl as) (Rep.str _)⟩
/-- a pair of a key and a datum -/
def pairD (kv : Key × D) : D := .tup [keyD kv.1, kv.2]
theorem pairs_reps {a1 : List Addr} : ∀ {kds : List (Key × D)} {xs : List V}, Reps b.K F xs (kds.map pairD) → G b F a1 s σ H → ∃ (ps : List Addr) (kvs : List (Key × V)), xs = ps.map V.ref ∧ Paired (fun p kv => SqT b.K H p [kV kv.1, kv.2]) ps kvs ∧ DReps b.K F kvs kds
  | [], _, .nil, _ => ⟨[], [], rfl, .nil, rfl, .nil⟩
  | (key, d) :: kds, _, .cons h r, g => by
    obtain ⟨ps, kvs, e1, e2, e3⟩ := pairs_reps r g
    obtain ⟨a, ys, rfl, h1, h2⟩ := Rep.tup_inv h
    cases h2 with
    | cons h3 h4 =>
      cases h4 with
      | cons h5 h6 =>
        cases h6
        have ek := rep_key h3
        subst ek
        rename_i w
        refine ⟨a :: ps, (key, w) :: kvs, by rw [List.map_cons, e1], .cons (.inl (.inl (g.gm.fh _ _ h1))) e2, ?_, .cons h5 e3.2⟩
        rw [List.map_cons, List.map_cons, e3.1]
/-- dict(pairs), as data -/
theorem rc_dictP {kds : List (Key × D)} (hk : k (.d (.dK (mergeD [] kds))) s) : RC b (fun xs H Q => ∃ (a : Addr) (ps : List Addr) (kvs : List (Key × V)), xs = [.ref a] ∧ SqL b.K H a (ps.map V.ref) ∧ Paired (fun p kv => SqT b.K H p [kV kv.1, kv.2]) ps kvs ∧ ∀ p, H p = none → Q (.ref p) (upd H p (.dK (mergeK [] kvs)))) [.d (.lst (kds.map pairD))] s k := fun F as σ H vs g r Q q => by
  cases r with
  | cons r1 r2 =>
    cases r2
    obtain ⟨a, xs, rfl, h1, h2⟩ := Rep.lst_inv r1
    obtain ⟨ps, kvs, rfl, h3, h4⟩ := pairs_reps h2 g
    refine ⟨a, ps, kvs, rfl, .inl (.inl (g.gm.fh _ _ h1)), h3, fun p hp => ?_⟩
    obtain ⟨m, e⟩ := g.gm.fz (o := .dK (mergeK [] kvs)) hp
    have dr : DReps b.K F (mergeK [] kvs) (mergeD [] kds) := dreps_merge h4 ⟨rfl, .nil⟩
    exact q (.ref p) _ s _ as _ hk (g.of m e (.refl as) rfl) e (.refl as) (.dK (.inl upd_same) dr.1 (dr.2.mono e))
theorem mergeD_new : ∀ {more kds : List (Key × D)}, ((kds ++ more).map (·.1)).Nodup → mergeD kds more = kds ++ more
  | [], kds, _ => by rw [List.append_nil]; rfl
  | kv :: more, kds, nd => by
    show mergeD (putD kds kv.1 kv.2) more = _
    have hn : lkD kds kv.1 = none := by
      cases q : lkD kds kv.1 with
      | none => rfl
      | some d =>
        exfalso
        unfold lkD at q
        obtain ⟨p, hp, _⟩ := Option.map_eq_some_iff.mp q
        have hm := List.mem_of_find?_eq_some hp
        have he : p.1 = kv.1 := of_decide_eq_true (List.find?_some (p := fun kv_1 : Key × D => decide (kv_1.1 = kv.1)) hp)
        rw [List.map_append] at nd
        have := (List.nodup_append.mp nd).2.2 p.1 (List.mem_map.mpr ⟨p, hm, rfl⟩) kv.1 (List.mem_map.mpr ⟨kv, List.mem_cons_self, rfl⟩)
        exact this he
    rw [putD_new hn, mergeD_new (by rw [List.append_assoc]; exact nd), List.append_assoc]
    rfl
end
-- ### numbers of the places of a row
/-- place → number -/
def numK : Nat → List Nat → List (Key × D)
  | _, [] => []
  | i, x :: l => (.inl (x : Int), .int (i : Nat)) :: numK (i + 1) l
theorem numK_keys : ∀ (l : List Nat) (i : Nat), (numK i l).map (·.1) = l.map fun (x : Nat) => (Sum.inl (x : Int) : Key)
  | [], _ => rfl
  | x :: l, i => by
    show (_ :: _) = _
    rw [numK_keys l (i + 1)]
    rfl
theorem numK_append : ∀ (l m : List Nat) (i : Nat), numK i (l ++ m) = numK i l ++ numK (i + l.length) m
  | [], m, i => by rw [List.nil_append, List.length_nil, Nat.add_zero]; rfl
  | x :: l, m, i => by
    show (_ :: numK (i + 1) (l ++ m)) = (_ :: (numK (i + 1) l ++ _))
    rw [numK_append l m (i + 1), List.length_cons]
    rw [show i + 1 + l.length = i + (l.length + 1) by omega]
theorem numK_look : ∀ {l : List Nat} {i x : Nat}, x ∈ l → lkD (numK i l) (.inl (x : Int)) = some (.int ((i + l.idxOf x : Nat) : Int))
  | y :: l, i, x, h => by
    show lkD ((Sum.inl (y : Int), D.int (i : Nat)) :: numK (i + 1) l) _ = _
    rw [lkD_cons, List.idxOf_cons]
    by_cases e : y = x
    · subst e
      rw [if_pos rfl]
      simp
    · have e1 : ¬ (Sum.inl (y : Int) : Key) = Sum.inl (x : Int) := fun z => e (Int.ofNat.inj (Sum.inl.inj z))
      rw [if_neg e1, numK_look ((List.mem_cons.mp h).resolve_left fun z => e z.symm)]
      have : (y == x) = false := by simpa using e
      rw [this]
      simp only [cond_false]
      rw [show i + 1 + List.idxOf x l = i + (List.idxOf x l + 1) by omega]
theorem key_inj_nat {l : List Nat} (nd : l.Nodup) : (l.map fun (x : Nat) => (Sum.inl (x : Int) : Key)).Nodup := by
  rw [List.nodup_iff_pairwise_ne] at nd ⊢
  rw [List.pairwise_map]
  exact nd.imp fun h z => h (Int.ofNat.inj (Sum.inl.inj z))
end KW

namespace KW
open PySem PySem.Spec PyProof.Rows L2
/-- x is True, x None or a truth value -/
def rIsTF : R2 := fun x y H Q => ∃ b : Bool, y = .bl b ∧ ((x = .non ∧ Q (.bl false) H) ∨ ∃ a : Bool, x = .bl a ∧ Q (.bl (decide (a = b))) H)
theorem op_isTF {X : Cx} : OpR X (compareOp .Is) rIsTF := by
  intro pins s σ H x y v u Q I rx ry h
  obtain ⟨b, rfl, ⟨rfl, q⟩ | ⟨a, rfl, q⟩⟩ := h
  · have e1 : v = .none := rx
    have e2 : u = .bool b := ry
    subst e1 e2
    exact PySem.wpAny_is_other rfl (fun z => nomatch z) ⟨.bl false, H, I, rfl, q⟩
  · exact op_is_bl pins s σ H (.bl a) (.bl b) v u Q I rx ry ⟨a, b, rfl, rfl, q⟩
section
variable {b : Bx} {F F' H H' : Hp} {as as' : List Addr} {s s' : S} {σ σ' : L2.St} {k : AV → S → Prop} {A : AE}
theorem ro_isTF0 {c : Bool} (hk : k (.d (.bl false)) s) : RO b rIsTF (.d .non) (.d (.bl c)) s k := fun F as σ H v w g r1 r2 Q q =>
  ⟨c, Rep.bl_inv r2, .inl ⟨Rep.non_inv r1, q _ _ s F as H hk g (.refl F) (.refl as) (Rep.bl _)⟩⟩
theorem ro_isTF1 {a c : Bool} (hk : k (.d (.bl (decide (a = c)))) s) : RO b rIsTF (.d (.bl a)) (.d (.bl c)) s k := fun F as σ H v w g r1 r2 Q q =>
  ⟨c, Rep.bl_inv r2, .inr ⟨a, Rep.bl_inv r1, q _ _ s F as H hk g (.refl F) (.refl as) (Rep.bl _)⟩⟩
end
end KW

namespace KW
open PySem PySem.Spec PyProof.Rows L2
theorem tup_once (l : Addr) (vs : Array Value) (n : Nat) (dd : Option Addr) (sl : Array (Option Value)) (u : Tok) :
    Meets (Builtin.«tuple.__mul__» ⟨[.ref l, .int 1 u], []⟩) (fun _ R s => s.heap.get? l = some { cls := .type "tuple", dict := dd, data := .seq vs n, slots := sl } ∧ R (.ok (.ret (Value.ref l))) s) :=
  .of_wp fun prog w A R s h => by
    obtain ⟨hp, g, d, tk, os⟩ := s
    obtain ⟨hl, h⟩ := h
    have f1 := AutoSeq1.idx_int
    wp_walk using wpAny_loadPart' hl
    exact ⟨_, rfl, h⟩
/-- t * k, k at least one -/
def rRepA (K : PySem.W.Frag) : R2 := fun x y H Q => ∃ l k xs, x = .ref l ∧ y = .int k ∧ SqT K H l xs ∧ xs ≠ [] ∧ 1 ≤ k ∧ k ≤ 1000 ∧ xs.length ≤ 1000 ∧ (k = 1 → Q (.ref l) H) ∧ (2 ≤ k → ∀ p, H p = none → Q (.ref p) (upd H p (.tup (List.replicate k.toNat xs).flatten)))
theorem op_repA {X : Cx} : OpR X (binaryOp .Mult) (rRepA X.K) := by
  intro pins s σ H x y v u Q I rx ry h
  obtain ⟨l, k, xs, rfl, rfl, hT, hne, h1, h2, hz, q1, q2⟩ := h
  by_cases hk : k = 1
  · subst hk
    cases rx
    obtain ⟨t, rfl⟩ := ry
    obtain ⟨its, r, ⟨⟨cls, dd, data, sl⟩, ho, hc, n, hd⟩, hs⟩ := I.tuple hT
    simp only at hc hd
    subst hc hd
    have m1 := int_rmul_tuple 1 t l its.toArray n dd sl
    have m2 := tup_once l its.toArray n dd sl t
    have t1 : s.TypeIs (.ref l) "tuple" := ⟨_, ho, rfl⟩
    refine wpAny_binaryOp_repeat_ref (T := "tuple") (U := "int") (by decide) t1 (fun z => typeIs_int z 1 t) noFill_tuple_mul F.fills_int_mul F.slot_int_rmul repeat_tuple F.slot_int_index.lookup ?_
    refine call_meets F.slot_int_rmul (typeIs_int s 1 t) F.entry_int_rmul (F.args_int_rmul_2 _ _) m1 ⟨ho, rfl, t1, ?_⟩
    refine call_meets F.slot_tuple_mul t1 F.entry_tuple_mul (F.args_tuple_mul_2 _ _) m2 ⟨ho, ?_⟩
    exact ⟨.ref l, H, I, rfl, q1 rfl⟩
  · exact op_repT pins s σ H (.ref l) (.int k) v u Q I rx ry ⟨l, k, xs, rfl, rfl, hT, hne, by omega, h2, hz, q2 (by omega)⟩
section
variable {b : Bx} {F F' H H' : Hp} {as as' : List Addr} {s s' : S} {σ σ' : L2.St} {k : AV → S → Prop} {A : AE}
theorem reps_flatten {K : PySem.W.Frag} {xs : List V} {ds : List D} (h : Reps K F xs ds) : ∀ n, Reps K F (List.replicate n xs).flatten (List.replicate n ds).flatten := fun n => by
  induction n with
  | zero => exact .nil
  | succ n ih =>
    rw [List.replicate_succ, List.replicate_succ, List.flatten_cons, List.flatten_cons]
    exact h.append ih
theorem ro_repA {ds : List D} {i : Int} (hne : ds ≠ []) (h0 : 1 ≤ i) (h1 : i ≤ 1000) (hl : ds.length ≤ 1000) (hk : k (.d (.tup (List.replicate i.toNat ds).flatten)) s) : RO b (rRepA b.K) (.d (.tup ds)) (.d (.int i)) s k := fun F as σ H v w g r1 r2 Q q => by
  obtain ⟨a, xs, rfl, h2, h3⟩ := Rep.tup_inv r1
  obtain rfl := Rep.int_inv r2
  have hx : xs ≠ [] := fun z => hne (by
    subst z
    exact List.eq_nil_of_length_eq_zero h3.length.symm)
  refine ⟨a, i, xs, rfl, rfl, .inl (.inl (g.gm.fh _ _ h2)), hx, h0, h1, by rw [h3.length]; exact hl, fun e => ?_, fun _ p hp => ?_⟩
  · subst e
    refine q _ _ s F as H hk g (.refl F) (.refl as) ?_
    have : (List.replicate (1 : Int).toNat ds).flatten = ds := by
      show (List.replicate 1 ds).flatten = ds
      simp
    rw [this]
    exact .tup h2 h3
  · obtain ⟨g', e, r⟩ := fz_tup g hp (reps_flatten h3 i.toNat)
    exact q _ _ _ _ _ _ hk g' e (.refl as) r
/-- tuple + tuple -/
theorem ro_catA {ds es : List D} (hl : ds.length + es.length ≤ sizeLine) (hk : k (.d (.tup (ds ++ es))) s) : RO b (rCatA b.K) (.d (.tup ds)) (.d (.tup es)) s k := fun F as σ H v w g r1 r2 Q q => by
  obtain ⟨a, xs, rfl, h1, h2⟩ := Rep.tup_inv r1
  obtain ⟨c, ys, rfl, h3, h4⟩ := Rep.tup_inv r2
  refine ⟨a, c, xs, ys, rfl, rfl, .inl (.inl (g.gm.fh _ _ h1)), .inl (.inl (g.gm.fh _ _ h3)), by rw [h2.length, h4.length]; exact hl, fun e => ?_, fun _ e => ?_, fun _ _ p hp => ?_⟩
  · subst e
    have : ds = [] := List.eq_nil_of_length_eq_zero h2.length.symm
    subst this
    exact q _ _ s F as H hk g (.refl F) (.refl as) (.tup h3 h4)
  · subst e
    have : es = [] := List.eq_nil_of_length_eq_zero h4.length.symm
    subst this
    rw [List.append_nil] at hk
    exact q _ _ s F as H hk g (.refl F) (.refl as) (.tup h1 h2)
  · obtain ⟨g', e, r⟩ := fz_tup g hp (h2.append h4)
    exact q _ _ _ _ _ _ hk g' e (.refl as) r
-- ### slices
def WO (b : Bx) (po : L2.St → Hp → (Option Int → Hp → Prop) → Prop) (s : S) (kk : Option Int → S → Prop) : Prop := ∀ F as σ H, G b F as s σ H → ∀ Q : Option Int → Hp → Prop,
  (∀ o s' F' as' H', kk o s' → G b F' as' s' σ H' → Ex F F' → Pre as as' → Q o H') → po σ H Q
theorem wo_none {kk : Option Int → S → Prop} (h : kk none s) : WO b tNoPart s kk := fun F as σ H g Q q => q none s F as H h g (.refl F) (.refl as)
theorem wo_some {te : TE} {kk : Option Int → S → Prop} (h : WE b te s fun x s1 => ∃ i, x = .d (.int i) ∧ kk (some i) s1) : WO b (tPart te) s kk := fun F as σ H g Q q =>
  h F as σ H g _ fun v x s1 F1 as1 H1 h1 g1 e1 p1 r1 => by
    obtain ⟨i, rfl, hk⟩ := h1
    exact ⟨i, Rep.int_inv r1, q _ s1 F1 as1 H1 hk g1 e1 p1⟩
def cutD (ds : List D) (lo hi : Option Int) : List D := (ds.drop (HT.sIx ds.length 0 lo)).take (HT.sIx ds.length ds.length hi - HT.sIx ds.length 0 lo)
/-- t[lo:hi] of a tuple -/
theorem we_sliceA {te : TE} {tl th : L2.St → Hp → (Option Int → Hp → Prop) → Prop} (h : WE b te s fun x s1 => WO b tl s1 fun lo s2 => WO b th s2 fun hi s3 => ∃ ds, x = .d (.tup ds) ∧ k (.d (.tup (cutD ds lo hi))) s3) : WE b (tSl (rSlA b.K) te tl th) s k := fun F as σ H g Q q =>
  h F as σ H g _ fun v x s1 F1 as1 H1 h1 g1 e1 p1 r1 => h1 F1 as1 σ H1 g1 _ fun lo s2 F2 as2 H2 h2 g2 e2 p2 => h2 F2 as2 σ H2 g2 _ fun hi s3 F3 as3 H3 h3 g3 e3 p3 => by
    obtain ⟨ds, rfl, hk⟩ := h3
    obtain ⟨a, xs, rfl, h4, h5⟩ := Rep.tup_inv (r1.mono (e2.trans e3) (p2.trans p3))
    have hl := h5.length
    refine ⟨a, xs, rfl, .inl (.inl (g3.gm.fh _ _ h4)), fun e => ?_, fun _ p hp => ?_⟩
    · have ec : cutD ds lo hi = ds := by
        unfold cutD
        rw [← hl, e.1, e.2, List.drop_zero, hl, Nat.sub_zero, List.take_length]
      rw [ec] at hk
      exact q _ _ s3 F3 as3 H3 hk g3 ((e1.trans e2).trans e3) ((p1.trans p2).trans p3) (.tup h4 h5)
    · have hr : Reps b.K F3 (cutV xs lo hi) (cutD ds lo hi) := by
        unfold cutV cutD
        rw [hl]
        exact (h5.drop _).take _
      obtain ⟨g', e, r⟩ := fz_tup g3 hp hr
      exact q _ _ _ _ _ _ hk g' (((e1.trans e2).trans e3).trans e) ((p1.trans p2).trans p3) r
theorem cutD_from (ds : List D) (i : Nat) : cutD ds (some (i : Int)) none = ds.drop i := by
  unfold cutD
  rw [HT.sIx_nat, HT.sIx_none]
  by_cases h : i ≤ ds.length
  · rw [Nat.min_eq_left h, List.take_of_length_le (by rw [List.length_drop]; omega)]
  · rw [Nat.min_eq_right (by omega), List.drop_of_length_le (Nat.le_refl _), List.drop_of_length_le (by omega), List.take_nil]
theorem cutD_to (ds : List D) (i : Nat) : cutD ds none (some (i : Int)) = ds.take i := by
  unfold cutD
  rw [HT.sIx_nat, HT.sIx_none, List.drop_zero, Nat.sub_zero]
  by_cases h : i ≤ ds.length
  · rw [Nat.min_eq_left h]
  · rw [Nat.min_eq_right (by omega), List.take_of_length_le (Nat.le_refl _), List.take_of_length_le (by omega)]
/-- list + list as a cell -/
theorem ro_catC {ds es : List D} (hl : ds.length + es.length ≤ sizeLine) (hk : k (.c s.cs.length) (s.new (.lst (ds ++ es)))) : RO b rCat (.d (.lst ds)) (.d (.lst es)) s k := fun F as σ H v w g r1 r2 Q q => by
  obtain ⟨a, xs, rfl, h1, h2⟩ := Rep.lst_inv r1
  obtain ⟨c, ys, rfl, h3, h4⟩ := Rep.lst_inv r2
  refine ⟨a, c, xs, ys, rfl, rfl, g.gm.fh _ _ h1, g.gm.fh _ _ h3, by rw [h2.length, h4.length]; exact hl, fun p hp => ?_⟩
  obtain ⟨g', r⟩ := nc_lst g hp (h2.append h4)
  exact q _ _ _ _ _ _ hk g' (.refl F) (.snoc as p) r
/-- [x] * k as data -/
theorem ro_repD {ds : List D} {i : Int} (h0 : -(2 ^ 63) ≤ i) (h1 : i < 2 ^ 63) (hl : ds.length * i.toNat ≤ sizeLine) (hk : k (.d (.lst (List.replicate i.toNat ds).flatten)) s) : RO b rRep (.d (.lst ds)) (.d (.int i)) s k := fun F as σ H v w g r1 r2 Q q => by
  obtain ⟨a, xs, rfl, h2, h3⟩ := Rep.lst_inv r1
  obtain rfl := Rep.int_inv r2
  refine ⟨a, i, xs, rfl, rfl, g.gm.fh _ _ h2, h0, h1, by rw [h3.length]; exact hl, fun p hp => ?_⟩
  obtain ⟨g', e, r⟩ := fz_lst g hp (reps_flatten h3 i.toNat)
  exact q _ _ _ _ _ _ hk g' e (.refl as) r
/-- a call with the deck (the first cell) and data, that hands the deck back -/
theorem we_deck {α : Type} {pre : α → List AV → CO → Prop} {res : α → D → CO → Prop} {E : L2.St → XK} {ta : TA} (h : WA b ta s fun xs s1 => s1.cs[0]? = some .deck ∧ ∃ (a : α) (ds : List D), xs = .c 0 :: ds.map .d ∧ pre a (.c 0 :: ds.map .d) .deck ∧ ∀ d co', res a d co' → co' = .deck ∧ k (.d d) s1) : WE b (tCallS (spC b.K pre res) E ta) s k :=
  we_callCC 0 fun F as σ H g Q q => h F as σ H g Q fun vs avs s' F' as' H' z => q vs avs s' F' as' H' (by
    obtain ⟨h1, a, ds, rfl, h2, h3⟩ := z
    refine ⟨.deck, h1, trivial, trivial, fun j hj => ?_, a, ?_, fun d co' hd => ?_⟩
    · rcases List.mem_cons.mp hj with h | h
      · injection h
      · obtain ⟨_, _, z⟩ := List.mem_map.mp h
        cases z
    · have e : (AV.c 0 :: ds.map AV.d).map (re1 0) = .c 0 :: ds.map .d := by
        rw [List.map_cons, List.map_map]
        refine congr (congrArg List.cons ?_) ?_
        · rfl
        · exact List.map_congr_left fun x _ => rfl
      first | (rw [e]; exact h2) | exact h2
    · obtain ⟨rfl, hk⟩ := h3 d co' hd
      refine ⟨trivial, trivial, ?_⟩
      rw [S.put_eq h1]
      exact hk)
end
end KW

-- sorted over data.
namespace KW
open PySem PySem.Spec PyProof.Rows L2 PySem.W
/-- not above, for data -/
def leD (a b : D) : Bool := dataLe false pyD a b
def rSortedD (K : PySem.W.Frag) : List V → Hp → VK → Prop := fun vs H Q => ∃ (a : Addr) (bs : List (V × D)), vs = [V.ref a] ∧ SqL K H a (bs.map (·.1)) ∧ (∀ b ∈ bs, Dp K H b.1 (pyD b.2)) ∧ AllAlike (bs.map fun b => pyD b.2) ∧ Sortable (bs.map fun b => pyD b.2) ∧
  (∀ b ∈ bs, (pyD b.2).depth ≤ 60) ∧ ∀ p, H p = none → Q (.ref p) (upd H p (.lst ((bs.mergeSort fun a b => leD a.2 b.2).map (·.1))))
theorem each_rel : ∀ {bs : List (V × D)} {us : List Value}, Vals (bs.map (·.1)) us → EachIs (fun v (b : V × D) => RelV b.1 v) us bs
  | [], _, r => by cases r; exact .nil
  | b :: bs, _, r => by
    cases r with
    | cons h t => exact .cons h (each_rel t)
theorem rel_each : ∀ {bs : List (V × D)} {us : List Value}, EachIs (fun v (b : V × D) => RelV b.1 v) us bs → Vals (bs.map (·.1)) us
  | [], _, r => by cases r; exact .nil
  | b :: bs, _, r => by
    cases r with
    | cons h t => exact .cons h (rel_each t)
theorem each_and {R S : Value → V × D → Prop} : ∀ {bs : List (V × D)} {us : List Value}, EachIs R us bs → (∀ v, ∀ b ∈ bs, R v b → S v b) → EachIs S us bs
  | [], _, r, _ => by cases r; exact .nil
  | b :: bs, _, r, h => by
    cases r with
    | cons h1 t => exact .cons (h _ _ List.mem_cons_self h1) (each_and t fun v b hb => h v b (List.mem_cons_of_mem _ hb))
theorem cr_sortedD {X : Cx} (hu : X.A.units + 65 < cLine) : CallR X (.builtin "sorted") (rSortedD X.K) := by
  intro pins s σ H vs us Q I r h
  obtain ⟨a, bs, rfl, hs, hd, hal, hk, hdp, q⟩ := h
  obtain ⟨its, rv, hl, hz⟩ := I.list hs
  rw [Vals.ref1 r]
  have e := each_rel rv
  have er : EachIs (fun v (b : V × D) => ∃ as, Reads s.heap v (pyD b.2) as) its bs := each_and e fun v b hb hr => Dp.reads I (pyD b.2) b.1 v (hd b hb) hr
  have hlen : bs.length ≤ sizeLine := by rw [List.length_map] at hz; exact hz
  refine sorted_data (R := fun v (b : V × D) => RelV b.1 v) (enc := fun b => pyD b.2) hl.isList e er hal hk hlen (fun b hb => by have := hdp b hb; omega) fun out ho he => ?_
  obtain ⟨ep, hp⟩ := PyProof.Rows.sortedAll_at s.heap its out.toArray
  have ee : (dataLe false fun b : V × D => pyD b.2) = fun a b => leD a.2 b.2 := rfl
  rw [ee] at he
  have hz2 : ((bs.mergeSort fun a b => leD a.2 b.2).map (·.1)).length ≤ sizeLine := by rw [List.length_map, List.length_mergeSort]; exact hlen
  exact ⟨.ref _, upd H (s.heap.objs.size + 1) (.lst ((bs.mergeSort fun a b => leD a.2 b.2).map (·.1))), I.laid (t' := s.toks) (fun _ _ => PyProof.Rows.sortedAll_old) (Nat.le_succ _) ⟨hz2, out, ep, rel_each he, hp⟩, rfl, q _ (I.hok.fresh (Nat.le_succ _))⟩
-- ### over the abstract store
theorem reps_zip {K : PySem.W.Frag} {F : Hp} : ∀ {vs : List V} {ds : List D}, Reps K F vs ds → (vs.zip ds).map (·.1) = vs ∧ (vs.zip ds).map (·.2) = ds ∧ ∀ b ∈ vs.zip ds, Rep K F b.1 b.2
  | _, _, .nil => ⟨rfl, rfl, fun b hb => by cases hb⟩
  | _, _, .cons h t => by
    obtain ⟨h1, h2, h3⟩ := reps_zip t
    refine ⟨by rw [List.zip_cons_cons, List.map_cons, h1], by rw [List.zip_cons_cons, List.map_cons, h2], fun b hb => ?_⟩
    rw [List.zip_cons_cons] at hb
    rcases List.mem_cons.mp hb with rfl | hb
    · exact h
    · exact h3 b hb
theorem reps_of {K : PySem.W.Frag} {F : Hp} : ∀ {bs : List (V × D)}, (∀ b ∈ bs, Rep K F b.1 b.2) → Reps K F (bs.map (·.1)) (bs.map (·.2))
  | [], _ => .nil
  | b :: bs, h => .cons (h b List.mem_cons_self) (reps_of fun c hc => h c (List.mem_cons_of_mem _ hc))
def srtD (ds : List D) : List D := ds.mergeSort leD
/-- what can be sorted -/
structure SortOk (ds : List D) : Prop where
  al : AllAlike (ds.map pyD)
  so : Sortable (ds.map pyD)
  pl : ∀ d ∈ ds, plainD d = true
  dp : ∀ d ∈ ds, (pyD d).depth ≤ 60
section
variable {b : Bx} {F F' H H' : Hp} {as as' : List Addr} {s s' : S} {σ σ' : L2.St} {k : AV → S → Prop} {A : AE}
theorem rc_sortedD {ds : List D} {y : AV} (hy : y = .d (.lst ds) ∨ ∃ n, y = .c n ∧ s.cs[n]? = some (.lst ds)) (h : SortOk ds) (hk : k (.d (.lst (srtD ds))) s) : RC b (rSortedD b.K) [y] s k := fun F as σ H vs g r Q q => by
  cases r with
  | cons r1 r2 =>
    cases r2
    rename_i v0
    obtain ⟨a, xs, rfl, h1, h2⟩ : ∃ a xs, v0 = V.ref a ∧ SqL b.K H a xs ∧ Reps b.K F xs ds := by
      rcases hy with rfl | ⟨n, rfl, hc⟩
      · obtain ⟨a, xs, rfl, h1, h2⟩ := Rep.lst_inv r1
        exact ⟨a, xs, rfl, .inl (.inl (g.gm.fh _ _ h1)), h2⟩
      · obtain ⟨a, xs, rfl, _, h1, h2, _⟩ := g.lst hc r1
        exact ⟨a, xs, rfl, .inl (.inl h1), h2⟩
    obtain ⟨z1, z2, z3⟩ := reps_zip h2
    have e2 : (xs.zip ds).map (fun b => pyD b.2) = ds.map pyD := by
      have := congrArg (List.map pyD) z2
      rw [List.map_map] at this
      exact this
    have mem2 : ∀ c ∈ xs.zip ds, c.2 ∈ ds := fun c hc => by
      have : c.2 ∈ (xs.zip ds).map (·.2) := List.mem_map.mpr ⟨c, hc, rfl⟩
      rw [z2] at this
      exact this
    refine ⟨a, xs.zip ds, rfl, by rw [z1]; exact h1, fun c hc => rep_dp g.gm.fh (z3 c hc) (h.pl _ (mem2 c hc)), by rw [e2]; exact h.al, by rw [e2]; exact h.so, fun c hc => h.dp _ (mem2 c hc), fun p hp => ?_⟩
    have es : ((xs.zip ds).mergeSort fun a b => leD a.2 b.2).map (·.2) = srtD ds := by
      have := sort_maps (r := fun a b : V × D => leD a.2 b.2) (s := leD) (·.2) (l := xs.zip ds) fun a _ b _ => rfl
      rw [this, z2]
      rfl
    have hr : Reps b.K F (((xs.zip ds).mergeSort fun a b => leD a.2 b.2).map (·.1)) (srtD ds) := by
      rw [← es]
      exact reps_of fun c hc => z3 c ((List.mergeSort_perm _ _).mem_iff.mp hc)
    obtain ⟨g', e, rr⟩ := fz_lst g hp hr
    exact q _ _ _ _ _ _ hk g' e (.refl as) rr
end
-- ### the order
theorem leD_total : TotalLe leD := sortLe_total _ false _
theorem srtD_perm (ds : List D) : (srtD ds).Perm ds := List.mergeSort_perm _ _
theorem srtD_sorted (ds : List D) : (srtD ds).Pairwise fun a b => leD a b = true := sort_pairwise leD_total ds
/-- rows of the same data, sorted, are one, where no two unlike are level -/
theorem srtD_eq {a b : List D} (p : a.Perm b) (anti : ∀ x ∈ a, ∀ y ∈ a, leD x y = true → leD y x = true → x = y) : srtD a = srtD b := by
  refine List.Perm.eq_of_pairwise (le := fun x y => leD x y = true) (fun x y hx hy h1 h2 => ?_) (srtD_sorted a) (srtD_sorted b) (((srtD_perm a).trans p).trans (srtD_perm b).symm)
  exact anti x ((srtD_perm a).mem_iff.mp hx) y (p.mem_iff.mpr ((srtD_perm b).mem_iff.mp hy)) h1 h2
theorem srtD_of {a b : List D} (p : b.Perm a) (hs : b.Pairwise fun x y => leD x y = true) (anti : ∀ x ∈ a, ∀ y ∈ a, leD x y = true → leD y x = true → x = y) : srtD a = b := by
  refine List.Perm.eq_of_pairwise (le := fun x y => leD x y = true) (fun x y hx hy h1 h2 => ?_) (srtD_sorted a) hs ((srtD_perm a).trans p.symm)
  exact anti x ((srtD_perm a).mem_iff.mp hx) y (p.mem_iff.mp hy) h1 h2
end KW
namespace KW
open PySem PySem.Spec PyProof.Rows L2 PySem.W
mutual
/-- data that their signs tell whole -/
def puD : D → Bool
  | .non => true
  | .bl _ => true
  | .int _ => true
  | .str _ => true
  | .tup l => puDs l
  | .lst l => puDs l
  | _ => false
def puDs : List D → Bool
  | [] => true
  | d :: l => puD d && puDs l
end
theorem toks_inj {x y : PyData} (h : alike x y = true) (e : keyToks x = keyToks y) : PyData.eqv x y = true := by
  cases q : PyData.eqv x y with
  | true => rfl
  | false =>
    exfalso
    have h2 := (toks_eqv x y h).2 q [.inl 0] [.inl 1]
    rw [e, lex_pre, show PyProof.Rows.lexLt itemOrd (keyToks y) (keyToks y) = false from (listOrd itemOrd).irrefl _] at h2
    exact absurd h2 (by decide)
mutual
theorem eqv_pure : ∀ {x y : D}, puD x = true → puD y = true → alike (pyD x) (pyD y) = true → PyData.eqv (pyD x) (pyD y) = true → x = y
  | .non, y, hx, hy, ha, he => by
    cases y <;> first | rfl | (simp [pyD, alike] at ha; done) | (simp [puD] at hy)
  | .bl a, y, hx, hy, ha, he => by
    cases y <;> first | (simp [pyD, alike] at ha; done) | (simp [puD] at hy; done) | skip
    rename_i b
    simp [pyD, PyData.eqv] at he
    rw [he]
  | .int a, y, hx, hy, ha, he => by
    cases y <;> first | (simp [pyD, alike] at ha; done) | (simp [puD] at hy; done) | skip
    rename_i b
    simp [pyD, PyData.eqv] at he
    rw [he]
  | .str a, y, hx, hy, ha, he => by
    cases y <;> first | (simp [pyD, alike] at ha; done) | (simp [puD] at hy; done) | skip
    rename_i b
    simp [pyD, PyData.eqv] at he
    rw [he]
  | .tup a, y, hx, hy, ha, he => by
    cases y <;> first | (simp [pyD, alike] at ha; done) | (simp [puD] at hy; done) | skip
    rename_i b
    simp only [pyD, PyData.eqv, alike, puD] at he ha hx hy
    rw [eqv_pures hx hy ha he]
  | .lst a, y, hx, hy, ha, he => by
    cases y <;> first | (simp [pyD, alike] at ha; done) | (simp [puD] at hy; done) | skip
    rename_i b
    simp only [pyD, PyData.eqv, alike, puD] at he ha hx hy
    rw [eqv_pures hx hy ha he]
  | .ty _, _, hx, _, _, _ => by simp [puD] at hx
  | .tupK _, _, hx, _, _, _ => by simp [puD] at hx
  | .lstS _, _, hx, _, _, _ => by simp [puD] at hx
  | .dK _, _, hx, _, _, _ => by simp [puD] at hx
  | .ins _ _, _, hx, _, _, _ => by simp [puD] at hx
  | .adr _, _, hx, _, _, _ => by simp [puD] at hx
theorem eqv_pures : ∀ {xs ys : List D}, puDs xs = true → puDs ys = true → alikeAll (pyDs xs) (pyDs ys) = true → PyData.eqvAll (pyDs xs) (pyDs ys) = true → xs = ys
  | [], [], _, _, _, _ => rfl
  | [], _ :: _, _, _, _, he => by simp [pyDs, PyData.eqvAll] at he
  | _ :: _, [], _, _, _, he => by simp [pyDs, PyData.eqvAll] at he
  | x :: xs, y :: ys, hx, hy, ha, he => by
    simp only [pyDs, PyData.eqvAll, alikeAll, puDs, Bool.and_eq_true] at he ha hx hy
    rw [eqv_pure hx.1 hy.1 ha.1 he.1, eqv_pures hx.2 hy.2 ha.2 he.2]
end
theorem leD_anti {x y : D} (hx : puD x = true) (hy : puD y = true) (ha : alike (pyD x) (pyD y) = true) (h1 : leD x y = true) (h2 : leD y x = true) : x = y := by
  refine eqv_pure hx hy ha (toks_inj ha ((listOrd itemOrd).total _ _ ?_ ?_))
  · have : (!(listOrd itemOrd).blt (keyToks (pyD x)) (keyToks (pyD y))) = true := h2
    simpa using this
  · have : (!(listOrd itemOrd).blt (keyToks (pyD y)) (keyToks (pyD x))) = true := h1
    simpa using this
end KW

-- Dicts with tuples as keys: displays, list, len, sorted.
namespace KW
open PySem PySem.Spec PyProof.Rows L2 PySem.W
/-- sorted(x), x something that is collected -/
theorem sorted_coll {X : Cx} {pins : List (Addr × Obj)} {σ : L2.St} {H : Hp} {s : Shared} {r : Addr} {bs : List (V × D)} {vs : List Value} {Q : VK} (I : L2.Inv X pins σ H s) (hu : X.A.units + 65 < cLine) (rv : Vals (bs.map (·.1)) vs)
    (hd : ∀ b ∈ bs, Dp X.K H b.1 (pyD b.2)) (hal : AllAlike (bs.map fun b => pyD b.2)) (hk : Sortable (bs.map fun b => pyD b.2)) (hdp : ∀ b ∈ bs, (pyD b.2).depth ≤ 60) (hlen : bs.length ≤ sizeLine)
    (hcoll : ∀ (R : List Value → Shared → Prop) (E' : Value → Shared → Prop), (∀ (g : Heap) (t : Nat), (∀ b o, s.heap.get? b = some o → g.get? b = some o) → R vs { s with heap := g, toks := t }) → wpAny (model X.prog X.w) X.A.in1 (collect (.ref r)) R E' s)
    (q : ∀ p, H p = none → Q (.ref p) (upd H p (.lst ((bs.mergeSort fun a b => leD a.2 b.2).map (·.1))))) : wpAny (model X.prog X.w) X.A (call (.builtin "sorted") [.ref r]) (EP X pins σ Q) X.xe s := by
  have hvl : vs.length = bs.length := by rw [← rv.length, List.length_map]
  refine Calls.call_function_entry PyProof.Rows.kind_sorted PyProof.Rows.plain_sorted PyProof.Rows.entry_sorted (PyProof.Rows.args_sorted1 _) ?_
  unfold Builtin.«sorted»
  refine wpAny_bind (m := checkCount "sorted" 1 1 _) (wpAny_pure ?_)
  refine wpAny_bind (hcoll _ _ fun g t kp => ?_)
  have I1 : L2.Inv X pins σ H { s with heap := g, toks := t } := I.kept kp
  refine wpAny_bind (wpAny_newList ?_ (by rw [hvl]; exact hlen))
  have ho : (g.push (seqObj "list" vs.toArray 0)).get? g.objs.size = some (seqObj "list" vs.toArray 0) := Heap.get?_push_size _ rfl
  show wpAny _ _ _ _ _ { s with heap := g.push (seqObj "list" vs.toArray 0), toks := t }
  have e := each_rel rv
  have er : EachIs (fun v (b : V × D) => ∃ as, Reads (sortingHeap (g.push (seqObj "list" vs.toArray 0)) g.objs.size vs) v (pyD b.2) as) vs bs := each_and e fun v b hb hr => by
    obtain ⟨as, rr⟩ := Dp.reads I (pyD b.2) b.1 v (hd b hb) hr
    refine ⟨as, PyProof.Rows.Reads.keeps (fun c o hc => ?_) rr⟩
    have hg := kp c o hc
    exact sortingHeap_old (Nat.ne_of_lt (Heap.lt_size hg)) (Heap.get?_push_of_some _ hg)
  have erm : EachIs (fun v d => ∃ as, Reads (sortingHeap (g.push (seqObj "list" vs.toArray 0)) g.objs.size vs) v d as) vs (bs.map fun b => pyD b.2) := each_map (R := fun v d => ∃ as, Reads (sortingHeap (g.push (seqObj "list" vs.toArray 0)) g.objs.size vs) v d as) (fun b : V × D => pyD b.2) er
  have S : SortsAt X.prog X.w X.A.in1.in1 { s with heap := sortingHeap (g.push (seqObj "list" vs.toArray 0)) g.objs.size vs, toks := t } (dataKind (sortingHeap (g.push (seqObj "list" vs.toArray 0)) g.objs.size vs) (bs.map fun b => pyD b.2)) vs :=
    SortsAt.data (s := { s with heap := sortingHeap (g.push (seqObj "list" vs.toArray 0)) g.objs.size vs, toks := t }) erm hal hk fun d hd2 => by
      obtain ⟨b, hb, rfl⟩ := List.mem_map.mp hd2
      have h1 := hdp b hb
      show X.A.units + 1 + 1 + (pyD b.2).depth < cLine
      omega
  have ey := sortVals_data (R := fun v (b : V × D) => RelV b.1 v) (enc := fun b => pyD b.2) false e er hal
  have ee : (dataLe false fun b : V × D => pyD b.2) = fun a b => leD a.2 b.2 := rfl
  rw [ee] at ey
  refine wpAny_bind (wpAny_holding (wpAny_call_entry PyProof.Rows.slot_list_sort ⟨_, ho, rfl⟩ PyProof.Rows.entry_list_sort (list_sort_vals (s := { s with heap := g.push (seqObj "list" vs.toArray 0), toks := t }) ho S (by rw [hvl]; exact hlen) ⟨_, rfl, ?_⟩) (PyProof.Rows.args_list_sort _)))
  obtain ⟨ep, hp⟩ := PyProof.Rows.sortedHeap_at (vs := vs) (out := (sortVals (dataKind (sortingHeap (g.push (seqObj "list" vs.toArray 0)) g.objs.size vs) (bs.map fun b => pyD b.2)) false vs vs).toArray) ho
  have hz2 : ((bs.mergeSort fun a b => leD a.2 b.2).map (·.1)).length ≤ sizeLine := by rw [List.length_map, List.length_mergeSort]; exact hlen
  refine wpAny_pure ⟨_, rfl, .ref g.objs.size, upd H g.objs.size (.lst ((bs.mergeSort fun a b => leD a.2 b.2).map (·.1))), I1.laid (t' := t) (fun b u eb => ?_) (Nat.le_refl _) ⟨hz2, _, ep, rel_each ey, hp⟩, rfl, q _ (I1.hok.fresh (Nat.le_refl _))⟩
  have hb : b < g.objs.size := Heap.lt_size eb
  rw [PyProof.Rows.sortedHeap_old (Nat.ne_of_lt hb) (by rw [size_push']; exact Nat.lt_succ_of_lt hb)]
  exact Heap.get?_push_of_some _ eb
/-- the key tuples, as data -/
def keysD {α : Type} (kvs : List (List Key × α)) : List D := kvs.map fun p => D.tup (p.1.map keyD)
def rSortedDT (K : PySem.W.Frag) : List V → Hp → VK → Prop := fun vs H Q => ∃ (a : Addr) (kvs : List (List Key × V)), vs = [V.ref a] ∧ Rd H a (.dT kvs) ∧ AllAlike ((keysD kvs).map pyD) ∧ Sortable ((keysD kvs).map pyD) ∧ (∀ d ∈ keysD kvs, (pyD d).depth ≤ 60) ∧
  ∀ p bs, H p = none → IsKeys H kvs bs → Q (.ref p) (upd H p (.lst ((((bs.map V.ref).zip (keysD kvs)).mergeSort fun a b => leD a.2 b.2).map (·.1))))
theorem key_rep {K : PySem.W.Frag} {F : Hp} (k : Key) : Rep K F (kV k) (keyD k) := by
  cases k with
  | inl i => exact .int i
  | inr x => exact .str x
theorem keys_rep {K : PySem.W.Frag} {F : Hp} : ∀ ks : List Key, Reps K F (ks.map kV) (ks.map keyD)
  | [] => .nil
  | k :: ks => .cons (key_rep k) (keys_rep ks)
theorem plain_key (k : Key) : plainD (keyD k) = true := by
  cases k <;> rfl
theorem plain_keys (ks : List Key) : plainD (.tup (ks.map keyD)) = true := by
  show plainDs _ = true
  rw [plainDs_all, List.all_eq_true]
  intro d hd
  obtain ⟨k, _, rfl⟩ := List.mem_map.mp hd
  exact plain_key k
theorem paired_zip {H : Hp} {K : PySem.W.Frag} : ∀ {kvs : List (List Key × V)} {bs : List Addr}, IsKeys H kvs bs → bs.length = kvs.length ∧ ∀ c ∈ (bs.map V.ref).zip (keysD kvs), Dp K H c.1 (pyD c.2)
  | [], [], _ => ⟨rfl, fun c hc => by cases hc⟩
  | p :: kvs, b :: bs, r => by
    cases r with
    | cons h t =>
      obtain ⟨h1, h2⟩ := paired_zip (K := K) t
      refine ⟨by rw [List.length_cons, List.length_cons, h1], fun c hc => ?_⟩
      rcases List.mem_cons.mp hc with rfl | hc
      · refine .tup (.inl (.inl h)) ?_
        have pk : plainDs (p.1.map keyD) = true := plain_keys p.1
        exact reps_dp (F := H) (.refl H) (keys_rep p.1) pk
      · exact h2 c hc
theorem zip_fst {α β : Type} : ∀ {a : List α} {b : List β}, a.length = b.length → (a.zip b).map (·.1) = a ∧ (a.zip b).map (·.2) = b
  | [], [], _ => ⟨rfl, rfl⟩
  | x :: a, y :: b, h => by
    obtain ⟨h1, h2⟩ := zip_fst (a := a) (b := b) (Nat.succ.inj h)
    rw [List.zip_cons_cons, List.map_cons, List.map_cons, h1, h2]
    exact ⟨rfl, rfl⟩
theorem cr_sortedDT {X : Cx} (hc : X.calm = true) (hu : X.A.units + 65 < cLine) : CallR X (.builtin "sorted") (rSortedDT X.K) := by
  intro pins s σ H vs us Q I r h
  obtain ⟨a, kvs, rfl, hd, hal, hso, hdp, q⟩ := h
  rw [Vals.ref1 r]
  obtain ⟨z, lo, ks, pr, o, es, ep, ho, hx, hdt, he, hn⟩ := (show ObjOk X.prog X.w H s.heap a (.dT kvs) from hd.ok I.hok)
  have l1 : es.size = ks.length := size_of_entries he
  have l2 : kvs.length = ks.length := Paired.length pr
  have hk := isKeys_of pr
  obtain ⟨hbl, hdp2⟩ := paired_zip (K := X.K) hk
  have hkl : (keysD kvs).length = kvs.length := List.length_map ..
  obtain ⟨z1, z2⟩ := zip_fst (a := ((ks.map fun x => x.2.1).map V.ref)) (b := keysD kvs) (by rw [List.length_map, List.length_map, hkl, l2])
  have e2 : (((ks.map fun x => x.2.1).map V.ref).zip (keysD kvs)).map (fun c => pyD c.2) = (keysD kvs).map pyD := by
    have := congrArg (List.map pyD) z2
    rw [List.map_map] at this
    exact this
  have mem2 : ∀ c ∈ ((ks.map fun x => x.2.1).map V.ref).zip (keysD kvs), c.2 ∈ keysD kvs := fun c hc => by
    have : c.2 ∈ (((ks.map fun x => x.2.1).map V.ref).zip (keysD kvs)).map (·.2) := List.mem_map.mpr ⟨c, hc, rfl⟩
    rw [z2] at this
    exact this
  have hzl : (((ks.map fun x => x.2.1).map V.ref).zip (keysD kvs)).length ≤ sizeLine := by
    rw [List.length_zip, List.length_map, List.length_map, hkl]
    omega
  refine sorted_coll (bs := ((ks.map fun x => x.2.1).map V.ref).zip (keysD kvs)) (vs := (ks.map fun x => x.2.1).map Value.ref) I hu (by rw [z1]; exact vals_refs _) hdp2 (by rw [e2]; exact hal) (by rw [e2]; exact hso) (fun c hc => hdp _ (mem2 c hc)) hzl (fun R E' hR => ?_) (fun p hp => q p _ hp hk)
  refine PySem.W.kdu_collect (A := X.A.in1) (kdl_raw lo hx hdt) (I.ok.hd hc) ho (by omega) fun g t acc kp it => ?_
  have ea : acc.toList = (ks.map fun x => x.2.1).map Value.ref := by
    have hl : acc.toList.length = ks.length := by rw [Array.length_toList, it.1]; exact l1
    refine List.ext_getElem? fun j => ?_
    rw [List.getElem?_map, List.getElem?_map]
    cases hj : acc.toList[j]? with
    | none =>
      have h1 := List.getElem?_eq_none_iff.mp hj
      rw [List.getElem?_eq_none (by omega)]
      rfl
    | some v =>
      obtain ⟨en, hen, hv⟩ := it.2 j v (by rw [← Array.getElem?_toList]; exact hj)
      have qe := entry_at he j
      rw [hen] at qe
      cases hb : ks[j]? with
      | none =>
        rw [hb] at qe
        exact nomatch (show some en = none from qe)
      | some c =>
        rw [hb] at qe
        have e3 : en = entryOfKey (tupleKind (mixKind X.prog X.w)) c := Option.some.inj qe
        rw [hv, e3]
        rfl
  rw [ea]
  exact hR g t kp
/-- {t: v} with a tuple as key -/
def tDispT (trs : List (TE × TE)) : TE := fun σ H Q => ∀ p, H p = none → tPairs trs σ (upd H p (.dT [])) fun ps H2 => H2 p = some (.dT []) ∧ ∃ (k : List Key) (b : Addr) (v : V), ps = [(V.ref b, v)] ∧ H2 b = some (.tup (k.map kV)) ∧ Q (.ref p) (upd H2 p (.dT [(k, v)]))
theorem pe_dispT {X : Cx} {pos : Pos} {keys : List (Option Expr)} {values : List Expr} {trs : List (TE × TE)} (hu : X.A.units + 1 < cLine) (h : PPs X pos keys values trs) (hall : keys.all (·.isSome) = true) (hl : keys.length = values.length) (h0 : keys ≠ []) (h15 : keys.length ≤ 15) : PE X (.Dict keys values pos) (tDispT trs) := by
  refine ⟨fun pins s σ H Q I q => ?_⟩
  have hn := I.hok.fresh (Nat.le_refl s.heap.objs.size)
  have I1 := I.laid (a := s.heap.objs.size) (o := .dT []) (h' := s.heap.push { cls := .type "dict", data := .dict #[] }) (t' := s.toks) (fun _ _ q => Heap.get?_push_of_some _ q) (Nat.le_refl _) (dt_empty s.heap I.big)
  have hpl := pairTrees_length keys values X.env pos hall hl
  have hp0 : pairTrees keys values X.env pos ≠ [] := fun e => h0 (List.length_eq_zero_iff.mp (by rw [← hpl, e]; rfl))
  rw [arm_eval_Dict, zip_pairTrees keys values X.env pos hall hl, dictDisplay_pairs _ hp0 (by rw [hpl]; omega)]
  refine wpAny_bind (wpAny_standAt (wpAny_bind (wpAny_subDictH (knd := tupleKind (mixKind X.prog X.w)) (Q := fun d s' => wpAny (model X.prog X.w) X.A (pure (Value.ref d)) (EP X pins σ Q) X.xe s') (show X.A.units < cLine by omega) (by rw [hpl]; exact h15) (thn (h.run pins _ σ _ _ I1 (q _ hn)) fun ws s2 ⟨ps, H2, I2, rel, e, k, b, v, ep, eb, q2⟩ => ?_))))
  subst ep
  cases rel with
  | @cons a1 c1 as1 bs1 hr t =>
    cases t
    obtain ⟨c1, c2⟩ := c1
    obtain ⟨hr1, hr2⟩ := hr
    cases (show c1 = Value.ref b from hr1)
    obtain ⟨z, hd, ys, r0, dd⟩ := dt_of I2.hok e
    cases r0
    refine ⟨[(k, b, c2)], ⟨rfl, rfl, key_of I2.hok eb, trivial⟩, dd, fun g t dd' sb => wpAny_pure ?_⟩
    obtain ⟨qo, es, epp, hq, g2, g3, g4, g5, g6⟩ := dd'
    have inv := d_write (t' := t) (ob := .dT [(k, v)]) I2 (by rw [e]; exact True.intro) sb ⟨qo, hq⟩ ⟨by show 1 ≤ sizeLine; decide, hd, [(k, b, c2)], .cons ⟨rfl, by
      show (upd H2 s.heap.objs.size (.dT [(k, v)])) b = _
      rw [upd_ne (ne_of eb e (fun z => nomatch z))]
      exact eb, hr2⟩ .nil, qo, es, epp, hq, g2, g3, g4, g6⟩
    exact ⟨.ref s.heap.objs.size, _, inv, rfl, q2⟩
-- ### over the abstract store
section
variable {b : Bx} {F F' H H' : Hp} {as as' : List Addr} {s s' : S} {σ σ' : L2.St} {k : AV → S → Prop} {A : AE}
/-- a tuple that stands is frozen -/
theorem G.frzT {p : Addr} {vs : List V} {ds : List D} (g : G b F as s σ H) (h : H p = some (.tup vs)) (r : Reps b.K F vs ds) : ∃ F', G b F' as s σ H ∧ Ex F F' ∧ Rep b.K F' (.ref p) (.tup ds) := by
  cases q : F p with
  | some o =>
    have := g.gm.fh p o q
    rw [h] at this
    obtain rfl := Option.some.inj this
    exact ⟨F, g, .refl F, .tup q r⟩
  | none =>
    have e : Ex F (upd F p (.tup vs)) := .new q
    refine ⟨upd F p (.tup vs), g.of (F' := upd F p (.tup vs)) (as' := as) (s' := s) ⟨fun a o ha => ?_, g.gm.bh, fun a o ha => ?_, g.gm.len, g.gm.nd, g.gm.ha, fun i a co h1 h2 h3 => ?_⟩ e (.refl as) rfl, e, .tup upd_same (r.mono e)⟩
    · by_cases ha' : a = p
      · subst ha'
        rw [upd_same] at ha
        rw [← Option.some.inj ha]
        exact h
      · rw [upd_ne ha'] at ha
        exact g.gm.fh a o ha
    · by_cases ha' : a = p
      · subst ha'
        rw [upd_same] at ha
        exact .inr (.inr ⟨vs, (Option.some.inj ha).symm⟩)
      · rw [upd_ne ha'] at ha
        exact g.gm.nw a o ha
    · obtain ⟨x1, x2, x3⟩ := g.gm.cell i a co h1 h2 h3
      have ne : a ≠ p := fun z => by
        subst z
        exact x3.notTup h3 h
      exact ⟨by rw [upd_ne ne]; exact x1, x2, x3.mono e (.refl as) fun _ z => z⟩
theorem G.frzTs : ∀ {bs : List Addr} {kvs : List (List Key × V)} {F : Hp}, G b F as s σ H → IsKeys H kvs bs → ∃ F', G b F' as s σ H ∧ Ex F F' ∧ Reps b.K F' (bs.map V.ref) (keysD kvs)
  | [], [], F, g, _ => ⟨F, g, .refl F, .nil⟩
  | c :: bs, p :: kvs, F, g, r => by
    cases r with
    | cons h t =>
      obtain ⟨F1, g1, e1, r1⟩ := g.frzT h (keys_rep p.1)
      obtain ⟨F2, g2, e2, r2⟩ := G.frzTs g1 t
      exact ⟨F2, g2, e1.trans e2, .cons (r1.mono e2) r2⟩
theorem keysD_of {kvs : List (List Key × V)} {kds : List (List Key × D)} (h : kvs.map (·.1) = kds.map (·.1)) : keysD kvs = keysD kds := by
  have := congrArg (List.map fun ks : List Key => D.tup (ks.map keyD)) h
  rw [List.map_map, List.map_map] at this
  exact this
theorem rc_sortedDT {n : Nat} {kds : List (List Key × D)} (hc : s.cs[n]? = some (.dT kds)) (h : SortOk (keysD kds)) (hk : k (.d (.lst (srtD (keysD kds)))) s) : RC b (rSortedDT b.K) [.c n] s k := fun F as σ H vs g r Q q => by
  cases r with
  | cons r1 r2 =>
    cases r2
    obtain ⟨a, kvs, rfl, ha, h1, h2⟩ := g.dictT hc r1
    have ek := keysD_of h2.1
    refine ⟨a, kvs, rfl, .inl h1, by rw [ek]; exact h.al, by rw [ek]; exact h.so, by rw [ek]; exact h.dp, fun p bs hp hks => ?_⟩
    obtain ⟨F1, g1, e1, r1⟩ := g.frzTs hks
    rw [ek] at r1
    obtain ⟨z1, z2, z3⟩ := reps_zip r1
    have es : (((bs.map V.ref).zip (keysD kds)).mergeSort fun a b => leD a.2 b.2).map (·.2) = srtD (keysD kds) := by
      have := sort_maps (r := fun a b : V × D => leD a.2 b.2) (s := leD) (·.2) (l := (bs.map V.ref).zip (keysD kds)) fun a _ b _ => rfl
      rw [this, z2]
      rfl
    have hr : Reps b.K F1 ((((bs.map V.ref).zip (keysD kds)).mergeSort fun a b => leD a.2 b.2).map (·.1)) (srtD (keysD kds)) := by
      rw [← es]
      exact reps_of fun c hc => z3 c ((List.mergeSort_perm _ _).mem_iff.mp hc)
    obtain ⟨g', e, rr⟩ := fz_lst g1 hp hr
    rw [ek]
    exact q _ _ _ _ _ _ hk g' (e1.trans e) (.refl as) rr
/-- list(d), the keys -/
theorem rc_listDT {n : Nat} {kds : List (List Key × D)} (hc : s.cs[n]? = some (.dT kds)) (hk : k (.d (.lst (keysD kds))) s) : RC b (fun xs H Q => ∃ d kvs, xs = [V.ref d] ∧ Rd H d (.dT kvs) ∧ ∀ p bs, H p = none → IsKeys H kvs bs → Q (.ref p) (upd H p (.lst (bs.map V.ref)))) [.c n] s k := fun F as σ H vs g r Q q => by
  cases r with
  | cons r1 r2 =>
    cases r2
    obtain ⟨a, kvs, rfl, ha, h1, h2⟩ := g.dictT hc r1
    refine ⟨a, kvs, rfl, .inl h1, fun p bs hp hks => ?_⟩
    obtain ⟨F1, g1, e1, r1⟩ := g.frzTs hks
    rw [keysD_of h2.1] at r1
    obtain ⟨g', e, rr⟩ := fz_lst g1 hp r1
    exact q _ _ _ _ _ _ hk g' (e1.trans e) (.refl as) rr
theorem rc_lenDT {n : Nat} {kds : List (List Key × D)} (hc : s.cs[n]? = some (.dT kds)) (hk : k (.d (.int (kds.length : Nat))) s) : RC b rLenT [.c n] s k := fun F as σ H vs g r Q q => by
  cases r with
  | cons r1 r2 =>
    cases r2
    obtain ⟨a, kvs, rfl, ha, h1, h2⟩ := g.dictT hc r1
    have hl : kvs.length = kds.length := by have := congrArg List.length h2.1; rwa [List.length_map, List.length_map] at this
    refine ⟨a, kvs, rfl, h1, ?_⟩
    rw [hl]
    exact q _ _ s F as H hk g (.refl F) (.refl as) (Rep.int _)
/-- {t: v} -/
theorem we_dispT {tk tv : TE} (h : WE b tk (s.new (.dT [])) fun x s1 => WE b tv s1 fun y s2 => ∃ key d, x = .d (.tup (key.map keyD)) ∧ y = .d d ∧ s2.cs[s.cs.length]? = some (.dT []) ∧ k (.c s.cs.length) (s2.put s.cs.length (.dT [(key, d)]))) (hp : ∀ s2 : S, s2.cs[s.cs.length]? = some (.dT []) → True := fun _ _ => trivial) : WE b (tDispT [(tk, tv)]) s k := fun F as σ H g Q q => fun p hpn => by
  have m := g.gm.nc (o := .dT []) (co := .dT []) hpn ⟨[], upd_same, rfl, .nil⟩
  have g0 : G b F (as ++ [p]) (s.new (.dT [])) σ (upd H p (.dT [])) := g.of m (.refl F) (.snoc as p) rfl
  refine h F (as ++ [p]) σ _ g0 _ fun x av s1 F1 as1 H1 h1 g1 e1 p1 r1 => ?_
  refine h1 F1 as1 σ H1 g1 _ fun y av2 s2 F2 as2 H2 h2 g2 e2 p2 r2 => ?_
  obtain ⟨key, d, rfl, rfl, hc, hk⟩ := h2
  have hpa : as2[s.cs.length]? = some p := (p1.trans p2).get (by rw [← g.gm.len, List.getElem?_append_right (Nat.le_refl _), Nat.sub_self] <;> rfl)
  obtain ⟨y1, y2, kvs, h3, h4⟩ := g2.gm.cell _ _ _ hpa hc trivial
  have e0 : kvs = [] := by
    have := congrArg List.length h4.1
    rw [List.length_map, List.length_map] at this
    exact List.eq_nil_of_length_eq_zero this
  subst e0
  obtain ⟨a, xs, rfl, h5, h6⟩ := Rep.tup_inv (r1.mono e2 p2)
  obtain rfl := reps_keys h6
  refine ⟨h3, key, a, y, rfl, g2.gm.fh _ _ h5, ?_⟩
  exact q (.ref p) _ _ F2 as2 _ hk (g2.put hpa hc trivial ⟨[(key, y)], upd_same, rfl, .cons r2 .nil⟩) (e1.trans e2) ((Pre.snoc as p).trans (p1.trans p2)) ⟨p, hpa, rfl⟩
end
end KW

-- Plain: orders that words make.
namespace KP
theorem back_of_closed2 {α : Type} [DecidableEq α] {f : α → α} {T : List α} (nd : T.Nodup) (hc : ∀ x ∈ T, f x ∈ T) (hi : ∀ x ∈ T, ∀ y ∈ T, f x = f y → x = y) {y : α} (h2 : ∀ x ∈ T, f x = f y → x = y) (hy : f y ∈ T) : y ∈ T := by
  have nd2 : (T.map f).Nodup := by
    rw [List.nodup_iff_pairwise_ne] at nd ⊢
    rw [List.pairwise_map]
    exact List.Pairwise.imp_of_mem (fun ha hb hab e => hab (hi _ ha _ hb e)) nd
  have := sub_of_len nd2 (fun x hx => by
    obtain ⟨z, hz, rfl⟩ := List.mem_map.mp hx
    exact hc z hz) (by rw [List.length_map]; exact Nat.le_refl _) _ hy
  obtain ⟨z, hz, e⟩ := List.mem_map.mp this
  exact h2 z hz e ▸ hz
/-- a step behind an order -/
def comp (s o : List Nat) : List Nat := o.map fun p => s.getD p 0
/-- a row of numbers below n, of length n -/
def RowN (n : Nat) (o : List Nat) : Prop := o.length = n ∧ ∀ x ∈ o, x < n
/-- all that words make of the plain order, each once -/
structure Made (w c : List Nat) (n : Nat) (L : List (List Nat)) : Prop where
  nd : L.Nodup
  gen : ∀ P : List Nat → Prop, P (List.range n) → (∀ x, P x → P (comp w x) ∧ P (comp c x)) → ∀ x ∈ L, P x
structure Closed (w c : List Nat) (n : Nat) (L : List (List Nat)) : Prop extends Made w c n L where
  id : List.range n ∈ L
  cl : ∀ x ∈ L, comp w x ∈ L ∧ comp c x ∈ L
section
variable {w c : List Nat} {n : Nat} {L M : List (List Nat)} {x y : List Nat}
theorem Closed.perm (h : Closed w c n L) (g : Closed w c n M) : L.Perm M := by
  refine (List.perm_ext_iff_of_nodup h.nd g.nd).mpr fun x => ⟨?_, ?_⟩
  · exact fun hx => h.gen (· ∈ M) g.id g.cl x hx
  · exact fun hx => g.gen (· ∈ L) h.id h.cl x hx
theorem Made.le_of (h : Made w c n L) {U : List (List Nat)} (h0 : List.range n ∈ U) (h1 : ∀ x ∈ U, comp w x ∈ U ∧ comp c x ∈ U) : L.length ≤ U.length :=
  len_le_of_sub h.nd (h.gen (· ∈ U) h0 h1)
theorem rowN_range : RowN n (List.range n) := ⟨List.length_range, fun x hx => List.mem_range.mp hx⟩
theorem rowN_comp (T : Two w c n) (h : RowN n x) : RowN n (comp w x) ∧ RowN n (comp c x) := by
  refine ⟨⟨by unfold comp; rw [List.length_map]; exact h.1, fun y hy => ?_⟩, by unfold comp; rw [List.length_map]; exact h.1, fun y hy => ?_⟩
  · obtain ⟨p, hp, rfl⟩ := List.mem_map.mp hy
    exact T.bw (h.2 p hp)
  · obtain ⟨p, hp, rfl⟩ := List.mem_map.mp hy
    exact T.bc (h.2 p hp)
theorem Made.row (h : Made w c n L) (T : Two w c n) : ∀ x ∈ L, RowN n x := h.gen (RowN n) rowN_range fun x hx => rowN_comp T hx
theorem comp_id (h : RowN n x) : comp (List.range n) x = x := by
  unfold comp
  refine (List.map_congr_left fun p hp => ?_).trans (List.map_id _)
  rw [List.getD_eq_getElem?_getD, List.getElem?_range (h.2 p hp)]
  rfl
theorem comp_range {s : List Nat} (h : s.length = n) : comp s (List.range n) = s := by
  unfold comp
  refine List.ext_getElem? fun i => ?_
  rw [List.getElem?_map]
  by_cases hi : i < n
  · rw [List.getElem?_range hi]
    show some (s.getD i 0) = s[i]?
    rw [List.getD_eq_getElem?_getD, List.getElem?_eq_getElem (by omega)]
    rfl
  · rw [List.getElem?_eq_none (by rw [List.length_range]; omega), List.getElem?_eq_none (by omega)]
    rfl
theorem comp_assoc {a b : List Nat} (h : ∀ p ∈ x, p < b.length) : comp (comp a b) x = comp a (comp b x) := by
  unfold comp
  rw [List.map_map]
  refine List.map_congr_left fun p hp => ?_
  have hp := h p hp
  show (b.map fun p => a.getD p 0).getD p 0 = a.getD (b.getD p 0) 0
  rw [List.getD_eq_getElem?_getD, List.getElem?_map, List.getElem?_eq_getElem hp, List.getD_eq_getElem?_getD (l := b), List.getElem?_eq_getElem hp]
  rfl
/-- two of them make one -/
theorem Closed.mul (h : Closed w c n L) (T : Two w c n) (hy : y ∈ L) : ∀ x ∈ L, comp x y ∈ L := by
  have ry := h.toMade.row T y hy
  have key : ∀ x ∈ L, RowN n x ∧ comp x y ∈ L := h.gen (fun x => RowN n x ∧ comp x y ∈ L) ⟨rowN_range, by rw [comp_id ry]; exact hy⟩ fun x ⟨hx, hm⟩ => by
    refine ⟨⟨(rowN_comp T hx).1, ?_⟩, (rowN_comp T hx).2, ?_⟩
    · rw [comp_assoc fun p hp => by rw [hx.1]; exact ry.2 p hp]
      exact (h.cl _ hm).1
    · rw [comp_assoc fun p hp => by rw [hx.1]; exact ry.2 p hp]
      exact (h.cl _ hm).2
  exact fun x hx => (key x hx).2
/-- a step's way back keeps them, too -/
theorem Closed.back (h : Closed w c n L) (T : Two w c n) {s b : List Nat} (hs : ∀ x ∈ L, comp s x ∈ L) (is : ∀ {x y : Nat}, x < n → y < n → s.getD x 0 = s.getD y 0 → x = y) (hb : ∀ p < n, b.getD p 0 < n ∧ s.getD (b.getD p 0) 0 = p) : ∀ x ∈ L, comp b x ∈ L := by
  intro x hx
  have rx := h.toMade.row T x hx
  have rb : RowN n (comp b x) := ⟨by unfold comp; rw [List.length_map]; exact rx.1, fun y hy => by
    obtain ⟨p, hp, rfl⟩ := List.mem_map.mp hy
    exact (hb p (rx.2 p hp)).1⟩
  have e : comp s (comp b x) = x := by
    unfold comp
    rw [List.map_map]
    refine (List.map_congr_left fun p hp => ?_).trans (List.map_id _)
    exact (hb p (rx.2 p hp)).2
  have inj : ∀ z v, RowN n z → RowN n v → comp s z = comp s v → z = v := fun z v rz hv e2 => by
    refine List.ext_getElem? fun i => ?_
    have e3 := congrArg (fun l => l[i]?) e2
    simp only [comp, List.getElem?_map] at e3
    by_cases hi : i < n
    · rw [List.getElem?_eq_getElem (by rw [rz.1]; exact hi), List.getElem?_eq_getElem (by rw [hv.1]; exact hi)] at e3 ⊢
      have e4 := Option.some.inj e3
      rw [is (rz.2 _ (List.getElem_mem _)) (hv.2 _ (List.getElem_mem _)) e4]
    · rw [List.getElem?_eq_none (by rw [rz.1]; omega), List.getElem?_eq_none (by rw [hv.1]; omega)]
  refine back_of_closed2 (f := comp s) h.nd hs (fun z hz v hv e2 => inj z v (h.toMade.row T z hz) (h.toMade.row T v hv) e2) (y := comp b x) (fun z hz e2 => inj z _ (h.toMade.row T z hz) rb e2) ?_
  rw [e]
  exact hx
end
end KP
namespace KP
-- ### all orders of a few places
def lexL : Nat → List Nat → List (List Nat)
  | 0, _ => [[]]
  | k + 1, l => l.flatMap fun x => (lexL k (l.erase x)).map (x :: ·)
theorem lexL_mem : ∀ {x l : List Nat}, x.Nodup → (∀ y ∈ x, y ∈ l) → x ∈ lexL x.length l
  | [], _, _, _ => List.mem_cons_self
  | y :: x, l, nd, h => by
    have nd' := List.nodup_cons.mp nd
    refine List.mem_flatMap.mpr ⟨y, h y List.mem_cons_self, List.mem_map.mpr ⟨x, lexL_mem nd'.2 fun z hz => ?_, rfl⟩⟩
    have hne : z ≠ y := fun e => nd'.1 (e ▸ hz)
    exact (List.mem_erase_of_ne hne).mpr (h z (List.mem_cons_of_mem _ hz))
theorem lexL_perm : ∀ {k : Nat} {x l : List Nat}, l.length = k → x ∈ lexL k l → x.Perm l
  | 0, x, l, hl, h => by
    rw [List.mem_singleton.mp h, List.length_eq_zero_iff.mp hl]
  | k + 1, x, l, hl, h => by
    obtain ⟨y, hy, h⟩ := List.mem_flatMap.mp h
    obtain ⟨z, hz, rfl⟩ := List.mem_map.mp h
    have := lexL_perm (l := l.erase y) (by rw [List.length_erase_of_mem hy, hl]; rfl) hz
    exact (this.cons y).trans (List.perm_cons_erase hy).symm
theorem lexL_nodup : ∀ {k : Nat} {l : List Nat}, l.Nodup → (lexL k l).Nodup
  | 0, _, _ => List.nodup_cons.mpr ⟨List.not_mem_nil, List.nodup_nil⟩
  | k + 1, l, nd => by
    show (l.flatMap fun x => (lexL k (l.erase x)).map (x :: ·)).Nodup
    rw [List.nodup_iff_pairwise_ne, List.pairwise_flatMap]
    refine ⟨fun x _ => ?_, ?_⟩
    · rw [List.pairwise_map]
      have := lexL_nodup (k := k) (nd.erase x)
      rw [List.nodup_iff_pairwise_ne] at this
      exact this.imp fun h e => h (List.cons.inj e).2
    · rw [List.nodup_iff_pairwise_ne] at nd
      refine nd.imp fun hne a ha b hb e => ?_
      obtain ⟨_, _, rfl⟩ := List.mem_map.mp ha
      obtain ⟨_, _, rfl⟩ := List.mem_map.mp hb
      exact hne (List.cons.inj e).1
def factN : Nat → Nat
  | 0 => 1
  | k + 1 => (k + 1) * factN k
theorem flatMap_len {α β : Type} {f : α → List β} {m : Nat} : ∀ {l : List α}, (∀ x ∈ l, (f x).length = m) → (l.flatMap f).length = l.length * m
  | [], _ => by rw [List.flatMap_nil, List.length_nil, List.length_nil, Nat.zero_mul]
  | x :: l, h => by
    rw [List.flatMap_cons, List.length_append, h x List.mem_cons_self, flatMap_len fun y hy => h y (List.mem_cons_of_mem _ hy), List.length_cons, Nat.succ_mul, Nat.add_comm]
theorem lexL_length : ∀ {k : Nat} {l : List Nat}, l.length = k → (lexL k l).length = factN k
  | 0, _, _ => rfl
  | k + 1, l, hl => by
    show (l.flatMap fun x => (lexL k (l.erase x)).map (x :: ·)).length = _
    rw [flatMap_len (m := factN k) fun x hx => ?_, hl]
    · rfl
    · rw [List.length_map]
      exact lexL_length (by rw [List.length_erase_of_mem hx, hl]; rfl)
theorem comp_nodup {s x : List Nat} {n : Nat} (hx : RowN n x) (nd : x.Nodup) (is : ∀ {x y : Nat}, x < n → y < n → s.getD x 0 = s.getD y 0 → x = y) : (comp s x).Nodup := by
  unfold comp
  rw [List.nodup_iff_pairwise_ne] at nd ⊢
  rw [List.pairwise_map]
  exact List.Pairwise.imp_of_mem (fun ha hb hab e => hab (is (hx.2 _ ha) (hx.2 _ hb) e)) nd
theorem Made.few {w c : List Nat} {n : Nat} {L : List (List Nat)} (h : Made w c n L) (T : Two w c n) (hn : n ≤ 5) : L.length ≤ 120 := by
  have key : ∀ x ∈ L, RowN n x ∧ x.Nodup := h.gen (fun x => RowN n x ∧ x.Nodup) ⟨rowN_range, List.nodup_range⟩ fun x ⟨hx, nd⟩ => ⟨⟨(rowN_comp T hx).1, comp_nodup hx nd T.iw⟩, (rowN_comp T hx).2, comp_nodup hx nd T.ic⟩
  have few : ∀ n, n ≤ 5 → factN n ≤ 120 := fun n hn => by
    have : n = 0 ∨ n = 1 ∨ n = 2 ∨ n = 3 ∨ n = 4 ∨ n = 5 := by omega
    rcases this with rfl | rfl | rfl | rfl | rfl | rfl <;> decide
  refine Nat.le_trans (len_le_of_sub h.nd (u := lexL n (List.range n)) fun x hx => ?_) (by rw [lexL_length List.length_range]; exact few n hn)
  obtain ⟨h1, h2⟩ := key x hx
  have := lexL_mem (l := List.range n) h2 fun y hy => List.mem_range.mpr (h1.2 y hy)
  rw [h1.1] at this
  exact this
-- ### all orders out of one stroke and one round
def swp (n k : Nat) : List Nat := (List.range n).map fun i => if i = k then k + 1 else if i = k + 1 then k else i
theorem comp_swp {pre l : List Nat} {x y n : Nat} (hn : pre.length + (l.length + 2) = n) : comp (pre ++ y :: x :: l) (swp n pre.length) = pre ++ x :: y :: l := by
  unfold comp swp
  rw [List.map_map]
  refine List.ext_getElem? fun i => ?_
  rw [List.getElem?_map]
  by_cases hi : i < n
  · rw [List.getElem?_range hi]
    show some ((pre ++ y :: x :: l).getD (if i = pre.length then pre.length + 1 else if i = pre.length + 1 then pre.length else i) 0) = _
    rw [List.getD_eq_getElem?_getD]
    by_cases h1 : i = pre.length
    · rw [if_pos h1, h1, List.getElem?_append_right (by omega), List.getElem?_append_right (by omega)]
      have e1 : pre.length + 1 - pre.length = 1 := by omega
      have e2 : pre.length - pre.length = 0 := by omega
      rw [e1, e2]
      rfl
    · rw [if_neg h1]
      by_cases h2 : i = pre.length + 1
      · rw [if_pos h2, h2, List.getElem?_append_right (by omega), List.getElem?_append_right (by omega)]
        have e1 : pre.length + 1 - pre.length = 1 := by omega
        have e2 : pre.length - pre.length = 0 := by omega
        rw [e1, e2]
        rfl
      · rw [if_neg h2]
        by_cases h3 : i < pre.length
        · rw [List.getElem?_append_left h3, List.getElem?_append_left h3, List.getElem?_eq_getElem h3]
          rfl
        · rw [List.getElem?_append_right (by omega), List.getElem?_append_right (by omega)]
          obtain ⟨j, hj⟩ : ∃ j, i - pre.length = j + 2 := ⟨i - pre.length - 2, by omega⟩
          rw [hj]
          show some (l[j]?.getD 0) = l[j]?
          rw [List.getElem?_eq_getElem (by omega)]
          rfl
  · rw [List.getElem?_eq_none (by rw [List.length_range]; omega), List.getElem?_eq_none (by rw [List.length_append, List.length_cons, List.length_cons]; omega)]
    rfl
section
variable {w c : List Nat} {n : Nat} {L : List (List Nat)}
theorem Closed.swap (h : Closed w c n L) (T : Two w c n) (hs : ∀ k, k + 1 < n → swp n k ∈ L) {pre l : List Nat} {x y : Nat} (hn : pre.length + (l.length + 2) = n) (hm : pre ++ y :: x :: l ∈ L) : pre ++ x :: y :: l ∈ L := by
  have := h.mul T (hs pre.length (by omega)) _ hm
  rw [comp_swp hn] at this
  exact this
theorem Closed.perm_mem (h : Closed w c n L) (T : Two w c n) (hs : ∀ k, k + 1 < n → swp n k ∈ L) {l1 l2 : List Nat} (p : l1.Perm l2) : ∀ pre : List Nat, pre.length + l1.length = n → (pre ++ l1 ∈ L ↔ pre ++ l2 ∈ L) := by
  induction p with
  | nil => exact fun pre _ => Iff.rfl
  | cons x _ ih =>
    intro pre hn
    have := ih (pre ++ [x]) (by rw [List.length_append, List.length_singleton]; rw [List.length_cons] at hn; omega)
    rw [List.append_assoc, List.append_assoc] at this
    exact this
  | swap x y l =>
    intro pre hn
    rw [List.length_cons, List.length_cons] at hn
    exact ⟨h.swap T hs (by omega), h.swap T hs (by omega)⟩
  | trans p1 _ ih1 ih2 => exact fun pre hn => (ih1 pre hn).trans (ih2 pre (by rw [← p1.length_eq]; exact hn))
theorem Closed.all (h : Closed w c n L) (T : Two w c n) (hs : ∀ k, k + 1 < n → swp n k ∈ L) {l : List Nat} (p : l.Perm (List.range n)) : l ∈ L := by
  have := (h.perm_mem T hs p [] (by rw [p.length_eq, List.length_range]; exact Nat.zero_add n)).mpr
  exact this h.id
/-- words, as steps one behind the other (true: w) -/
def word (w c : List Nat) (n : Nat) (l : List Bool) : List Nat := l.foldl (fun o b => comp (if b then w else c) o) (List.range n)
theorem Closed.word (h : Closed w c n L) : ∀ l : List Bool, KP.word w c n l ∈ L := by
  have : ∀ (l : List Bool) (o : List Nat), o ∈ L → l.foldl (fun o b => comp (if b then w else c) o) o ∈ L := by
    intro l
    induction l with
    | nil => exact fun o h => h
    | cons b l ih =>
      intro o ho
      refine ih _ ?_
      cases b
      · exact (h.cl o ho).2
      · exact (h.cl o ho).1
  exact fun l => this l _ h.id
end
def wM (n : Nat) : List Nat := 1 :: 0 :: (List.range (n - 2)).map (· + 2)
def cM (n : Nat) : List Nat := (List.range (n - 1)).map (· + 1) ++ [0]
def swW (n k : Nat) : List Bool := List.replicate (n - k) false ++ true :: List.replicate k false
theorem swW_ok : ∀ n ∈ [7, 8, 9], ((List.range (n - 1)).all fun k => decide (word (wM n) (cM n) n (swW n k) = swp n k)) = true := by decide +kernel
theorem Closed.many {n : Nat} {L : List (List Nat)} (hn : 7 ≤ n ∧ n ≤ 9) (h : Closed (wM n) (cM n) n L) (T : Two (wM n) (cM n) n) : 2001 ≤ L.length := by
  have h1 := swW_ok n (by
    have : n = 7 ∨ n = 8 ∨ n = 9 := by omega
    rcases this with rfl | rfl | rfl <;> decide)
  have hl : 2001 ≤ (lexL n (List.range n)).length := by
    rw [lexL_length List.length_range]
    have : n = 7 ∨ n = 8 ∨ n = 9 := by omega
    rcases this with rfl | rfl | rfl <;> decide
  refine Nat.le_trans hl (len_le_of_sub (lexL_nodup List.nodup_range) fun x hx => ?_)
  refine h.all T (fun k hk => ?_) (lexL_perm List.length_range hx)
  have := of_decide_eq_true (List.all_eq_true.mp h1 k (List.mem_range.mpr (by omega)))
  rw [← this]
  exact h.word _
end KP
namespace KP
-- ### how many lead from the first place where
theorem sum_counts {α : Type} {f : α → Nat} {n : Nat} : ∀ {L : List α}, (∀ x ∈ L, f x < n) → ((List.range n).map fun p => L.countP fun x => decide (f x = p)).sum = L.length
  | [], _ => by
    have : ∀ m, ((List.range m).map fun p => ([] : List α).countP fun x => decide (f x = p)).sum = 0 := fun m => by
      induction m with
      | zero => rfl
      | succ m ih =>
        rw [List.range_succ, List.map_append, List.sum_append, ih]
        rfl
    exact this n
  | x :: L, h => by
    have ih := sum_counts (L := L) fun y hy => h y (List.mem_cons_of_mem _ hy)
    have hx := h x List.mem_cons_self
    have : ∀ m, ((List.range m).map fun p => (x :: L).countP fun x => decide (f x = p)).sum = ((List.range m).map fun p => L.countP fun x => decide (f x = p)).sum + if f x < m then 1 else 0 := fun m => by
      induction m with
      | zero => rfl
      | succ m ih2 =>
        rw [List.range_succ, List.map_append, List.sum_append, ih2, List.map_append, List.sum_append]
        have e : ((x :: L).countP fun x => decide (f x = m)) = (L.countP fun x => decide (f x = m)) + if f x = m then 1 else 0 := by
          rw [List.countP_cons]
          by_cases h : f x = m
          · rw [if_pos h, if_pos (decide_eq_true h)]
          · rw [if_neg h, if_neg (by rw [decide_eq_false h]; exact Bool.false_ne_true)]
        simp only [List.map_cons, List.map_nil, List.sum_cons, List.sum_nil]
        rw [e]
        by_cases h1 : f x = m
        · rw [if_pos h1, if_neg (by omega), if_pos (by omega)]
          omega
        · rw [if_neg h1]
          by_cases h2 : f x < m
          · rw [if_pos h2, if_pos (by omega)]
            omega
          · rw [if_neg h2, if_neg (by omega)]
            omega
    rw [this n, ih, if_pos hx, List.length_cons]
theorem ones_of_sum : ∀ {l : List Nat}, (∀ x ∈ l, 1 ≤ x) → l.sum = l.length → ∀ x ∈ l, x = 1
  | [], _, _, x, hx => absurd hx List.not_mem_nil
  | a :: l, h, e, x, hx => by
    have h1 := h a List.mem_cons_self
    have h2 : ∀ y ∈ l, 1 ≤ y := fun y hy => h y (List.mem_cons_of_mem _ hy)
    have h3 : ∀ {m : List Nat}, (∀ y ∈ m, 1 ≤ y) → m.length ≤ m.sum := by
      intro m
      induction m with
      | nil => exact fun _ => Nat.le_refl _
      | cons b m ih =>
        intro hm
        have := ih fun y hy => hm y (List.mem_cons_of_mem _ hy)
        have := hm b List.mem_cons_self
        rw [List.length_cons, List.sum_cons]
        omega
    have h4 := h3 h2
    rw [List.sum_cons, List.length_cons] at e
    rcases List.mem_cons.mp hx with rfl | hx
    · omega
    · exact ones_of_sum h2 (by omega) x hx
theorem sum_ones : ∀ {l : List Nat}, (∀ x ∈ l, x = 1) → l.sum = l.length
  | [], _ => rfl
  | a :: l, h => by
    rw [List.sum_cons, List.length_cons, h a List.mem_cons_self, sum_ones fun x hx => h x (List.mem_cons_of_mem _ hx), Nat.add_comm]
/-- as many as places, exactly if one leads to each -/
theorem free_iff {L : List (List Nat)} {n : Nat} (hl : ∀ o ∈ L, o.getD 0 0 < n) (ht : ∀ p < n, ∃ o ∈ L, o.getD 0 0 = p) : L.length = n ↔ ∀ p < n, (L.countP fun o => decide (o.getD 0 0 = p)) = 1 := by
  have hs := sum_counts (f := fun o : List Nat => o.getD 0 0) hl
  have hlen : ((List.range n).map fun p => L.countP fun o => decide (o.getD 0 0 = p)).length = n := by rw [List.length_map, List.length_range]
  constructor
  · intro e p hp
    refine ones_of_sum (l := (List.range n).map fun p => L.countP fun o => decide (o.getD 0 0 = p)) (fun x hx => ?_) (by rw [hs, hlen, e]) _ (List.mem_map.mpr ⟨p, List.mem_range.mpr hp, rfl⟩)
    obtain ⟨q, hq, rfl⟩ := List.mem_map.mp hx
    obtain ⟨o, ho, e2⟩ := ht q (List.mem_range.mp hq)
    exact List.countP_pos_iff.mpr ⟨o, ho, decide_eq_true e2⟩
  · intro h
    rw [← hs, sum_ones fun x hx => ?_, hlen]
    obtain ⟨q, hq, rfl⟩ := List.mem_map.mp hx
    exact h q (List.mem_range.mp hq)
/-- an element leads from the first place to each that is reached from it -/
theorem Closed.leads {w c : List Nat} {n : Nat} {L : List (List Nat)} (h : Closed w c n L) (T : Two w c n) (hn : 0 < n) : ∀ x ∈ reach w c 0, ∃ o ∈ L, o.getD 0 0 = x := by
  have at0 : ∀ (s o : List Nat), RowN n o → (comp s o).getD 0 0 = s.getD (o.getD 0 0) 0 := fun s o ho => by
    unfold comp
    rw [List.getD_eq_getElem?_getD, List.getElem?_map, List.getD_eq_getElem?_getD (l := o), List.getElem?_eq_getElem (by rw [ho.1]; exact hn)]
    rfl
  refine reach_all (P := fun x => ∃ o ∈ L, o.getD 0 0 = x) ⟨List.range n, h.id, ?_⟩ (fun x ⟨o, ho, e⟩ => ⟨comp w o, (h.cl o ho).1, ?_⟩) (fun x ⟨o, ho, e⟩ => ⟨comp c o, (h.cl o ho).2, ?_⟩)
  · rw [List.getD_eq_getElem?_getD, List.getElem?_range hn]
    rfl
  · rw [at0 w o (h.toMade.row T o ho), e]
  · rw [at0 c o (h.toMade.row T o ho), e]
-- ### small rings
def ringW (s m : Nat) : List Nat := (List.range (m * s)).map fun i => (i / s) * s + (i % s + 1) % s
def ringC (s m : Nat) : List Nat := (List.range (m * s)).map fun i => ((i / s + 1) % m) * s + i % s
def ringU (s m : Nat) : List (List Nat) := (List.range m).flatMap fun b => (List.range s).map fun a => (List.range (m * s)).map fun i => ((i / s + b) % m) * s + (i % s + a) % s
theorem ring_small : ∀ s ∈ [1, 2, 3], ∀ m ∈ [1, 2, 3], (ringW s m).isPerm (List.range (m * s)) = true ∧ (ringC s m).isPerm (List.range (m * s)) = true ∧ List.range (m * s) ∈ ringU s m ∧ (∀ x ∈ ringU s m, comp (ringW s m) x ∈ ringU s m ∧ comp (ringC s m) x ∈ ringU s m) ∧ (ringU s m).length ≤ 9 := by decide +kernel
end KP

-- ranges with two ends; membership of data
namespace KW
open PySem PySem.Spec PyProof.Rows L2
section
variable {b : Bx} {F F' H H' : Hp} {as as' : List Addr} {s s' : S} {σ σ' : L2.St} {k : AV → S → Prop}
theorem reps_rg2 (K : PySem.W.Frag) (F : Hp) {i n : Nat} (h : i ≤ n) : Reps K F (rgV i n) ((List.range' i (n - i)).map fun (j : Nat) => D.int (j : Nat)) := by
  have := reps_rg K F i n
  rw [show ((n : Int) - (i : Int)).toNat = n - i by omega] at this
  rw [List.range'_eq_map_range, List.map_map]
  exact this
theorem we_tupRg2 {ta tb : TE} (h : WE b ta s fun x s1 => WE b tb s1 fun y s2 => ∃ (i n : Nat), x = .d (.int i) ∧ y = .d (.int n) ∧ i ≤ n ∧ n ≤ 16777216 ∧ k (.d (.tup ((List.range' i (n - i)).map fun (j : Nat) => D.int (j : Nat)))) s2) : WE b (tTupRg (tRg2 ta tb)) s k := fun F as σ H g Q q =>
  h F as σ H g _ fun v x s1 F1 as1 H1 h1 g1 e1 p1 r1 => h1 F1 as1 σ H1 g1 _ fun u y s2 F2 as2 H2 h2 g2 e2 p2 r2 => by
    obtain ⟨i, n, rfl, rfl, hi, hn, hk⟩ := h2
    refine ⟨i, n, Rep.int_inv (r1.mono e2 p2), Rep.int_inv r2, RgOk.of_le (by omega) (by omega) (by omega) (by omega), fun p hp => ?_⟩
    obtain ⟨g', e, r⟩ := fz_tup g2 hp (reps_rg2 b.K F2 hi)
    exact q _ _ _ _ _ _ hk g' ((e1.trans e2).trans e) (p1.trans p2) r
theorem ro_inD {ds : List D} {d : D} (hp : cmpD (.lst ds)) (hd : cmpD d) (hk : k (.d (.bl (ds.any fun z => PyData.eqv (pyD z) (pyD d)))) s) : RO b (rInD b.K) (.d d) (.d (.lst ds)) s k := fun F as σ H v w g r1 r2 Q q => by
  refine ⟨pyD d, pyDs ds, rep_dp g.gm.fh r1 hd.1, rep_dp g.gm.fh r2 hp.1, hd.2, hp.2, ?_⟩
  rw [pyDs_map, List.any_map]
  exact q _ _ s F as H hk g (.refl F) (.refl as) (Rep.bl _)
theorem ro_notInD {ds : List D} {d : D} (hp : cmpD (.lst ds)) (hd : cmpD d) (hk : k (.d (.bl (!ds.any fun z => PyData.eqv (pyD z) (pyD d)))) s) : RO b (rNotInD b.K) (.d d) (.d (.lst ds)) s k := fun F as σ H v w g r1 r2 Q q => by
  refine ⟨pyD d, pyDs ds, rep_dp g.gm.fh r1 hd.1, rep_dp g.gm.fh r2 hp.1, hd.2, hp.2, ?_⟩
  rw [pyDs_map, List.any_map]
  exact q _ _ s F as H hk g (.refl F) (.refl as) (Rep.bl _)
end
end KW

namespace K71
open PySem PySem.Spec PyProof.Rows L2 KW
/-- a def of the top, where it stands -/
structure DefAt (K : PySem.W.Frag) (mg : Str → Option Value) (x : Str) (st : Stmt) (f : Addr) (fd : FuncData) (ps : List Str) : Prop where
  m : mg x = some (.ref f)
  F : Fun K x x st f fd
  b : Binds K fd ps []
/-- a method -/
structure DefIn (K : PySem.W.Frag) (x qual : Str) (st : Stmt) (f : Addr) (fd : FuncData) (ps : List Str) : Prop where
  F : Fun K x qual st f fd
  b : Binds K fd ps []
def topS (i : Nat) : Stmt := PySem.Challenge.pw_kinwork_k71_whole_elements.main.body.getD i (.Pass ⟨0, 0, 0, 0⟩)
abbrev s_is_class_word : Stmt := topS 9
abbrev N_is_class_word : List Str := ["value", "letter"]
theorem sc_is_class_word : FnScope N_is_class_word ["value"] (defScope s_is_class_word) := ⟨rfl, rfl, rfl, by decide +kernel, rfl, by decide +kernel, by decide +kernel⟩
abbrev s_check_class_word : Stmt := topS 10
abbrev N_check_class_word : List Str := ["text"]
theorem sc_check_class_word : FnScope N_check_class_word ["text"] (defScope s_check_class_word) := ⟨rfl, rfl, rfl, by decide +kernel, rfl, by decide +kernel, by decide +kernel⟩
abbrev s_is_order : Stmt := topS 13
abbrev N_is_order : List Str := ["value", "size", "one"]
theorem sc_is_order : FnScope N_is_order ["value", "size"] (defScope s_is_order) := ⟨rfl, rfl, rfl, by decide +kernel, rfl, by decide +kernel, by decide +kernel⟩
abbrev s_turned_back : Stmt := topS 14
abbrev N_turned_back : List Str := ["order", "found", "at", "goal"]
theorem sc_turned_back : FnScope N_turned_back ["order"] (defScope s_turned_back) := ⟨rfl, rfl, rfl, by decide +kernel, rfl, by decide +kernel, by decide +kernel⟩
abbrev s_Society_init : Stmt := inClass (topS 15) 0
abbrev N_Society_init : List Str := ["self", "wives", "children", "size"]
theorem sc_Society_init : FnScope N_Society_init ["self", "wives", "children"] (defScope s_Society_init) := ⟨rfl, rfl, rfl, by decide +kernel, rfl, by decide +kernel, by decide +kernel⟩
abbrev s_Society_led : Stmt := inClass (topS 15) 3
abbrev N_Society_led : List Str := ["self", "place", "text"]
theorem sc_Society_led : FnScope N_Society_led ["self", "place", "text"] (defScope s_Society_led) := ⟨rfl, rfl, rfl, by decide +kernel, rfl, by decide +kernel, by decide +kernel⟩
abbrev s_Society_walked : Stmt := inClass (topS 15) 4
abbrev N_Society_walked : List Str := ["self", "place", "text", "letter"]
theorem sc_Society_walked : FnScope N_Society_walked ["self", "place", "text"] (defScope s_Society_walked) := ⟨rfl, rfl, rfl, by decide +kernel, rfl, by decide +kernel, by decide +kernel⟩
abbrev s_check_society : Stmt := topS 16
abbrev N_check_society : List Str := ["society"]
theorem sc_check_society : FnScope N_check_society ["society"] (defScope s_check_society) := ⟨rfl, rfl, rfl, by decide +kernel, rfl, by decide +kernel, by decide +kernel⟩
abbrev s_check_class : Stmt := topS 17
abbrev N_check_class : List Str := ["society", "place"]
theorem sc_check_class : FnScope N_check_class ["society", "place"] (defScope s_check_class) := ⟨rfl, rfl, rfl, by decide +kernel, rfl, by decide +kernel, by decide +kernel⟩
abbrev s_reached_from : Stmt := topS 18
abbrev N_reached_from : List Str := ["society", "first", "found", "known", "at", "goal"]
theorem sc_reached_from : FnScope N_reached_from ["society", "first"] (defScope s_reached_from) := ⟨rfl, rfl, rfl, by decide +kernel, rfl, by decide +kernel, by decide +kernel⟩
abbrev s_parts_of : Stmt := topS 19
abbrev N_parts_of : List Str := ["society", "found", "known", "first", "lot", "place"]
theorem sc_parts_of : FnScope N_parts_of ["society"] (defScope s_parts_of) := ⟨rfl, rfl, rfl, by decide +kernel, rfl, by decide +kernel, by decide +kernel⟩
abbrev s_is_whole : Stmt := topS 20
abbrev N_is_whole : List Str := ["society"]
theorem sc_is_whole : FnScope N_is_whole ["society"] (defScope s_is_whole) := ⟨rfl, rfl, rfl, by decide +kernel, rfl, by decide +kernel, by decide +kernel⟩
abbrev s_check_whole : Stmt := topS 21
abbrev N_check_whole : List Str := ["society"]
theorem sc_check_whole : FnScope N_check_whole ["society"] (defScope s_check_whole) := ⟨rfl, rfl, rfl, by decide +kernel, rfl, by decide +kernel, by decide +kernel⟩
abbrev s_word_orders : Stmt := topS 24
abbrev N_word_orders : List Str := ["society", "first", "found", "waiting", "order", "step", "more", "place"]
theorem sc_word_orders : FnScope N_word_orders ["society"] (defScope s_word_orders) := ⟨rfl, rfl, rfl, by decide +kernel, rfl, by decide +kernel, by decide +kernel⟩
abbrev s_is_free : Stmt := topS 25
abbrev N_is_free : List Str := ["society"]
theorem sc_is_free : FnScope N_is_free ["society"] (defScope s_is_free) := ⟨rfl, rfl, rfl, by decide +kernel, rfl, by decide +kernel, by decide +kernel⟩
abbrev s__law_deck : Stmt := topS 27
abbrev N__law_deck : List Str := ["script", "cells", "each", "deck", "seed", "k", "cell", "rest", "at"]
theorem sc__law_deck : FnScope N__law_deck ["script", "cells", "each"] (defScope s__law_deck) := ⟨rfl, rfl, rfl, by decide +kernel, rfl, by decide +kernel, by decide +kernel⟩
abbrev s__law_take : Stmt := topS 28
abbrev N__law_take : List Str := ["deck", "many"]
theorem sc__law_take : FnScope N__law_take ["deck", "many"] (defScope s__law_take) := ⟨rfl, rfl, rfl, by decide +kernel, rfl, by decide +kernel, by decide +kernel⟩
abbrev s__law_plain : Stmt := topS 29
abbrev N__law_plain : List Str := ["value", "item"]
theorem sc__law_plain : FnScope N__law_plain ["value"] (defScope s__law_plain) := ⟨rfl, rfl, rfl, by decide +kernel, rfl, by decide +kernel, by decide +kernel⟩
abbrev s__law_order : Stmt := topS 30
abbrev N__law_order : List Str := ["deck", "size", "left", "found"]
theorem sc__law_order : FnScope N__law_order ["deck", "size"] (defScope s__law_order) := ⟨rfl, rfl, rfl, by decide +kernel, rfl, by decide +kernel, by decide +kernel⟩
abbrev s__law_orders : Stmt := topS 31
abbrev N__law_orders : List Str := ["deck", "most", "size"]
theorem sc__law_orders : FnScope N__law_orders ["deck", "most"] (defScope s__law_orders) := ⟨rfl, rfl, rfl, by decide +kernel, rfl, by decide +kernel, by decide +kernel⟩
abbrev s__law_led : Stmt := topS 32
abbrev N__law_led : List Str := ["pair", "place", "text", "letter"]
theorem sc__law_led : FnScope N__law_led ["pair", "place", "text"] (defScope s__law_led) := ⟨rfl, rfl, rfl, by decide +kernel, rfl, by decide +kernel, by decide +kernel⟩
abbrev s__law_letters : Stmt := topS 33
abbrev N__law_letters : List Str := ["deck", "most", "turn"]
theorem sc__law_letters : FnScope N__law_letters ["deck", "most"] (defScope s__law_letters) := ⟨rfl, rfl, rfl, by decide +kernel, rfl, by decide +kernel, by decide +kernel⟩
abbrev s__law_lots : Stmt := topS 34
abbrev N__law_lots : List Str := ["pair", "size", "names", "turn", "place", "goal", "low", "lots", "name"]
theorem sc__law_lots : FnScope N__law_lots ["pair"] (defScope s__law_lots) := ⟨rfl, rfl, rfl, by decide +kernel, rfl, by decide +kernel, by decide +kernel⟩
abbrev s__law_made : Stmt := topS 35
abbrev N__law_made : List Str := ["pair", "size", "found", "again", "many", "order", "way", "place"]
theorem sc__law_made : FnScope N__law_made ["pair"] (defScope s__law_made) := ⟨rfl, rfl, rfl, by decide +kernel, rfl, by decide +kernel, by decide +kernel⟩
abbrev s__law_many : Stmt := topS 36
abbrev N__law_many : List Str := ["deck", "size", "wives", "children", "error"]
theorem sc__law_many : FnScope N__law_many ["deck"] (defScope s__law_many) := ⟨rfl, rfl, rfl, by decide +kernel, rfl, by decide +kernel, by decide +kernel⟩
abbrev s_law : Stmt := topS 37
abbrev N_law : List Str := ["script", "deck", "pair", "size", "rows", "seats", "row", "wives", "society", "due", "text", "error", "goals", "place", "order"]
theorem sc_law : FnScope N_law ["script"] (defScope s_law) := ⟨rfl, rfl, rfl, by decide +kernel, rfl, by decide +kernel, by decide +kernel⟩
structure AD where
  f_is_class_word : Addr
  fd_is_class_word : FuncData
  f_check_class_word : Addr
  fd_check_class_word : FuncData
  f_is_order : Addr
  fd_is_order : FuncData
  f_turned_back : Addr
  fd_turned_back : FuncData
  f_Society_init : Addr
  fd_Society_init : FuncData
  f_Society_led : Addr
  fd_Society_led : FuncData
  f_Society_walked : Addr
  fd_Society_walked : FuncData
  f_check_society : Addr
  fd_check_society : FuncData
  f_check_class : Addr
  fd_check_class : FuncData
  f_reached_from : Addr
  fd_reached_from : FuncData
  f_parts_of : Addr
  fd_parts_of : FuncData
  f_is_whole : Addr
  fd_is_whole : FuncData
  f_check_whole : Addr
  fd_check_whole : FuncData
  f_word_orders : Addr
  fd_word_orders : FuncData
  f_is_free : Addr
  fd_is_free : FuncData
  f__law_deck : Addr
  fd__law_deck : FuncData
  f__law_take : Addr
  fd__law_take : FuncData
  f__law_plain : Addr
  fd__law_plain : FuncData
  f__law_order : Addr
  fd__law_order : FuncData
  f__law_orders : Addr
  fd__law_orders : FuncData
  f__law_led : Addr
  fd__law_led : FuncData
  f__law_letters : Addr
  fd__law_letters : FuncData
  f__law_lots : Addr
  fd__law_lots : FuncData
  f__law_made : Addr
  fd__law_made : FuncData
  f__law_many : Addr
  fd__law_many : FuncData
  f_law : Addr
  fd_law : FuncData
  C_InvalidWord : Addr
  C_InvalidSociety : Addr
  C_TooMany : Addr
  C_Society : Addr
structure Txt (P : Program) (w : World) (A : AD) (K : PySem.W.Frag) (mg : Str → Option Value) : Prop where
  d_is_class_word : DefAt K mg "is_class_word" s_is_class_word A.f_is_class_word A.fd_is_class_word ["value"]
  d_check_class_word : DefAt K mg "check_class_word" s_check_class_word A.f_check_class_word A.fd_check_class_word ["text"]
  d_is_order : DefAt K mg "is_order" s_is_order A.f_is_order A.fd_is_order ["value", "size"]
  d_turned_back : DefAt K mg "turned_back" s_turned_back A.f_turned_back A.fd_turned_back ["order"]
  d_Society_init : DefIn K "__init__" "Society.__init__" s_Society_init A.f_Society_init A.fd_Society_init ["self", "wives", "children"]
  d_Society_led : DefIn K "led" "Society.led" s_Society_led A.f_Society_led A.fd_Society_led ["self", "place", "text"]
  d_Society_walked : DefIn K "walked" "Society.walked" s_Society_walked A.f_Society_walked A.fd_Society_walked ["self", "place", "text"]
  d_check_society : DefAt K mg "check_society" s_check_society A.f_check_society A.fd_check_society ["society"]
  d_check_class : DefAt K mg "check_class" s_check_class A.f_check_class A.fd_check_class ["society", "place"]
  d_reached_from : DefAt K mg "reached_from" s_reached_from A.f_reached_from A.fd_reached_from ["society", "first"]
  d_parts_of : DefAt K mg "parts_of" s_parts_of A.f_parts_of A.fd_parts_of ["society"]
  d_is_whole : DefAt K mg "is_whole" s_is_whole A.f_is_whole A.fd_is_whole ["society"]
  d_check_whole : DefAt K mg "check_whole" s_check_whole A.f_check_whole A.fd_check_whole ["society"]
  d_word_orders : DefAt K mg "word_orders" s_word_orders A.f_word_orders A.fd_word_orders ["society"]
  d_is_free : DefAt K mg "is_free" s_is_free A.f_is_free A.fd_is_free ["society"]
  d__law_deck : DefAt K mg "_law_deck" s__law_deck A.f__law_deck A.fd__law_deck ["script", "cells", "each"]
  d__law_take : DefAt K mg "_law_take" s__law_take A.f__law_take A.fd__law_take ["deck", "many"]
  d__law_plain : DefAt K mg "_law_plain" s__law_plain A.f__law_plain A.fd__law_plain ["value"]
  d__law_order : DefAt K mg "_law_order" s__law_order A.f__law_order A.fd__law_order ["deck", "size"]
  d__law_orders : DefAt K mg "_law_orders" s__law_orders A.f__law_orders A.fd__law_orders ["deck", "most"]
  d__law_led : DefAt K mg "_law_led" s__law_led A.f__law_led A.fd__law_led ["pair", "place", "text"]
  d__law_letters : DefAt K mg "_law_letters" s__law_letters A.f__law_letters A.fd__law_letters ["deck", "most"]
  d__law_lots : DefAt K mg "_law_lots" s__law_lots A.f__law_lots A.fd__law_lots ["pair"]
  d__law_made : DefAt K mg "_law_made" s__law_made A.f__law_made A.fd__law_made ["pair"]
  d__law_many : DefAt K mg "_law_many" s__law_many A.f__law_many A.fd__law_many ["deck"]
  d_law : DefAt K mg "law" s_law A.f_law A.fd_law ["script"]
  z_abs : mg "abs" = none
  z_all : mg "all" = none
  z_bool : mg "bool" = none
  z_enumerate : mg "enumerate" = none
  z_int : mg "int" = none
  z_isinstance : mg "isinstance" = none
  z_len : mg "len" = none
  z_list : mg "list" = none
  z_min : mg "min" = none
  z_range : mg "range" = none
  z_set : mg "set" = none
  z_sorted : mg "sorted" = none
  z_str : mg "str" = none
  z_tuple : mg "tuple" = none
  g_LETTERS : ∃ t, mg "LETTERS" = some (.str "ABab" t)
  g_MOST_LETTERS : ∃ t, mg "MOST_LETTERS" = some (.int 1000 t)
  g_MOST_CLASSES : ∃ t, mg "MOST_CLASSES" = some (.int 400 t)
  g_MOST_ELEMENTS : ∃ t, mg "MOST_ELEMENTS" = some (.int 2000 t)
  n_InvalidWord : mg "InvalidWord" = some (.ref A.C_InvalidWord)
  e_InvalidWord : ErrK P K mg A.C_InvalidWord ["what"]
  n_InvalidSociety : mg "InvalidSociety" = some (.ref A.C_InvalidSociety)
  e_InvalidSociety : ErrK P K mg A.C_InvalidSociety ["what"]
  n_TooMany : mg "TooMany" = some (.ref A.C_TooMany)
  e_TooMany : ErrK P K mg A.C_TooMany ["what", "many"]
  n_Society : mg "Society" = some (.ref A.C_Society)
  c_Society : Cls K A.C_Society
  k_Society : Mk K A.C_Society A.f_Society_init
  m_Society_led : Meth K A.C_Society "led" A.f_Society_led
  m_Society_walked : Meth K A.C_Society "walked" A.f_Society_walked
  a_Society_size : NoAttr K A.C_Society "size"
  a_Society_wives : NoAttr K A.C_Society "wives"
  a_Society_children : NoAttr K A.C_Society "children"
  a_Society_moves : NoAttr K A.C_Society "moves"
  i_Society : IsC K A.C_Society
end K71


open PySem PySem.Spec PyProof.Rows L2 KW
local macro_rules | `(tactic| walk_at "kw1") => `(tactic| (first | ((with_reducible refine' we_vd (h := ?hh) ?_); (case hh => rfl)) | ((with_reducible refine' we_vc (h := ?hh) ?_); (case hh => rfl)) | ((with_reducible refine' wg_tup2 (hn := ?hh) ?_); (case hh => rfl)) | ((with_reducible refine' wg_tup3 (hn := ?hh) ?_); (case hh => rfl)) | (with_reducible refine we_fldA ?_) | (with_reducible refine we_own ?_) | (with_reducible refine we_methFN ?_) | (with_reducible refine we_din ?_) | (with_reducible refine we_dnin ?_) | (with_reducible refine we_dget ?_) | (with_reducible refine ro_ip ?_) | (with_reducible refine wa_cons ?_) | (with_reducible refine wa_nil ?_) | (with_reducible refine we_int ?_) | (with_reducible refine we_str ?_) | (with_reducible refine we_bl ?_) | (with_reducible refine we_non ?_) | (with_reducible refine we_ty ?_) | (with_reducible refine we_op ?_) | (with_reducible refine we_un ?_) | (with_reducible refine we_cb ?_) | (with_reducible refine ws_seq ?_) | (with_reducible refine ws_ret ?_) | (with_reducible refine ws_retN ?_) | (with_reducible refine ws_asg ?_) | (with_reducible refine wg_name ?_) | (with_reducible refine ws_drop ?_) | (with_reducible refine ws_next ?_) | (with_reducible refine wgs_nil ?_) | (with_reducible refine wgs_cons ?_) | (with_reducible refine wt_yes ?_) | (with_reducible refine ws_if ?_) | (with_reducible refine wt_or ?_) | (with_reducible refine wt_and ?_) | (with_reducible refine wt_not ?_) | (with_reducible refine we_if ?_) | (with_reducible refine we_andV ?_) | (with_reducible refine we_orV ?_) | (with_reducible refine we_notV ?_) | (with_reducible refine wt_test ?_) | (with_reducible refine wt_B ?_) | (with_reducible refine we_chain ?_) | (with_reducible refine we_tupd ?_) | (with_reducible refine wpr_nil ?_) | (with_reducible refine wpr_cons ?_) | (with_reducible refine we_disp ?_) | (with_reducible refine we_callN ?_) | (with_reducible refine we_callN0 ?_) | (with_reducible refine we_callFN ?_) | (with_reducible refine we_callFN0 ?_) | (with_reducible refine ro_ii ?_) | (with_reducible refine ro_ib ?_) | (with_reducible refine ro_eqi ?_) | (with_reducible refine ro_nei ?_) | (with_reducible refine ro_eqs ?_) | (with_reducible refine ro_nes ?_) | (with_reducible refine ru_i ?_) | (with_reducible refine boolE ?_) | (with_reducible refine nT ?_) | (with_reducible refine nF ?_) | (with_reducible refine noT ?_) | (with_reducible refine noF ?_) | (with_reducible refine cTT ?_) | (with_reducible refine cFF ?_) | (with_reducible refine oT ?_) | (with_reducible refine oF ?_) | (with_reducible refine tl0 ?_) | (with_reducible refine tl1 ?_) | (with_reducible refine tl2 ?_) | (with_reducible refine tl3 ?_) | (with_reducible refine tl4 ?_) | (with_reducible refine al1 ?_) | (with_reducible refine al2 ?_) | (with_reducible refine al3 ?_) | (with_reducible refine al4 ?_) | ((with_reducible refine we_dispT ?_)) | ((with_reducible refine' fa_d (hC := ?h1) (hn := ?h2) (hl := ?h3) ?_); (case h3 => rfl); (case h1 => first | exact (show K71.Txt _ _ _ _ _ by assumption).c_Society); (case h2 => first | exact (show K71.Txt _ _ _ _ _ by assumption).a_Society_size | exact (show K71.Txt _ _ _ _ _ by assumption).a_Society_wives | exact (show K71.Txt _ _ _ _ _ by assumption).a_Society_children | exact (show K71.Txt _ _ _ _ _ by assumption).a_Society_moves)) | ((with_reducible refine' fa_c (hC := ?h1) (hn := ?h2) (hl := ?h3) ?_); (case h3 => exact ⟨rfl, rfl⟩); (case h1 => first | exact (show K71.Txt _ _ _ _ _ by assumption).c_Society); (case h2 => first | exact (show K71.Txt _ _ _ _ _ by assumption).a_Society_size | exact (show K71.Txt _ _ _ _ _ by assumption).a_Society_wives | exact (show K71.Txt _ _ _ _ _ by assumption).a_Society_children | exact (show K71.Txt _ _ _ _ _ by assumption).a_Society_moves)) | ((with_reducible refine' ⟨_, dl_ci (hc := ?hh), ?_⟩); (case hh => rfl)) | ((with_reducible refine' ⟨_, dl_cs (hc := ?hh), ?_⟩); (case hh => rfl)) | ((with_reducible refine' we_callF (hW := ?hh) ?_); (case hh => assumption)) | ((with_reducible refine' we_methF (hW := ?hh) ?_); (case hh => assumption)) | ((with_reducible refine' ro_ixT (h := ?hh) ?_); (case hh => rfl)) | ((with_reducible refine' ro_ixTn (h := ?hh) ?_); (case hh => assumption)) | ((with_reducible refine' ro_ixLn (h := ?hh) ?_); (case hh => assumption)) | ((with_reducible refine' ro_ixLcn (hc := ?hh) (h := ?h2) ?_); (case hh => rfl); (case h2 => assumption))))
local macro_rules | `(tactic| walk_at "kw") => `(tactic| (repeat (walk_at "kw1")))
namespace K71
open PySem PySem.Spec PyProof.Rows L2 KW
def isIntD : D → Bool
  | .int _ => true
  | _ => false
def isBlD : D → Bool
  | .bl _ => true
  | _ => false
theorem kb_int {d : D} {t : String} (h : tyS d = some t) : kitB t "int" = some (isIntD d || isBlD d) := by
  cases d <;> first | (cases h; rfl) | cases h
theorem kb_bool {d : D} {t : String} (h : tyS d = some t) : kitB t "bool" = some (isBlD d) := by
  cases d <;> first | (cases h; rfl) | cases h
section
variable {P : Program} {w : World} {A : AD} {K : PySem.W.Frag} {mg : Str → Option Value} {base : Heap}
-- ### class words
/-- the letters of a class word -/
def isLet (c : Nat) : Bool := c == 65 || c == 66 || c == 97 || c == 98
def isCW (z : Str) : Bool := decide (z.length ≤ 1000) && z.cps.toList.all isLet
theorem letters_mem (c : Nat) : decide (c ∈ (PySem.Str.ofString "ABab").cps.toList) = isLet c := by
  have : (PySem.Str.ofString "ABab").cps.toList = [65, 66, 97, 98] := by decide +kernel
  rw [this]
  unfold isLet
  by_cases h1 : c = 65
  · subst h1; rfl
  by_cases h2 : c = 66
  · subst h2; rfl
  by_cases h3 : c = 97
  · subst h3; rfl
  by_cases h4 : c = 98
  · subst h4; rfl
  simp [h1, h2, h3, h4]
def isCWD : D → Bool
  | .str z => isCW z
  | _ => false
def tyd (d : D) : Prop := ∃ t, tyS d = some t
theorem kb_str {d : D} {t : String} (h : tyS d = some t) : kitB t "str" = some (match d with | .str _ => true | _ => false) := by
  have e1 : kitB "NoneType" "str" = some false := by decide +kernel
  have e2 : kitB "bool" "str" = some false := by decide +kernel
  have e3 : kitB "int" "str" = some false := by decide +kernel
  have e4 : kitB "str" "str" = some true := by decide +kernel
  have e5 : kitB "dict" "str" = some false := by decide +kernel
  have e6 : kitB "list" "str" = some false := by decide +kernel
  have e7 : kitB "tuple" "str" = some false := by decide +kernel
  cases d <;> first | (cases h; first | exact e1 | exact e2 | exact e3 | exact e4 | exact e5 | exact e6 | exact e7) | cases h
abbrev sp_is_class_word (A : AD) (K : PySem.W.Frag) : Sp := spF (α := D) K (fun a ds => ds = [a] ∧ tyd a ∧ ∀ z, a = .str z → z.length ≤ sizeLine) (fun a r => r = .bl (isCWD a)) (fun _ _ _ => False)
theorem ok_is_class_word (T : Txt P w A K mg) : FnOk P w K mg base (L2.CX P w) 1 A.f_is_class_word A.fd_is_class_word ["value"] (sp_is_class_word A K) := by
  refine okF T.d_is_class_word.F sc_is_class_word (fun a ds ⟨h, _⟩ => by rw [h]; rfl) fun cdv Ar outer sh H E hr => ⟨_, (pss_one (ps_ret (pe_and (pe_callB (id := "isinstance") (show CallR _ (.builtin "isinstance") (rIsi K) from call_isi) (by rfl) T.z_isinstance (by decide +kernel) (pa_cons (pv 0) (pa_cons (pe_bltn (v := .ty "str") (u := .type "str") rfl T.z_str (by decide +kernel) rfl) pa_nil))) (pe_and (pe_cmpR op_le (pe_callB (id := "len") (show CallR _ (.builtin "len") ((fun xs H Q => ∃ x n, xs = [x] ∧ LenV K x H n ∧ Q (.int n) H)) from call_len) (by rfl) T.z_len (by decide +kernel) (pa_cons (pv 0) pa_nil)) (pe_glob (v := .int 1000) rfl T.g_MOST_LETTERS.choose_spec ⟨_, rfl⟩) (nomark _)) (pe_one (pe_callB (id := "all") (show CallR _ (.builtin "all") (rAll K) from (cr_all rfl)) (by rfl) T.z_all (by decide +kernel) (pa_cons (pe_lc (own := [("letter", 1)]) (g := (gName 1)) (by rfl) sc_is_class_word.nd (pi_str (pv 0)) (blkOk_by (own := [("letter", 1)]) (N := N_is_class_word) (sc := defScope s_is_class_word) (by decide +kernel)) (fun _ _ _ _ _ => (pg_name (i := 1) sc_is_class_word.nd rfl (by first | exact Or.inl rfl | exact Or.inr rfl))) (fun _ _ _ _ _ => pts_nil) (fun _ _ _ _ _ => (pe_cmpR op_in_sign (pv 1) (pe_glob (v := .str "ABab") rfl T.g_LETTERS.choose_spec ⟨_, rfl⟩) (by rfl)))) pa_nil))))))), fun B F0 a0 a ds kk ex hx hp hk hex => ?_⟩
  obtain ⟨rfl, ⟨t, ht⟩, hz⟩ := hp
  walk_at "kw"
  refine rc_isi ht (kb_str ht) ?_
  walk_at "kw"
  refine ⟨fun h => ?_, fun h => hk _ _ ?_⟩
  rotate_left
  · cases a <;> first | rfl | cases h
  obtain ⟨z, rfl⟩ : ∃ z, a = .str z := by
    cases a <;> first | exact ⟨_, rfl⟩ | cases h
  have hz := hz z rfl
  walk_at "kw"
  refine rc_lenS hz ?_
  walk_at "kw"
  refine ⟨fun h1 => ?_, fun h1 => hk _ _ ?_⟩
  · walk_at "kw"
    refine we_lcmap (own_name (by decide)) ?_
    refine wi_str ?_
    walk_at "kw"
    refine ⟨z, rfl, ?_, (by intro c hc; cases hc), fun d => match d with | .str y => .bl (isLet (y.cps.toList.headD 0)) | _ => .bl false, fun i d acc hd => ?_, ?_⟩
    · unfold KW.signs
      rw [List.length_map]
      exact hz
    · unfold KW.signs at hd
      rw [List.getElem?_map] at hd
      obtain ⟨c, hc, rfl⟩ := Option.map_eq_some_iff.mp hd
      walk_at "kw"
      refine ro_inS ⟨?_, rfl⟩
      rw [letters_mem]
      rfl
    · walk_at "kw"
      have : (KW.signs z).map (fun d => match d with | .str y => D.bl (isLet (y.cps.toList.headD 0)) | _ => .bl false) = (List.map isLet z.cps.toList).map D.bl := by
        unfold KW.signs
        rw [List.map_map, List.map_map]
        rfl
      rw [this]
      refine rc_all ?_
      refine hk _ _ ?_
      have h2 : z.length ≤ 1000 := by have := of_decide_eq_true h1; omega
      show _ = D.bl (isCW z)
      unfold isCW
      rw [decide_eq_true h2, Bool.true_and, List.all_map]
      rfl
  · show _ = D.bl (isCW z)
    unfold isCW
    have h2 : ¬ z.length ≤ 1000 := by have := of_decide_eq_false h1; omega
    rw [decide_eq_false h2, Bool.false_and]
/-- an error of a class with its text -/
abbrev err (C : Addr) (what : Str) : Addr → List (Str × D) → Prop := fun C1 fs => C1 = C ∧ fs = [(("what" : Str), D.str what)]
abbrev sp_check_class_word (A : AD) (K : PySem.W.Frag) : Sp := spF (α := D) K (fun a ds => ds = [a] ∧ tyd a ∧ ∀ z, a = .str z → z.length ≤ sizeLine) (fun a r => r = .non ∧ isCWD a = true) (fun a C fs => err A.C_InvalidWord "class" C fs ∧ isCWD a = false)
theorem ok_check_class_word (T : Txt P w A K mg) : FnOk P w K mg base (L2.CX P w) 2 A.f_check_class_word A.fd_check_class_word ["text"] (sp_check_class_word A K) := by
  refine okF T.d_check_class_word.F sc_check_class_word (fun a ds ⟨h, _⟩ => by rw [h]; rfl) fun cdv Ar outer sh H E hr => ⟨_, (pss_one (ps_if (pt_not (pt_val (show PE _ _ (tCallS (sp_is_class_word A K) _ _) from (pe_callS (ok_is_class_word T) (hr.mono (by decide)) rfl T.d_is_class_word.m T.d_is_class_word.F.kp T.d_is_class_word.b (fun σ => passAt (takes_of rfl rfl rfl rfl) σ) (pa_cons (pv 0) pa_nil))))) (pss_one (ps_raise rfl (takes_of rfl rfl rfl rfl) (pmk_err T.e_InvalidWord T.n_InvalidWord hr (pa_cons pe_str pa_nil)))) pss_nil)), fun B F0 a0 a ds kk ex hx hp hk hex => ?_⟩
  obtain ⟨rfl, ht, hz⟩ := hp
  walk_at "kw"
  refine ⟨a, ⟨rfl, ht, hz⟩, fun d hd => ?_⟩
  subst hd
  walk_at "kw"
  refine ⟨fun h => ?_, fun h => ws_next (hk _ _ ⟨rfl, by simpa using h⟩)⟩
  refine ws_raise hx ?_
  walk_at "kw"
  exact ⟨rfl, hex _ _ _ ⟨⟨rfl, rfl⟩, by simpa using h⟩⟩
end
end K71


namespace K71
-- ### orders
def itemsD : D → Option (List D)
  | .lst l => some l
  | .tup l => some l
  | _ => none
def intD : D → Int
  | .int i => i
  | _ => 0
def rgI (n : Nat) : List Int := (List.range n).map fun (i : Nat) => (i : Int)
def isOrdL (l : List D) (n : Nat) : Bool := decide (l.length = n) && (l.all isIntD && decide ((l.map intD).Perm (rgI n)))
def isOrd (v : D) (n : Nat) : Bool := match itemsD v with
  | some l => isOrdL l n
  | none => false
theorem kits_seq {v : D} {t : String} (h : tyS v = some t) : kitsB t ["list", "tuple"] = some (itemsD v).isSome := by
  have e1 : kitsB "NoneType" ["list", "tuple"] = some false := by decide +kernel
  have e2 : kitsB "bool" ["list", "tuple"] = some false := by decide +kernel
  have e3 : kitsB "int" ["list", "tuple"] = some false := by decide +kernel
  have e4 : kitsB "str" ["list", "tuple"] = some false := by decide +kernel
  have e5 : kitsB "dict" ["list", "tuple"] = some false := by decide +kernel
  have e6 : kitsB "list" ["list", "tuple"] = some true := by decide +kernel
  have e7 : kitsB "tuple" ["list", "tuple"] = some true := by decide +kernel
  cases v <;> first | (cases h; first | exact e1 | exact e2 | exact e3 | exact e4 | exact e5 | exact e6 | exact e7) | cases h
theorem all_ints : ∀ {l : List D}, l.all isIntD = true → l = (l.map intD).map .int
  | [], _ => rfl
  | d :: l, h => by
    rw [List.all_cons, Bool.and_eq_true] at h
    rw [List.map_cons, List.map_cons, ← all_ints h.2]
    cases d <;> first | rfl | cases h.1
theorem filter_bad (l : List D) : (l.filter fun d => !(isIntD d)).isEmpty = l.all isIntD := by
  induction l with
  | nil => rfl
  | cons d l ih =>
    rw [List.all_cons, ← ih]
    cases h : isIntD d
    · rw [List.filter_cons_of_pos (by rw [h]; rfl)]
      rfl
    · rw [List.filter_cons_of_neg (by rw [h]; simp)]
      rfl
theorem sorted_perm {a b : List Int} (p : a.Perm b) (ha : a.Pairwise (· ≤ ·)) (hb : b.Pairwise (· ≤ ·)) : a = b :=
  List.Perm.eq_of_pairwise (le := (· ≤ ·)) (fun x y _ _ h1 h2 => Int.le_antisymm h1 h2) ha hb p
theorem rgI_sorted (n : Nat) : (rgI n).Pairwise (· ≤ ·) := by
  unfold rgI
  rw [List.pairwise_map]
  exact (List.pairwise_lt_range (n := n)).imp fun h => by omega
theorem sorted_eq {l ns : List Int} {n : Nat} (p : ns.Perm l) (s : ns.Pairwise (· ≤ ·)) : decide (ns = rgI n) = decide (l.Perm (rgI n)) := by
  by_cases h : l.Perm (rgI n)
  · rw [decide_eq_true h]
    exact decide_eq_true (sorted_perm (p.trans h) s (rgI_sorted n))
  · rw [decide_eq_false h]
    exact decide_eq_false fun e => h (by rw [← e]; exact p.symm)
section
variable {P : Program} {w : World} {A : AD} {K : PySem.W.Frag} {mg : Str → Option Value} {base : Heap}
abbrev sp_is_order (A : AD) (K : PySem.W.Frag) : Sp := spD K (fun ds => ∃ v, ∃ n : Nat, ds = [v, .int n] ∧ tyd v ∧ n ≤ 10000 ∧ ∀ l, itemsD v = some l → ∀ d ∈ l, tyd d) (fun ds r => ∃ v, ∃ n : Nat, ds = [v, .int n] ∧ r = .bl (isOrd v n)) (fun _ _ _ => False)
theorem ok_is_order (T : Txt P w A K mg) : FnOk P w K mg base (L2.CX P w) 1 A.f_is_order A.fd_is_order ["value", "size"] (sp_is_order A K) := by
  refine okD T.d_is_order.F sc_is_order (fun ds ⟨v, n, h, _⟩ => by rw [h]; rfl) fun cdv Ar outer sh H E hr => ⟨_, (pss_cons (ps_if (PW.pt (pw_or (pt_not (pt_val (pe_callB (id := "isinstance") (show CallR _ (.builtin "isinstance") (rIsiT K) from call_isiT) (by rfl) T.z_isinstance (by decide +kernel) (pa_cons (pv 0) (pa_cons (pe_tup (pa_cons (pe_bltn (v := .ty "list") (u := .type "list") rfl T.z_list (by decide +kernel) rfl) (pa_cons (pe_bltn (v := .ty "tuple") (u := .type "tuple") rfl T.z_tuple (by decide +kernel) rfl) pa_nil))) pa_nil))))) (pw_or1 (pt_cmpR op_ne (pe_callB (id := "len") (show CallR _ (.builtin "len") ((fun xs H Q => ∃ x n, xs = [x] ∧ LenV K x H n ∧ Q (.int n) H)) from call_len) (by rfl) T.z_len (by decide +kernel) (pa_cons (pv 0) pa_nil)) (pv 1) (nomark _))))) (pss_one (ps_ret pe_bl)) pss_nil)
      (pss_cons (ps_if (show PT _ _ (tTru K _) from pt_truth (pe_lc (own := [("one", 2)]) (g := (gName 2)) (by rfl) sc_is_order.nd (pi_or (show PI _ _ _ (iList K _) from pi_list (pv 0)) (show PI _ _ _ (iTup K _) from pi_tup (pv 0))) (blkOk_by (own := [("one", 2)]) (N := N_is_order) (sc := defScope s_is_order) (by decide +kernel)) (fun _ _ _ _ _ => (pg_name (i := 2) sc_is_order.nd rfl (by first | exact Or.inl rfl | exact Or.inr rfl))) (fun _ _ _ _ _ => (pts_one (PW.pt (pw_or (pt_not (pt_val (pe_callB (id := "isinstance") (show CallR _ (.builtin "isinstance") (rIsi K) from call_isi) (by rfl) T.z_isinstance (by decide +kernel) (pa_cons (pv 2) (pa_cons (pe_bltn (v := .ty "int") (u := .type "int") rfl T.z_int (by decide +kernel) rfl) pa_nil))))) (pw_or1 (pt_val (pe_callB (id := "isinstance") (show CallR _ (.builtin "isinstance") (rIsi K) from call_isi) (by rfl) T.z_isinstance (by decide +kernel) (pa_cons (pv 2) (pa_cons (pe_bltn (v := .ty "bool") (u := .type "bool") rfl T.z_bool (by decide +kernel) rfl) pa_nil))))))))) (fun _ _ _ _ _ => (pv 2))) (by intro _; rfl)) (pss_one (ps_ret pe_bl)) pss_nil)
      (pss_one (ps_ret (pe_cmpR (show OpR _ (compareOp .Eq) (rEqD K) from (op_eqD hr.units)) (pe_callB (id := "sorted") (show CallR _ (.builtin "sorted") ((fun xs H Q => rSortedI K xs H Q ∨ rSortedIT K xs H Q)) from (cr_sortedI.or cr_sortedIT)) (by rfl) T.z_sorted (by decide +kernel) (pa_cons (pv 0) pa_nil)) (pe_listRg rfl rfl T.z_list (prg_1 rfl T.z_range (pv 1))) (nomark _)))))), fun B F0 a0 ds kk ex hx hp hk hex => ?_⟩
  obtain ⟨v, n, rfl, ⟨t, ht⟩, hn, hl⟩ := hp
  walk_at "kw"
  refine rc_isiT (ns := ["list", "tuple"]) ht (kits_seq ht) ?_
  walk_at "kw"
  refine ⟨?_, ?_⟩
  rotate_left
  · -- no sequence
    intro h
    walk_at "kw"
    refine hk _ _ ⟨v, n, rfl, ?_⟩
    unfold isOrd
    cases q : itemsD v with
    | none => rfl
    | some l => rw [q] at h; cases h
  · intro h
    obtain ⟨l, q⟩ : ∃ l, itemsD v = some l := by
      cases q : itemsD v with
      | none => rw [q] at h; cases h
      | some l => exact ⟨l, rfl⟩
    have hvl : v = .lst l ∨ v = .tup l := by
      cases v <;> first | (cases q; first | exact .inl rfl | exact .inr rfl) | cases q
    walk_at "kw"
    refine rc_lenLT hvl ?_
    walk_at "kw"
    refine ⟨fun h2 => ?_, fun h2 => ?_⟩
    · walk_at "kw"
      refine hk _ _ ⟨v, n, rfl, ?_⟩
      unfold isOrd
      rw [q]
      show _ = D.bl (isOrdL l n)
      unfold isOrdL
      rw [decide_eq_false (by simp at h2; omega), Bool.false_and]
    · have hln : l.length = n := by simp at h2; omega
      walk_at "kw"
      refine wt_T (we_lcfil (own_name (by decide)) (wi_LTv rfl hvl ⟨by rw [hln]; exact Nat.le_trans hn (by decide), (by intro c hc; cases hc), fun d => !(isIntD d), id, fun i d acc hd => ?_, ?_⟩))
      · obtain ⟨t2, ht2⟩ := hl l q d (List.mem_of_getElem? hd)
        walk_at "kw"
        refine rc_isi ht2 (kb_int ht2) ?_
        walk_at "kw"
        refine ⟨fun h => ?_, fun h => ?_⟩
        · walk_at "kw"
          refine rc_isi ht2 (kb_bool ht2) ?_
          walk_at "kw"
          refine ⟨?_, rfl, fun _ => ?_⟩
          · cases d <;> first | rfl | cases h
          · walk_at "kw"
            exact ⟨rfl, rfl⟩
        · refine ⟨?_, rfl, fun _ => ?_⟩
          · cases d <;> first | rfl | cases h
          · walk_at "kw"
            exact ⟨rfl, rfl⟩
      · refine ⟨_, _, rfl, rfl, ?_⟩
        rw [List.map_id, filter_bad]
        cases hall : l.all isIntD with
        | false =>
          refine cTT ?_
          walk_at "kw"
          refine hk _ _ ⟨v, n, rfl, ?_⟩
          unfold isOrd
          rw [q]
          show _ = D.bl (isOrdL l n)
          unfold isOrdL
          rw [hall, Bool.false_and, Bool.and_false]
        | true =>
          have hli := all_ints hall
          generalize hns : l.map intD = ns at hli
          refine cFF ?_
          walk_at "kw"
          refine rc_sortLT (ns := ns) (by rw [← hli]; exact hvl) fun ns' hp hs => ?_
          walk_at "kw"
          refine we_lstRg1 ?_
          walk_at "kw"
          refine ⟨n, rfl, by omega, ?_⟩
          have e1 : (List.range n).map (fun i => D.int ((i : Nat) : Int)) = (rgI n).map D.int := by
            unfold rgI
            rw [List.map_map]
            rfl
          rw [e1]
          refine ro_eqD cmp_intsL cmp_intsL ?_
          refine hk _ _ ⟨v, n, rfl, ?_⟩
          rw [eqv_intsL]
          unfold isOrd
          rw [q]
          show _ = D.bl (isOrdL l n)
          unfold isOrdL
          rw [decide_eq_true hln, hall, hns, Bool.true_and, Bool.true_and, sorted_eq hp hs]
end
end K71


namespace K71
-- ### an order turned back
def invU (w : List Nat) : Nat → List Nat
  | 0 => List.replicate w.length 0
  | i + 1 => (invU w i).set (w.getD i 0) i
def invL (w : List Nat) : List Nat := invU w w.length
theorem invU_length (w : List Nat) : ∀ i, (invU w i).length = w.length
  | 0 => List.length_replicate
  | i + 1 => by rw [invU, List.length_set, invU_length w i]
theorem invL_length (w : List Nat) : (invL w).length = w.length := invU_length w _
theorem invU_get {w : List Nat} (hn : w.Nodup) (hw : ∀ x ∈ w, x < w.length) : ∀ (k i x : Nat), i < k → k ≤ w.length → w[i]? = some x → (invU w k)[x]? = some i
  | 0, i, x, h, _, _ => absurd h (Nat.not_lt_zero _)
  | k + 1, i, x, h, hk, hx => by
    have hxl : x < w.length := hw x (List.mem_of_getElem? hx)
    have hkx : w[k]? = some (w.getD k 0) := by
      rw [List.getD_eq_getElem?_getD, List.getElem?_eq_getElem (by omega)]
      rfl
    rw [invU]
    by_cases e : i = k
    · subst e
      rw [hx] at hkx
      have : x = w.getD i 0 := Option.some.inj hkx
      rw [← this, List.getElem?_set_self (by rw [invU_length]; exact hxl)]
    · have hne : w.getD k 0 ≠ x := fun z => by
        rw [z] at hkx
        have h1 := List.getElem?_eq_some_iff.mp hx
        have h2 := List.getElem?_eq_some_iff.mp hkx
        obtain ⟨a1, a2⟩ := h1
        obtain ⟨b1, b2⟩ := h2
        exact e ((List.getElem_inj hn).mp (a2.trans b2.symm))
      rw [List.getElem?_set_ne hne]
      exact invU_get hn hw k i x (by omega) (by omega) hx
theorem invL_get {w : List Nat} (hn : w.Nodup) (hw : ∀ x ∈ w, x < w.length) {i x : Nat} (hx : w[i]? = some x) : (invL w)[x]? = some i := by
  have : i < w.length := by
    obtain ⟨a1, a2⟩ := List.getElem?_eq_some_iff.mp hx
    exact a1
  exact invU_get hn hw _ i x this (Nat.le_refl _) hx
section
variable {P : Program} {w : World} {A : AD} {K : PySem.W.Frag} {mg : Str → Option Value} {base : Heap}
abbrev sp_turned_back (A : AD) (K : PySem.W.Frag) : Sp := spD K (fun ds => ∃ w : List Nat, ds = [.tup (natD w)] ∧ w.length ≤ 10000 ∧ ∀ x ∈ w, x < w.length) (fun ds r => ∃ w : List Nat, ds = [.tup (natD w)] ∧ r = .tup (natD (invL w))) (fun _ _ _ => False)
theorem natD_inj : ∀ {a b : List Nat}, natD a = natD b → a = b
  | [], [], _ => rfl
  | [], _ :: _, h => nomatch h
  | _ :: _, [], h => nomatch h
  | x :: a, y :: b, h => by
    have h1 := List.cons.inj h
    have h2 : (x : Int) = y := D.int.inj h1.1
    rw [natD_inj h1.2, Int.ofNat.inj h2]
theorem ok_turned_back (T : Txt P w A K mg) : FnOk P w K mg base (L2.CX P w) 1 A.f_turned_back A.fd_turned_back ["order"] (sp_turned_back A K) := by
  refine okD T.d_turned_back.F sc_turned_back (fun ds ⟨v, h, _⟩ => by rw [h]; rfl) fun cdv Ar outer sh H E hr => ⟨_, (pss_cons (ps_set (i := 1) sc_turned_back.nd rfl (Or.inl rfl) (pe_op op_rep (pe_lst (pa_cons pe_int pa_nil)) (pe_callB (id := "len") (show CallR _ (.builtin "len") ((fun xs H Q => ∃ x n, xs = [x] ∧ LenV K x H n ∧ Q (.int n) H)) from call_len) (by rfl) T.z_len (by decide +kernel) (pa_cons (pv 0) pa_nil))))
      (pss_cons (ps_for (passes_of rfl) rfl (show PI _ _ _ (iEnumT K _) from (pi_enumT (by rfl) T.z_enumerate (pa_cons (pv 0) pa_nil))) (show PG _ _ (gTup K 2 _) from pg_tup rfl (pgs_cons (pg_name (i := 2) sc_turned_back.nd rfl (Or.inl rfl)) (pgs_cons (pg_name (i := 3) sc_turned_back.nd rfl (Or.inl rfl)) pgs_nil))) (pss_one (ps_asg (pv 2) (pg_sub (pv 1) (pv 3) set_list))))
      (pss_one (ps_ret (show PE _ _ (tThen _ (kTup K)) from (pe_tupleOf rfl T.z_tuple (pv 1))))))), fun B F0 a0 ds kk ex hx hp hk hex => ?_⟩
  obtain ⟨o, rfl, hn, hw⟩ := hp
  have hsz : (10000 : Nat) ≤ sizeLine := by decide
  walk_at "kw"
  refine we_lstd ?_
  walk_at "kw"
  refine rc_lenT ?_
  rw [natD_length]
  refine ro_repc (by omega) (by omega) (by simp; omega) ?_
  rw [show ((o.length : Nat) : Int).toNat = o.length from Int.toNat_natCast _, natD_rep]
  walk_at "kw"
  refine ws_for (wi_enumT ?_)
  walk_at "kw"
  refine ⟨_, rfl, fun i s => ∃ y z, s = ⟨[.d (.tup (natD o)), .c 0, y, z], [.lst (natD (invU o i))]⟩, ⟨_, _, rfl⟩, fun i d s2 hd hi => ?_, fun s2 hi => ?_⟩
  · obtain ⟨y, z, rfl⟩ := hi
    rw [List.getElem?_mapIdx, natD_get] at hd
    obtain ⟨d0, hd0, rfl⟩ := Option.map_eq_some_iff.mp hd
    obtain ⟨x, hx0, rfl⟩ := Option.map_eq_some_iff.mp hd0
    have hxl := hw x (List.mem_of_getElem? hx0)
    walk_at "kw"
    refine wg_setL ?_
    walk_at "kw"
    refine ⟨0, _, _, x, _, rfl, rfl, rfl, rfl, ixN_natN (by rw [natD_length, invU_length]; exact hxl), ?_⟩
    refine ⟨.d (.int i), .d (.int x), ?_⟩
    rw [natD_set, show (invU o (i + 1)) = (invU o i).set x i by rw [invU, List.getD_eq_getElem?_getD, hx0]; rfl]
    rfl
  · obtain ⟨y, z, rfl⟩ := hi
    walk_at "kw"
    refine we_thenTupC ?_
    walk_at "kw"
    refine ⟨_, 0, rfl, rfl, hk _ _ ⟨o, rfl, ?_⟩⟩
    rw [List.length_mapIdx, natD_length]
    rfl
end
end K71


namespace K71
-- ### societies
def socF (w c : List Nat) : List (Str × D) := [("size", .int w.length), ("wives", .tup (natD w)), ("children", .tup (natD c)), ("moves", .dK [(.inr "a", .tup (natD w)), (.inr "b", .tup (natD c)), (.inr "A", .tup (natD (invL w))), (.inr "B", .tup (natD (invL c)))])]
/-- an order of n classes -/
def Ord (w : List Nat) (n : Nat) : Prop := w.Perm (List.range n)
theorem Ord.len {w : List Nat} {n : Nat} (h : Ord w n) : w.length = n := by rw [h.length_eq, List.length_range]
theorem Ord.lt {w : List Nat} {n : Nat} (h : Ord w n) : ∀ x ∈ w, x < n := fun x hx => List.mem_range.mp (h.mem_iff.mp hx)
theorem Ord.nd {w : List Nat} {n : Nat} (h : Ord w n) : w.Nodup := h.nodup_iff.mpr List.nodup_range
theorem Ord.get {w : List Nat} {n p : Nat} (h : Ord w n) (hp : p < n) : ∃ q, w[p]? = some q ∧ q < n ∧ w.getD p 0 = q := by
  have hl : p < w.length := by rw [h.len]; exact hp
  refine ⟨w[p], List.getElem?_eq_getElem hl, h.lt _ (List.getElem_mem hl), ?_⟩
  rw [List.getD_eq_getElem?_getD, List.getElem?_eq_getElem hl]
  rfl
theorem isOrd_nat {v : D} {n : Nat} (h : isOrd v n = true) : ∃ w, itemsD v = some (natD w) ∧ Ord w n := by
  unfold isOrd at h
  cases q : itemsD v with
  | none => rw [q] at h; cases h
  | some l =>
    rw [q] at h
    have h : isOrdL l n = true := h
    unfold isOrdL at h
    rw [Bool.and_eq_true, Bool.and_eq_true] at h
    obtain ⟨h1, h2, h3⟩ := h
    have hl := all_ints h2
    have hp := of_decide_eq_true h3
    have hm : ∀ i ∈ l.map intD, ((i.toNat : Nat) : Int) = i := fun i hi => by
      obtain ⟨k, _, rfl⟩ := List.mem_map.mp (hp.mem_iff.mp hi)
      rfl
    refine ⟨(l.map intD).map Int.toNat, ?_, ?_⟩
    · have e1 : (l.map intD).map ((fun (i : Nat) => (i : Int)) ∘ Int.toNat) = l.map intD := by
        conv => rhs; rw [← List.map_id (l.map intD)]
        exact List.map_congr_left hm
      have e2 : ((l.map intD).map Int.toNat).map (fun (i : Nat) => (i : Int)) = l.map intD := by
        rw [List.map_map]
        exact e1
      rw [natD_int, e2, ← hl]
    · have e : (List.range n).map (Int.toNat ∘ fun (i : Nat) => (i : Int)) = List.range n := by
        conv => rhs; rw [← List.map_id (List.range n)]
        exact List.map_congr_left fun i _ => rfl
      have e3 : (rgI n).map Int.toNat = List.range n := by
        unfold rgI
        rw [List.map_map]
        exact e
      have := hp.map Int.toNat
      rw [e3] at this
      exact this
theorem two_inj {a v : D} {n m : Nat} (h : [a, D.int (n : Int)] = [v, D.int (m : Int)]) : a = v ∧ n = m := by
  injection h with h1 h2
  injection h2 with h2 h3
  injection h2 with h2
  exact ⟨h1, Int.ofNat.inj h2⟩
theorem items_cases {v : D} {l : List D} (h : itemsD v = some l) : v = .lst l ∨ v = .tup l := by
  cases v <;> first | (cases h; first | exact .inl rfl | exact .inr rfl) | cases h
def lenD (v : D) : Nat := match itemsD v with
  | some l => l.length
  | none => 0
theorem frD_items {v : D} (h : ∀ l, itemsD v = some l → ∀ d ∈ l, tyd d) : ∀ l, itemsD v = some l → ∀ d ∈ l, tyd d := h
section
variable {P : Program} {w : World} {A : AD} {K : PySem.W.Frag} {mg : Str → Option Value} {base : Heap}
abbrev pre_Society (A : AD) : List AV → List CO → Prop := fun avs cs => ∃ x y, avs = [.c 0, .d x, .d y] ∧ cs = [.ins A.C_Society []] ∧ tyd x ∧ tyd y ∧ (∀ l, itemsD x = some l → ∀ d ∈ l, tyd d) ∧ ∀ l, itemsD y = some l → ∀ d ∈ l, tyd d
abbrev okW (x : D) : Prop := 1 ≤ lenD x ∧ lenD x ≤ 400 ∧ isOrd x (lenD x) = true
abbrev post_Society (A : AD) : List AV → List CO → AV → List CO → Prop := fun avs cs av cs' => av = .d .non ∧ ∃ x y wv ch, avs = [.c 0, .d x, .d y] ∧ itemsD x = some (natD wv) ∧ itemsD y = some (natD ch) ∧ 1 ≤ wv.length ∧ wv.length ≤ 400 ∧ Ord wv wv.length ∧ Ord ch wv.length ∧ ∃ rest, cs' = .ins A.C_Society ((socF wv ch).map fun f => (f.1, .d f.2)) :: rest
abbrev exc_Society (A : AD) : List AV → List CO → Addr → List (Str × D) → List CO → Prop := fun avs cs C fs _ => ∃ x y, avs = [.c 0, .d x, .d y] ∧ ((err A.C_InvalidSociety "wives" C fs ∧ ¬ okW x) ∨ (err A.C_InvalidSociety "children" C fs ∧ okW x ∧ isOrd y (lenD x) = false))
abbrev sp_Society_init (A : AD) (K : PySem.W.Frag) : Sp := spG K (wpR (pre_Society A) (post_Society A) (exc_Society A))
theorem ok_Society_init (T : Txt P w A K mg) : FnOk P w K mg base (L2.CX P w) 2 A.f_Society_init A.fd_Society_init ["self", "wives", "children"] (sp_Society_init A K) := by
  refine okR T.d_Society_init.F sc_Society_init (fun ds cs ⟨v, y, h, _⟩ => by rw [h]; rfl) fun cdv Ar outer sh H E hr => ⟨_, (pss_cons (ps_set (i := 3) sc_Society_init.nd rfl (Or.inl rfl) (pe_ifExp (pt_val (pe_callB (id := "isinstance") (show CallR _ (.builtin "isinstance") (rIsiT K) from call_isiT) (by rfl) T.z_isinstance (by decide +kernel) (pa_cons (pv 1) (pa_cons (pe_tup (pa_cons (pe_bltn (v := .ty "list") (u := .type "list") rfl T.z_list (by decide +kernel) rfl) (pa_cons (pe_bltn (v := .ty "tuple") (u := .type "tuple") rfl T.z_tuple (by decide +kernel) rfl) pa_nil))) pa_nil)))) (pe_callB (id := "len") (show CallR _ (.builtin "len") ((fun xs H Q => ∃ x n, xs = [x] ∧ LenV K x H n ∧ Q (.int n) H)) from call_len) (by rfl) T.z_len (by decide +kernel) (pa_cons (pv 1) pa_nil)) pe_int))
      (pss_cons (ps_if (PW.pt (pw_or (pt_not (pt_chain op_le op_le pe_int (pv 3) (pe_glob (v := .int 400) rfl T.g_MOST_CLASSES.choose_spec ⟨_, rfl⟩))) (pw_or1 (pt_not (pt_val (show PE _ _ (tCallS (sp_is_order A K) _ _) from (pe_callS (ok_is_order T) (hr.mono (by decide)) rfl T.d_is_order.m T.d_is_order.F.kp T.d_is_order.b (fun σ => passAt (takes_of rfl rfl rfl rfl) σ) (pa_cons (pv 1) (pa_cons (pv 3) pa_nil))))))))) (pss_one (ps_raise rfl (takes_of rfl rfl rfl rfl) (pmk_err T.e_InvalidSociety T.n_InvalidSociety hr (pa_cons pe_str pa_nil)))) pss_nil)
      (pss_cons (ps_if (pt_not (pt_val (show PE _ _ (tCallS (sp_is_order A K) _ _) from (pe_callS (ok_is_order T) (hr.mono (by decide)) rfl T.d_is_order.m T.d_is_order.F.kp T.d_is_order.b (fun σ => passAt (takes_of rfl rfl rfl rfl) σ) (pa_cons (pv 2) (pa_cons (pv 3) pa_nil)))))) (pss_one (ps_raise rfl (takes_of rfl rfl rfl rfl) (pmk_err T.e_InvalidSociety T.n_InvalidSociety hr (pa_cons pe_str pa_nil)))) pss_nil)
      (pss_cons (show PS _ _ (sFld K _ _ _) from ps_fld (pv 0) (pv 3) (by rfl))
      (pss_cons (show PS _ _ (sFld K _ _ _) from ps_fld (pv 0) (show PE _ _ (tThen _ (kTup K)) from (pe_tupleOf rfl T.z_tuple (pv 1))) (by rfl))
      (pss_cons (show PS _ _ (sFld K _ _ _) from ps_fld (pv 0) (show PE _ _ (tThen _ (kTup K)) from (pe_tupleOf rfl T.z_tuple (pv 2))) (by rfl))
      (pss_cons (show PS _ _ (sFld K _ _ _) from ps_fld (pv 0) (pe_disp (pps_cons pe_str (show PE _ _ (tFld K _ _) from (pe_fld (pv 0) (by rfl))) (pps_cons pe_str (show PE _ _ (tFld K _ _) from (pe_fld (pv 0) (by rfl))) pps_nil)) (by rfl) (by rfl) (fun z => by cases z) (by decide)) (by rfl))
      (pss_cons (ps_dput (hu_of hr) (show PE _ _ (tFld K _ _) from (pe_fld (pv 0) (by rfl))) pe_str (show PE _ _ (tCallS (sp_turned_back A K) _ _) from (pe_callS (ok_turned_back T) (hr.mono (by decide)) rfl T.d_turned_back.m T.d_turned_back.F.kp T.d_turned_back.b (fun σ => passAt (takes_of rfl rfl rfl rfl) σ) (pa_cons (show PE _ _ (tFld K _ _) from (pe_fld (pv 0) (by rfl))) pa_nil))) (by rfl))
      (pss_one (ps_dput (hu_of hr) (show PE _ _ (tFld K _ _) from (pe_fld (pv 0) (by rfl))) pe_str (show PE _ _ (tCallS (sp_turned_back A K) _ _) from (pe_callS (ok_turned_back T) (hr.mono (by decide)) rfl T.d_turned_back.m T.d_turned_back.F.kp T.d_turned_back.b (fun σ => passAt (takes_of rfl rfl rfl rfl) σ) (pa_cons (show PE _ _ (tFld K _ _) from (pe_fld (pv 0) (by rfl))) pa_nil))) (by rfl))))))))))), fun B F0 a0 avs cs kk ex hx hp hk hex => ?_⟩
  obtain ⟨x, y, rfl, rfl, ⟨tx, htx⟩, ⟨ty, hty⟩, hlx, hly⟩ := hp
  walk_at "kw"
  refine rc_isiT (ns := ["list", "tuple"]) htx (kits_seq htx) ?_
  walk_at "kw"
  -- the size
  have size : ∀ (k : AV → S → Prop) (s : S), k (.d (.int (lenD x))) s → s.env[1]? = some (.d x) → ((itemsD x).isSome = true → KW.WE ⟨K, B, F0, a0⟩ (tCB (fun xs H Q => ∃ x n, xs = [x] ∧ LenV K x H n ∧ Q (.int n) H) (tCons (tVar 1) tNil)) s k) ∧ ((itemsD x).isSome = false → KW.WE ⟨K, B, F0, a0⟩ (tC (.int 0)) s k) := fun k s hk h1 => by
    refine ⟨fun h => ?_, fun h => ?_⟩
    · cases q : itemsD x with
      | none => rw [q] at h; cases h
      | some l =>
        refine we_cb (wa_cons (we_vd h1 (wa_nil (rc_lenLT (items_cases q) ?_))))
        have : lenD x = l.length := by unfold lenD; rw [q]
        rw [← this]
        exact hk
    · cases q : itemsD x with
      | some l => rw [q] at h; cases h
      | none =>
        have : lenD x = 0 := by unfold lenD; rw [q]
        rw [this] at hk
        exact we_int hk
  refine size _ _ ?_ rfl
  walk_at "kw"
  have raiseW : ¬ okW x → ∀ (s : S) (A' : AE), WS ⟨K, B, F0, a0⟩ (fun _ σ H => tErr A.C_InvalidSociety ["what"] (tCons (tC (V.str "wives")) tNil) σ H fun cls d H' => E cls d H') s A' := fun hb s A' => by
    refine ws_raise hx ?_
    walk_at "kw"
    exact ⟨rfl, hex _ _ _ ⟨x, y, rfl, .inl ⟨⟨rfl, rfl⟩, hb⟩⟩⟩
  have raiseC : okW x → isOrd y (lenD x) = false → ∀ (s : S) (A' : AE), WS ⟨K, B, F0, a0⟩ (fun _ σ H => tErr A.C_InvalidSociety ["what"] (tCons (tC (V.str "children")) tNil) σ H fun cls d H' => E cls d H') s A' := fun hb hc s A' => by
    refine ws_raise hx ?_
    walk_at "kw"
    exact ⟨rfl, hex _ _ _ ⟨x, y, rfl, .inr ⟨⟨rfl, rfl⟩, hb, hc⟩⟩⟩
  refine ⟨fun h1 => ?_, fun h1 => ?_⟩
  rotate_left
  · walk_at "kw"
    exact raiseW (fun h => by have := of_decide_eq_false h1; have := h.1; omega) _ _
  have h1 := of_decide_eq_true h1
  walk_at "kw"
  refine ⟨fun h2 => ?_, fun h2 => ?_⟩
  rotate_left
  · have h2 : ¬ ((lenD x : Nat) : Int) ≤ 400 := by simpa using h2
    walk_at "kw"
    exact raiseW (fun h => by have := h.2.1; omega) _ _
  have h2 : ((lenD x : Nat) : Int) ≤ 400 := by simpa using h2
  walk_at "kw"
  refine ⟨⟨x, lenD x, rfl, ⟨tx, htx⟩, by omega, hlx⟩, fun d hd => ?_⟩
  obtain ⟨v1, n1, he, rfl⟩ := hd
  obtain ⟨rfl, rfl⟩ := two_inj he
  walk_at "kw"
  refine ⟨fun h3 => raiseW (fun h => by rw [h.2.2] at h3; cases h3) _ _, fun h3 => ?_⟩
  have h3 : isOrd x (lenD x) = true := by simpa using h3
  have okw : okW x := ⟨by omega, by omega, h3⟩
  walk_at "kw"
  walk_at "kw"
  refine ⟨⟨y, lenD x, rfl, ⟨ty, hty⟩, by omega, hly⟩, fun d hd => ?_⟩
  obtain ⟨v1, n1, he, rfl⟩ := hd
  obtain ⟨rfl, rfl⟩ := two_inj he
  walk_at "kw"
  refine ⟨fun h4 => raiseC okw (by simpa using h4) _ _, fun h4 => ?_⟩
  have h4 : isOrd y (lenD x) = true := by simpa using h4
  walk_at "kw"
  -- the fields
  obtain ⟨wv, hw1, hw2⟩ := isOrd_nat h3
  obtain ⟨ch, hc1, hc2⟩ := isOrd_nat h4
  have hlen : lenD x = wv.length := by unfold lenD; rw [hw1]; exact natD_length wv
  have hw3 : Ord wv wv.length := by rw [← hlen]; exact hw2
  have hc3 : Ord ch wv.length := by rw [← hlen]; exact hc2
  rw [hlen] at h1 h2
  rw [hlen]
  have xC : Cls K A.C_Society := T.c_Society
  refine ws_fld ?_
  walk_at "kw"
  refine ⟨0, _, _, rfl, rfl, xC, T.a_Society_size, by decide, ?_⟩
  walk_at "kw"
  refine ws_fld (we_thenTupD ?_)
  walk_at "kw"
  refine ⟨_, x, rfl, items_cases hw1, ?_⟩
  walk_at "kw"
  refine ⟨0, _, _, rfl, rfl, xC, T.a_Society_wives, few (k := 1) (few_put (Nat.zero_le 0)) (by decide), ?_⟩
  walk_at "kw"
  refine ws_fld (we_thenTupD ?_)
  walk_at "kw"
  refine ⟨_, y, rfl, items_cases hc1, ?_⟩
  walk_at "kw"
  refine ⟨0, _, _, rfl, rfl, xC, T.a_Society_children, few (k := 2) (few_put (few_put (Nat.zero_le 0))) (by decide), ?_⟩
  walk_at "kw"
  refine ws_fld ?_
  walk_at "kw"
  refine ⟨[(.inr "a", .tup (natD wv)), (.inr "b", .tup (natD ch))], rfl, by show 2 ≤ 15; decide, rfl, ?_⟩
  walk_at "kw"
  refine ⟨0, _, _, rfl, rfl, xC, T.a_Society_moves, few (k := 3) (few_put (few_put (few_put (Nat.zero_le 0)))) (by decide), ?_⟩
  walk_at "kw"
  refine cast (congrArg (fun st => WS _ _ st _) (show (⟨[.c 0, .d x, .d y, .d (.int wv.length)], [.ins A.C_Society [("size", .d (.int wv.length)), ("wives", .d (.tup (natD wv))), ("children", .d (.tup (natD ch))), ("moves", .c 1)], .dK [(.inr "a", .tup (natD wv)), (.inr "b", .tup (natD ch))]]⟩ : S) = _ from rfl)) ?_
  refine ws_dput (we_callN ?_)
  walk_at "kw"
  refine ⟨⟨wv, rfl, by omega, hw3.lt⟩, fun d hd => ?_⟩
  obtain ⟨w2, he, rfl⟩ := hd
  injection he with he
  injection he with he
  have he := natD_inj he
  subst he
  walk_at "kw"
  refine ⟨1, _, .inr "A", _, rfl, rfl, rfl, rfl, by show 2 < sizeLine; decide, ?_⟩
  refine ws_frA ?_
  refine ws_dput (we_callN ?_)
  walk_at "kw"
  refine ⟨⟨ch, rfl, by rw [hc3.len]; omega, by rw [hc3.len]; exact hc3.lt⟩, fun d hd => ?_⟩
  obtain ⟨w2, he, rfl⟩ := hd
  injection he with he
  injection he with he
  have he := natD_inj he
  subst he
  walk_at "kw"
  refine ⟨1, _, .inr "B", _, rfl, rfl, rfl, rfl, by show 3 < sizeLine; decide, ?_⟩
  refine ⟨1, _, _, rfl, rfl, ?_⟩
  exact hk _ _ ⟨rfl, x, y, wv, ch, rfl, hw1, hc1, by omega, by omega, hw3, hc3, [.dead], rfl⟩
end
end K71


namespace K71
-- ### classes, led
abbrev socD (A : AD) (w c : List Nat) : D := .ins A.C_Society (socF w c)
/-- a class of n -/
def isCls (d : D) (n : Nat) : Bool := isIntD d && (decide (0 ≤ intD d) && decide (intD d < n))
theorem isCls_nat {d : D} {n : Nat} (h : isCls d n = true) : ∃ p : Nat, d = .int p ∧ p < n := by
  unfold isCls at h
  rw [Bool.and_eq_true, Bool.and_eq_true] at h
  obtain ⟨h1, h2, h3⟩ := h
  cases d <;> first | cases h1 | skip
  rename_i i
  have h2 := of_decide_eq_true h2
  have h3 := of_decide_eq_true h3
  refine ⟨i.toNat, ?_, ?_⟩
  · show D.int i = D.int ((i.toNat : Nat) : Int)
    have h2 : 0 ≤ i := h2
    rw [show ((i.toNat : Nat) : Int) = i from by omega]
  · have h2 : 0 ≤ i := h2
    have h3 : i < n := h3
    omega
theorem isCls_of {p n : Nat} (h : p < n) : isCls (.int p) n = true := by
  unfold isCls
  show (true && (decide ((0 : Int) ≤ (p : Int)) && decide ((p : Int) < (n : Int)))) = true
  rw [decide_eq_true (by omega), decide_eq_true (by omega)]
  rfl
/-- a letter's step -/
def stepS (w c : List Nat) (p ch : Nat) : Nat := if ch = 97 then w.getD p 0 else if ch = 98 then c.getD p 0 else if ch = 65 then (invL w).getD p 0 else (invL c).getD p 0
def walkS (w c : List Nat) (p : Nat) (l : List Nat) : Nat := l.foldl (stepS w c) p
theorem Ord.back {w : List Nat} {n x : Nat} (h : Ord w n) (hx : x < n) : ∃ i, (invL w)[x]? = some i ∧ i < n ∧ w[i]? = some x ∧ (invL w).getD x 0 = i := by
  have hlt : ∀ x ∈ w, x < w.length := by rw [h.len]; exact h.lt
  obtain ⟨i, hi⟩ := List.getElem?_of_mem (h.mem_iff.mpr (List.mem_range.mpr hx))
  have hi' := invL_get h.nd hlt hi
  obtain ⟨a1, a2⟩ := List.getElem?_eq_some_iff.mp hi
  exact ⟨i, hi', by rw [← h.len]; exact a1, hi, by rw [List.getD_eq_getElem?_getD, hi']; rfl⟩
theorem stepS_lt {w c : List Nat} {n p ch : Nat} (hw : Ord w n) (hc : Ord c n) (hp : p < n) : stepS w c p ch < n := by
  unfold stepS
  split
  · obtain ⟨q, _, h2, h3⟩ := hw.get hp
    rw [h3]; exact h2
  · split
    · obtain ⟨q, _, h2, h3⟩ := hc.get hp
      rw [h3]; exact h2
    · split
      · obtain ⟨q, _, h2, _, h3⟩ := hw.back hp
        rw [h3]; exact h2
      · obtain ⟨q, _, h2, _, h3⟩ := hc.back hp
        rw [h3]; exact h2
/-- the moves by a letter -/
def mvS (w c : List Nat) (ch : Nat) : List Nat := if ch = 97 then w else if ch = 98 then c else if ch = 65 then invL w else invL c
theorem mvS_get {w c : List Nat} {n p ch : Nat} (hw : Ord w n) (hc : Ord c n) (hp : p < n) : (mvS w c ch)[p]? = some (stepS w c p ch) := by
  unfold mvS stepS
  split
  · obtain ⟨q, h1, h2, h3⟩ := hw.get hp
    rw [h3]; exact h1
  · split
    · obtain ⟨q, h1, h2, h3⟩ := hc.get hp
      rw [h3]; exact h1
    · split
      · obtain ⟨q, h1, h2, _, h3⟩ := hw.back hp
        rw [h3]; exact h1
      · obtain ⟨q, h1, h2, _, h3⟩ := hc.back hp
        rw [h3]; exact h1
theorem mv_look {w c : List Nat} {ch : Nat} (h : isLet ch = true) : lkD [((.inr "a" : Key), D.tup (natD w)), (.inr "b", .tup (natD c)), (.inr "A", .tup (natD (invL w))), (.inr "B", .tup (natD (invL c)))] (.inr ⟨#[ch]⟩) = some (.tup (natD (mvS w c ch))) := by
  have h : ch = 65 ∨ ch = 66 ∨ ch = 97 ∨ ch = 98 := by
    unfold isLet at h
    simp at h
    omega
  rcases h with rfl | rfl | rfl | rfl
  · rfl
  · rfl
  · rfl
  · rfl
theorem walkS_lt {w c : List Nat} {n : Nat} (hw : Ord w n) (hc : Ord c n) : ∀ (l : List Nat) {p : Nat}, p < n → walkS w c p l < n
  | [], p, h => h
  | x :: l, p, h => walkS_lt hw hc l (stepS_lt hw hc h)
section
variable {P : Program} {w : World} {A : AD} {K : PySem.W.Frag} {mg : Str → Option Value} {base : Heap}
abbrev sp_check_class (A : AD) (K : PySem.W.Frag) : Sp := spF (α := List Nat × List Nat × D) K (fun a ds => ds = [socD A a.1 a.2.1, a.2.2] ∧ tyd a.2.2) (fun a r => r = .non ∧ isCls a.2.2 a.1.length = true) (fun a C fs => err A.C_InvalidSociety "class" C fs ∧ isCls a.2.2 a.1.length = false)
theorem ok_check_class (T : Txt P w A K mg) : FnOk P w K mg base (L2.CX P w) 1 A.f_check_class A.fd_check_class ["society", "place"] (sp_check_class A K) := by
  refine okF T.d_check_class.F sc_check_class (fun a ds ⟨h, _⟩ => by rw [h]; rfl) fun cdv Ar outer sh H E hr => ⟨_, (pss_one (ps_if (PW.pt (pw_or (pt_not (pt_val (pe_callB (id := "isinstance") (show CallR _ (.builtin "isinstance") (rIsi K) from call_isi) (by rfl) T.z_isinstance (by decide +kernel) (pa_cons (pv 1) (pa_cons (pe_bltn (v := .ty "int") (u := .type "int") rfl T.z_int (by decide +kernel) rfl) pa_nil))))) (pw_or (pt_val (pe_callB (id := "isinstance") (show CallR _ (.builtin "isinstance") (rIsi K) from call_isi) (by rfl) T.z_isinstance (by decide +kernel) (pa_cons (pv 1) (pa_cons (pe_bltn (v := .ty "bool") (u := .type "bool") rfl T.z_bool (by decide +kernel) rfl) pa_nil)))) (pw_or1 (pt_not (pt_chain op_le op_lt pe_int (pv 1) (show PE _ _ (tFld K _ _) from (pe_fld (pv 0) (by rfl))))))))) (pss_one (ps_raise rfl (takes_of rfl rfl rfl rfl) (pmk_err T.e_InvalidSociety T.n_InvalidSociety hr (pa_cons pe_str pa_nil)))) pss_nil)), fun B F0 a0 a ds kk ex hx hp hk hex => ?_⟩
  obtain ⟨wv, ch, d⟩ := a
  obtain ⟨rfl, ⟨t, ht⟩⟩ := hp
  have ht : tyS d = some t := ht
  have raise_ : isCls d wv.length = false → ∀ (s : S) (A' : AE), WS ⟨K, B, F0, a0⟩ (fun _ σ H => tErr A.C_InvalidSociety ["what"] (tCons (tC (V.str "class")) tNil) σ H fun cls d H' => E cls d H') s A' := fun hb s A' => by
    refine ws_raise hx ?_
    walk_at "kw"
    exact ⟨rfl, hex _ _ _ ⟨⟨rfl, rfl⟩, hb⟩⟩
  show WS _ _ ⟨[.d (socD A wv ch), .d d], []⟩ _
  walk_at "kw"
  refine rc_isi ht (kb_int ht) ?_
  walk_at "kw"
  refine ⟨fun h1 => ?_, fun h1 => ?_⟩
  rotate_left
  · walk_at "kw"
    exact raise_ (by unfold isCls; cases d <;> first | rfl | cases h1) _ _
  walk_at "kw"
  refine rc_isi ht (kb_bool ht) ?_
  walk_at "kw"
  refine ⟨fun h2 => ?_, fun h2 => ?_⟩
  rotate_left
  · walk_at "kw"
    exact raise_ (by unfold isCls; cases d <;> first | rfl | cases h2) _ _
  obtain ⟨i, rfl⟩ : ∃ i, d = .int i := by
    cases d <;> first | exact ⟨_, rfl⟩ | (cases h1; done) | (cases h2; done)
  walk_at "kw"
  refine ⟨fun h3 => ?_, fun h3 => ?_⟩
  rotate_left
  · walk_at "kw"
    exact raise_ (by unfold isCls; show (true && (decide ((0 : Int) ≤ i) && _)) = false; rw [h3]; rfl) _ _
  walk_at "kw"
  refine ⟨fun h4 => raise_ ?_ _ _, fun h4 => ws_next (hk _ _ ⟨rfl, ?_⟩)⟩
  · unfold isCls
    show (true && (_ && decide (i < (wv.length : Int)))) = false
    rw [show decide (i < (wv.length : Int)) = false by simpa using h4]
    rw [Bool.and_false, Bool.and_false]
  · unfold isCls
    show (true && (decide ((0 : Int) ≤ i) && decide (i < (wv.length : Int)))) = true
    rw [h3, show decide (i < (wv.length : Int)) = true by simpa using h4]
    rfl
structure Ld where
  w : List Nat
  c : List Nat
  p : Nat
  z : Str
abbrev sp_Society_walked (A : AD) (K : PySem.W.Frag) : Sp := spF (α := Ld) K (fun a ds => ds = [socD A a.w a.c, .int (a.p : Nat), .str a.z] ∧ Ord a.w a.w.length ∧ Ord a.c a.w.length ∧ a.p < a.w.length ∧ a.z.cps.toList.all isLet = true) (fun a r => r = .int (walkS a.w a.c a.p a.z.cps.toList : Nat)) (fun _ _ _ => False)
theorem ok_Society_walked (T : Txt P w A K mg) : FnOk P w K mg base (L2.CX P w) 1 A.f_Society_walked A.fd_Society_walked ["self", "place", "text"] (sp_Society_walked A K) := by
  refine okF T.d_Society_walked.F sc_Society_walked (fun a ds ⟨h, _⟩ => by rw [h]; rfl) fun cdv Ar outer sh H E hr => ⟨_, (pss_cons (ps_for (passes_of rfl) rfl (pi_str (pv 2)) (pg_name (i := 3) sc_Society_walked.nd rfl (Or.inl rfl)) (pss_one (ps_set (i := 1) sc_Society_walked.nd rfl (Or.inl rfl) (pe_ix (show IxR _ (rIxT K) from ix_tup) (pe_dget (hu_of hr) (show PE _ _ (tFld K _ _) from (pe_fld (pv 0) (by rfl))) (pv 3) (fun _ _ => rfl)) (pv 1) (fun _ _ => rfl)))))
      (pss_one (ps_ret (pv 1)))), fun B F0 a0 a ds kk ex hx hp hk hex => ?_⟩
  obtain ⟨wv, ch, p, z⟩ := a
  obtain ⟨rfl, ow, oc, hp, hz⟩ := hp
  have ow : Ord wv wv.length := ow
  have oc : Ord ch wv.length := oc
  have hp : p < wv.length := hp
  have hz : z.cps.toList.all isLet = true := hz
  walk_at "kw"
  refine ws_for (wi_str ?_)
  walk_at "kw"
  refine ⟨z, rfl, fun i s => ∃ y, s = ⟨[.d (socD A wv ch), .d (.int (walkS wv ch p (z.cps.toList.take i) : Nat)), .d (.str z), y], []⟩, ⟨_, rfl⟩, fun i d s2 hd hi => ?_, fun s2 hi => ?_⟩
  · obtain ⟨y, rfl⟩ := hi
    unfold KW.signs at hd
    rw [List.getElem?_map] at hd
    obtain ⟨c, hc, rfl⟩ := Option.map_eq_some_iff.mp hd
    have hl : isLet c = true := List.all_eq_true.mp hz c (List.mem_of_getElem? hc)
    have hq := walkS_lt ow oc (z.cps.toList.take i) hp
    have e : walkS wv ch p (z.cps.toList.take (i + 1)) = stepS wv ch (walkS wv ch p (z.cps.toList.take i)) c := by
      unfold walkS
      rw [List.take_add_one, hc, List.foldl_append]
      rfl
    generalize walkS wv ch p (z.cps.toList.take i) = q at hq e
    walk_at "kw"
    walk_at "kw"
    refine ⟨_, by rw [← mv_look hl]; exact dl_ds, ?_⟩
    walk_at "kw"
    refine ro_ixT (atI_natN (by rw [natD_get, mvS_get ow oc hq]; rfl)) ?_
    walk_at "kw"
    refine ⟨.d (.str ⟨#[c]⟩), ?_⟩
    rw [e]
    rfl
  · obtain ⟨y, rfl⟩ := hi
    walk_at "kw"
    refine hk _ _ ?_
    unfold KW.signs
    rw [List.length_map, List.take_length]
structure Lg where
  w : List Nat
  c : List Nat
  p : D
  t : D
abbrev sp_Society_led (A : AD) (K : PySem.W.Frag) : Sp := spF (α := Lg) K (fun a ds => ds = [socD A a.w a.c, a.p, a.t] ∧ Ord a.w a.w.length ∧ Ord a.c a.w.length ∧ tyd a.p ∧ tyd a.t ∧ ∀ z, a.t = .str z → z.length ≤ sizeLine)
  (fun a r => ∃ p z, a.p = .int (p : Nat) ∧ p < a.w.length ∧ a.t = .str z ∧ isCW z = true ∧ r = .int (walkS a.w a.c p z.cps.toList : Nat)) (fun a C fs => (err A.C_InvalidWord "class" C fs ∧ isCWD a.t = false) ∨ (err A.C_InvalidSociety "class" C fs ∧ isCWD a.t = true ∧ isCls a.p a.w.length = false))
theorem isCWD_str {d : D} (h : isCWD d = true) : ∃ z, d = .str z ∧ isCW z = true := by
  cases d <;> first | exact ⟨_, rfl, h⟩ | cases h
theorem isCW_all {z : Str} (h : isCW z = true) : z.cps.toList.all isLet = true := by
  unfold isCW at h
  rw [Bool.and_eq_true] at h
  exact h.2
theorem ok_Society_led (T : Txt P w A K mg) : FnOk P w K mg base (L2.CX P w) 3 A.f_Society_led A.fd_Society_led ["self", "place", "text"] (sp_Society_led A K) := by
  refine okF T.d_Society_led.F sc_Society_led (fun a ds ⟨h, _⟩ => by rw [h]; rfl) fun cdv Ar outer sh H E hr => ⟨_, (pss_cons (ps_expr (show PE _ _ (tCallS (sp_check_class_word A K) _ _) from (pe_callS (ok_check_class_word T) (hr.mono (by decide)) rfl T.d_check_class_word.m T.d_check_class_word.F.kp T.d_check_class_word.b (fun σ => passAt (takes_of rfl rfl rfl rfl) σ) (pa_cons (pv 2) pa_nil))))
      (pss_cons (ps_expr (show PE _ _ (tCallS (sp_check_class A K) _ _) from (pe_callS (ok_check_class T) (hr.mono (by decide)) rfl T.d_check_class.m T.d_check_class.F.kp T.d_check_class.b (fun σ => passAt (takes_of rfl rfl rfl rfl) σ) (pa_cons (pv 0) (pa_cons (pv 1) pa_nil)))))
      (pss_one (ps_ret (show PE _ _ (tMethO A.C_Society _ (sp_Society_walked A K) _ _ _) from (pe_methO (pv 0) T.c_Society T.m_Society_walked (ok_Society_walked T) (hr.mono (by decide)) T.d_Society_walked.b (fun σ => passAt (takes_of rfl rfl rfl rfl) σ) (pa_cons (pv 1) (pa_cons (pv 2) pa_nil)))))))), fun B F0 a0 a ds kk ex hx hp hk hex => ?_⟩
  obtain ⟨wv, ch, pd, td⟩ := a
  obtain ⟨rfl, ow, oc, hp, ht, hz⟩ := hp
  walk_at "kw"
  refine ⟨td, ⟨rfl, ht, hz⟩, fun d hd => ?_, fun C fs he => hex _ _ _ (.inl he)⟩
  obtain ⟨rfl, hcw⟩ := hd
  walk_at "kw"
  refine ⟨(wv, ch, pd), ⟨rfl, hp⟩, fun d hd => ?_, fun C fs he => hex _ _ _ (.inr ⟨he.1, hcw, he.2⟩)⟩
  obtain ⟨rfl, hcl⟩ := hd
  obtain ⟨p, rfl, hpl⟩ := isCls_nat hcl
  obtain ⟨z, rfl, hcz⟩ := isCWD_str hcw
  walk_at "kw"
  refine ⟨_, rfl, rfl, ?_⟩
  walk_at "kw"
  refine ⟨⟨wv, ch, p, z⟩, ⟨rfl, ow, oc, hpl, isCW_all hcz⟩, fun d hd => ?_⟩
  subst hd
  exact hk _ _ ⟨p, z, rfl, hpl, rfl, hcz, rfl⟩
end
end K71


namespace K71
section
variable {P : Program} {w : World} {A : AD} {K : PySem.W.Frag} {mg : Str → Option Value} {base : Heap}
-- ### draws
abbrev sp__law_take (A : AD) (K : PySem.W.Frag) : Sp := spC (α := Int) K (fun m avs co => avs = [.c 0, .d (.int m)] ∧ co = .deck ∧ 0 < m) (fun m d co' => co' = .deck ∧ ∃ r : Nat, d = .int r ∧ (r : Int) < m)
theorem ok__law_take (T : Txt P w A K mg) : FnOk P w K mg base (L2.CX P w) 1 A.f__law_take A.fd__law_take ["deck", "many"] (sp__law_take A K) := by
  refine okC T.d__law_take.F sc__law_take (fun a avs co ⟨h, _⟩ => by rw [h]; rfl) fun cdv Ar outer sh H E hr => ⟨_, (pss_cons (ps_if (pt_cmpR op_eq (pe_callB (id := "len") (show CallR _ (.builtin "len") ((fun xs H Q => ∃ x n, xs = [x] ∧ LenV K x H n ∧ Q (.int n) H)) from call_len) (by rfl) T.z_len (by decide +kernel) (pa_cons (pv 0) pa_nil)) pe_int (nomark _)) (pss_one (ps_ret pe_int)) pss_nil)
      (pss_one (ps_ret (pe_op op_modN (pe_callTy call_int1 (by rfl) T.z_int (by decide +kernel) (pa_cons (show PE _ _ (tBM0 K _ _ _) from (pe_bm0 PySem.F.plainAttrs_list PySem.F.slot_list_pop PySem.F.type_list_pop mt_pop (pv 0))) pa_nil)) (pv 1))))), fun B F0 a0 m avs co kk hp hk => ?_⟩
  obtain ⟨rfl, rfl, hm⟩ := hp
  refine ws_openDk 0 rfl fun ns => ?_
  walk_at "kw"
  refine rc_lenC (n := 0) rfl ?_
  walk_at "kw"
  refine ⟨fun h => ?_, fun h => ?_⟩
  · refine ws_ret (we_closeDk 0 ?_)
    walk_at "kw"
    exact ⟨ns, rfl, hk _ _ _ ⟨rfl, 0, rfl, hm⟩⟩
  · refine ws_next ?_
    refine ws_ret (we_closeDk 0 ?_)
    walk_at "kw"
    refine we_bm0 ?_
    walk_at "kw"
    refine ⟨ty_lc (n := 0) rfl, ?_⟩
    have hne : ns ≠ [] := fun z => by
      subst z
      cases h
    refine rm_pop (n := 0) rfl (d := .int (ns.getLast hne)) (by rw [List.getLast?_map, List.getLast?_eq_some_getLast hne]; rfl) ?_
    walk_at "kw"
    refine rc_int (.inl rfl) ?_
    walk_at "kw"
    refine ro_iC (by omega) ?_
    refine ⟨ns.dropLast, by rw [← List.map_dropLast]; rfl, hk _ _ _ ⟨rfl, (Int.fmod (ns.getLast hne) m).toNat, ?_, ?_⟩⟩
    · have := Int.emod_nonneg (ns.getLast hne) (show m ≠ 0 by omega)
      rw [Int.fmod_eq_emod_of_nonneg _ (by omega)]
      rw [Int.toNat_of_nonneg this]
    · have h1 := Int.emod_nonneg (ns.getLast hne) (show m ≠ 0 by omega)
      have h2 := Int.emod_lt_of_pos (ns.getLast hne) hm
      rw [Int.fmod_eq_emod_of_nonneg _ (by omega)]
      rw [Int.toNat_of_nonneg h1]
      exact h2
/-- any letters -/
abbrev sp__law_letters (A : AD) (K : PySem.W.Frag) : Sp := spC (α := Nat) K (fun m avs co => avs = [.c 0, .d (.int m)] ∧ co = .deck ∧ m ≤ 1000) (fun m d co' => co' = .deck ∧ ∃ z : Str, d = .str z ∧ z.length ≤ m ∧ z.cps.toList.all isLet = true)
theorem abAB_at {r : Nat} (h : (r : Int) < 4) : ∃ c, L2.atI (PySem.Str.ofString "abAB").cps.toList (r : Int) = some c ∧ isLet c = true := by
  have e : (PySem.Str.ofString "abAB").cps.toList = [97, 98, 65, 66] := by decide +kernel
  rw [e]
  have h : r < 4 := by omega
  match r, h with
  | 0, _ => exact ⟨97, by rfl, by rfl⟩
  | 1, _ => exact ⟨98, by rfl, by rfl⟩
  | 2, _ => exact ⟨65, by rfl, by rfl⟩
  | 3, _ => exact ⟨66, by rfl, by rfl⟩
theorem ok__law_letters (T : Txt P w A K mg) : FnOk P w K mg base (L2.CX P w) 2 A.f__law_letters A.fd__law_letters ["deck", "most"] (sp__law_letters A K) := by
  refine okC T.d__law_letters.F sc__law_letters (fun a avs co ⟨h, _⟩ => by rw [h]; rfl) fun cdv Ar outer sh H E hr => ⟨_, (pss_one (ps_ret (show PE _ _ (tBM K _ _ _ _) from (pe_bm PySem.F.plainAttrs_str PySem.F.slot_str_join PySem.F.type_str_join (show MtR _ "str.join" (rJoin K) from mt_join) pe_str (pa_cons (pe_lc (own := [("turn", 2)]) (g := (gName 2)) (by rfl) sc__law_letters.nd (pi_range1 (by rfl) T.z_range (pa_cons (show PE _ _ (tCallS (sp__law_take A K) _ _) from (pe_callS (ok__law_take T) (hr.mono (by decide)) rfl T.d__law_take.m T.d__law_take.F.kp T.d__law_take.b (fun σ => passAt (takes_of rfl rfl rfl rfl) σ) (pa_cons (pv 0) (pa_cons (pe_op op_add (pv 1) pe_int) pa_nil)))) pa_nil)) (blkOk_by (own := [("turn", 2)]) (N := N__law_letters) (sc := defScope s__law_letters) (by decide +kernel)) (fun _ _ _ _ _ => (pg_name (i := 2) sc__law_letters.nd rfl (by first | exact Or.inl rfl | exact Or.inr rfl))) (fun _ _ _ _ _ => pts_nil) (fun _ _ _ _ _ => (pe_ix (show IxR _ rIxS from ix_str) pe_str (show PE _ _ (tCall (sp__law_take A K) [] E0 _) from (pe_call (ok__law_take T) (hr.mono (by decide)) rfl T.d__law_take.m T.d__law_take.F.kp T.d__law_take.b .nil passL (pa_cons (pv 0) (pa_cons pe_int pa_nil)))) (fun _ _ => rfl)))) pa_nil))))), fun B F0 a0 m avs co kk hp hk => ?_⟩
  obtain ⟨rfl, rfl, hm⟩ := hp
  have sl : (1000 : Nat) ≤ sizeLine := by decide
  walk_at "kw"
  refine we_bm ?_
  walk_at "kw"
  refine ⟨ty_s, ?_⟩
  walk_at "kw"
  refine we_lc (own_name (by decide)) (wi_rng1 ?_)
  walk_at "kw"
  refine we_callCC 0 ?_
  walk_at "kw"
  refine ⟨.deck, rfl, trivial, trivial, (by intro m hm; rcases List.mem_cons.mp hm with h | h; cases h; rfl; rcases List.mem_cons.mp h with h | h; cases h; cases h), (m : Int) + 1, ⟨rfl, rfl, by omega⟩, fun d co' hd => ?_⟩
  obtain ⟨rfl, r, rfl, hr⟩ := hd
  refine ⟨trivial, trivial, ?_⟩
  walk_at "kw"
  refine ⟨_, rfl, by omega, by omega, ?_, fun c hc => by rw [List.mem_singleton.mp hc]; trivial, fun i acc => ∃ cs : List Nat, acc = cs.map (fun c => .str ⟨#[c]⟩) ∧ cs.length = i ∧ cs.all isLet = true, ⟨[], rfl, rfl, rfl⟩, fun i d acc hd hi => ?_, fun acc ha => ?_⟩
  · rw [rgD_length, Int.toNat_natCast]
    omega
  · obtain ⟨cs, rfl, hcl, hca⟩ := hi
    walk_at "kw"
    refine we_callCC0 0 ?_
    walk_at "kw"
    refine ⟨.deck, rfl, trivial, trivial, (by intro m hm; rcases List.mem_cons.mp hm with h | h; cases h; rfl; rcases List.mem_cons.mp h with h | h; cases h; cases h), 4, ⟨rfl, rfl, by omega⟩, fun d co' hd => ?_⟩
    obtain ⟨rfl, r', rfl, hr'⟩ := hd
    obtain ⟨c, hc1, hc2⟩ := abAB_at hr'
    refine ⟨trivial, trivial, ro_ixS (by decide) hc1 ⟨_, rfl, rfl, cs ++ [c], ?_, ?_, ?_⟩⟩
    · rw [List.map_append]
      rfl
    · rw [List.length_append, hcl]
      rfl
    · rw [List.all_append, hca]
      show (true && (isLet c && true)) = true
      rw [hc2]
      rfl
  · obtain ⟨cs, rfl, hcl, hca⟩ := ha
    rw [rgD_length, Int.toNat_natCast] at hcl
    walk_at "kw"
    have e : cs.map (fun c => D.str ⟨#[c]⟩) = (PyProof.Rows.signs ⟨cs.toArray⟩).map D.str := by
      unfold PyProof.Rows.signs
      rw [List.map_map]
      rfl
    rw [e]
    have hl : Str.length ⟨cs.toArray⟩ ≤ m := by
      show cs.toArray.size ≤ m
      rw [List.size_toArray]
      omega
    refine rm_joinE (by omega) ?_
    exact hk _ _ _ ⟨rfl, ⟨cs.toArray⟩, rfl, hl, hca⟩
end
end K71


namespace K71
section
variable {P : Program} {w : World} {A : AD} {K : PySem.W.Frag} {mg : Str → Option Value} {base : Heap}
abbrev pre_deck : List AV → List CO → Prop := fun avs cs => ∃ (xs : List Int) (c e : Nat), avs = [.d (.lstS (xs.map .int)), .d (.int c), .d (.int e)] ∧ cs = [] ∧ xs.length ≤ 1000 ∧ c ≤ 1000 ∧ e ≤ 1000 ∧ e * c ≤ 100000
abbrev post_deck : List AV → List CO → AV → List CO → Prop := fun _ _ av cs' => ∃ m, av = .c m ∧ cs'[m]? = some .deck
abbrev sp__law_deck (A : AD) (K : PySem.W.Frag) : Sp := spG K (wpR pre_deck post_deck fun _ _ _ _ _ => False)
theorem snocI (ns : List Int) (v : Int) : ns.map D.int ++ [D.int v] = (ns ++ [v]).map D.int := by rw [List.map_append]; rfl
theorem ok__law_deck (T : Txt P w A K mg) : FnOk P w K mg base (L2.CX P w) 1 A.f__law_deck A.fd__law_deck ["script", "cells", "each"] (sp__law_deck A K) := by
  refine okR T.d__law_deck.F sc__law_deck (fun avs cs ⟨xs, c, e, h, _⟩ => by rw [h]; rfl) fun cdv Ar outer sh H E hr => ⟨_, (pss_cons (ps_set (i := 3) sc__law_deck.nd rfl (Or.inl rfl) (pe_lst pa_nil))
      (pss_cons (ps_set (i := 4) sc__law_deck.nd rfl (Or.inl rfl) (pe_op op_add pe_int (pe_callB (id := "len") (show CallR _ (.builtin "len") ((fun xs H Q => ∃ x n, xs = [x] ∧ LenV K x H n ∧ Q (.int n) H)) from call_len) (by rfl) T.z_len (by decide +kernel) (pa_cons (pv 0) pa_nil))))
      (pss_cons (ps_for (passes_of rfl) rfl (pi_range1 (by rfl) T.z_range (pa_cons (pv 1) pa_nil)) (pg_name (i := 5) sc__law_deck.nd rfl (Or.inl rfl)) (pss_cons (ps_set (i := 6) sc__law_deck.nd rfl (Or.inl rfl) pe_int)
      (pss_cons (ps_if (pt_cmpR op_lt (pv 5) (pe_callB (id := "len") (show CallR _ (.builtin "len") ((fun xs H Q => ∃ x n, xs = [x] ∧ LenV K x H n ∧ Q (.int n) H)) from call_len) (by rfl) T.z_len (by decide +kernel) (pa_cons (pv 0) pa_nil)) (nomark _)) (pss_one (ps_set (i := 6) sc__law_deck.nd rfl (Or.inl rfl) (pe_ix (show IxR _ (rIxL K) from ix_list) (pv 0) (pv 5) (fun _ _ => rfl)))) pss_nil)
      (pss_cons (ps_set (i := 7) sc__law_deck.nd rfl (Or.inl rfl) (pe_callB (id := "abs") call_abs (by rfl) T.z_abs (by decide +kernel) (pa_cons (pv 6) pa_nil)))
      (pss_one (ps_if (pt_cmpR op_ge (pv 7) (pe_op op_pow pe_int pe_int) (nomark _)) (pss_one (ps_for (passes_of rfl) rfl (pi_range1 (by rfl) T.z_range (pa_cons (pv 2) pa_nil)) (pg_name (i := 8) sc__law_deck.nd rfl (Or.inl rfl)) (pss_cons (ps_expr (show PE _ _ (tBM K _ _ _ _) from (pe_bm PySem.F.plainAttrs_list PySem.F.slot_list_append PySem.F.type_list_append mt_append (pv 3) (pa_cons (pe_op op_modN (pe_callTy call_int1 (by rfl) T.z_int (by decide +kernel) (pa_cons (pv 7) pa_nil)) pe_int) pa_nil))))
      (pss_one (ps_set (i := 7) sc__law_deck.nd rfl (Or.inl rfl) (pe_op op_fdivN (pv 7) pe_int)))))) (pss_cons (ps_set (i := 4) sc__law_deck.nd rfl (Or.inl rfl) (pe_op op_modN (pe_callTy call_int1 (by rfl) T.z_int (by decide +kernel) (pa_cons (pe_op op_add (pe_op op_add (pe_op op_add (pe_op op_mulW (pv 4) pe_int) (pe_op op_mulW pe_int (pv 7))) (pe_callTy call_int1 (by rfl) T.z_int (by decide +kernel) (pa_cons (pe_cmpR op_lt (pv 6) pe_int (nomark _)) pa_nil))) (pv 5)) pa_nil)) pe_int))
      (pss_one (ps_for (passes_of rfl) rfl (pi_range1 (by rfl) T.z_range (pa_cons (pv 2) pa_nil)) (pg_name (i := 8) sc__law_deck.nd rfl (Or.inl rfl)) (pss_cons (ps_set (i := 4) sc__law_deck.nd rfl (Or.inl rfl) (pe_op op_modN (pe_callTy call_int1 (by rfl) T.z_int (by decide +kernel) (pa_cons (pe_op op_add (pe_op op_add (pe_op op_mulW (pv 4) pe_int) (pv 8)) pe_int) pa_nil)) pe_int))
      (pss_one (ps_expr (show PE _ _ (tBM K _ _ _ _) from (pe_bm PySem.F.plainAttrs_list PySem.F.slot_list_append PySem.F.type_list_append mt_append (pv 3) (pa_cons (pe_op op_modN (pe_callTy call_int1 (by rfl) T.z_int (by decide +kernel) (pa_cons (pe_op op_fdivN (pv 4) pe_int) pa_nil)) pe_int) pa_nil)))))))))))))))
      (pss_cons (ps_expr (show PE _ _ (tBM0 K _ _ _) from (pe_bm0 PySem.F.plainAttrs_list PySem.F.slot_list_reverse PySem.F.type_list_reverse mt_reverse (pv 3))))
      (pss_one (ps_ret (pv 3))))))), fun B F0 a0 avs cs kk ex hx hp hk hex => ?_⟩
  obtain ⟨xs, c, e, rfl, rfl, hxs, hc, he, hce⟩ := hp
  have sl : (100000 : Nat) < sizeLine := by decide
  show WS _ _ ⟨[.d (.lstS (xs.map .int)), .d (.int c), .d (.int e), .un, .un, .un, .un, .un, .un], []⟩ _
  walk_at "kw"
  refine we_lstc ?_
  walk_at "kw"
  refine rc_lenScr ?_
  walk_at "kw"
  refine ws_for (wi_rng1 ?_)
  walk_at "kw"
  refine ⟨_, rfl, by omega, by omega, fun i st => ∃ (ns : List Int) (seed : Int) (a b d f : AV), st = ⟨[.d (.lstS (xs.map .int)), .d (.int c), .d (.int e), .c 0, .d (.int seed), a, b, d, f], [.lst (ns.map .int)]⟩ ∧ ns.length = e * i ∧ 0 ≤ seed ∧ seed < 2 ^ 40,
    ⟨[], 7 + ((xs.map D.int).length : Nat), _, _, _, _, rfl, rfl, by omega, by rw [List.length_map]; omega⟩, fun i d s2 hd hi => ?_, fun s2 hi => ?_⟩
  · obtain ⟨ns, seed, a, b, d', f, rfl, hns, hs0, hs1⟩ := hi
    obtain ⟨hic, rfl⟩ := rgD_get hd
    rw [Int.toNat_natCast] at hic
    rw [Int.zero_add]
    have hbig : e * i + e ≤ e * c := by
      have : e * (i + 1) ≤ e * c := Nat.mul_le_mul_left e hic
      rw [Nat.mul_add, Nat.mul_one] at this
      exact this
    refine wg_name (ws_seq (ws_asg (we_int (wg_name ?_))))
    refine ws_seq (ws_mono (fun st => ∃ cell : Int, st = ⟨[.d (.lstS (xs.map .int)), .d (.int c), .d (.int e), .c 0, .d (.int seed), .d (.int i), .d (.int cell), d', f], [.lst (ns.map .int)]⟩) ?_ ?_)
    · walk_at "kw"
      refine rc_lenScr ?_
      walk_at "kw"
      refine ⟨fun h => ?_, fun h => ws_next ⟨0, rfl⟩⟩
      have h := of_decide_eq_true h
      rw [List.length_map] at h
      have hi' : i < xs.length := by omega
      walk_at "kw"
      refine ro_ixScr (d := .int xs[i]) (atI_natN (by rw [List.getElem?_map, List.getElem?_eq_getElem hi']; rfl)) ?_
      walk_at "kw"
      exact ⟨xs[i], rfl⟩
    rintro st ⟨cell, rfl⟩
    walk_at "kw"
    refine rc_abs ?_
    walk_at "kw"
    obtain ⟨rest, hre⟩ : ∃ rest : Int, (if cell < 0 then -cell else cell) = rest := ⟨_, rfl⟩
    have hr0 : 0 ≤ rest := by
      rw [← hre]
      split <;> omega
    rw [hre]
    refine ro_iC (show CPow 10 30 from ⟨by decide, by decide, by decide⟩) ?_
    walk_at "kw"
    have lenOk : ∀ j < e, e * i + j < sizeLine := fun j hj => by omega
    refine ⟨fun h => ?_, fun h => ?_⟩
    · -- a great number
      refine ws_for (wi_rng1 ?_)
      walk_at "kw"
      refine ⟨_, rfl, by omega, by omega, fun j st => ∃ (ms : List Int) (rest : Int) (a' : AV), st = ⟨[.d (.lstS (xs.map .int)), .d (.int c), .d (.int e), .c 0, .d (.int seed), .d (.int i), .d (.int cell), .d (.int rest), a'], [.lst (ms.map .int)]⟩ ∧ ms.length = e * i + j,
        ⟨ns, rest, _, rfl, hns⟩, fun j d s2 hd hj => ?_, fun s2 hj => ?_⟩
      · obtain ⟨ms, rest, a', rfl, hms⟩ := hj
        obtain ⟨hje, rfl⟩ := rgD_get hd
        rw [Int.toNat_natCast] at hje
        walk_at "kw"
        refine we_bm ?_
        walk_at "kw"
        refine ⟨ty_lc (n := 0) rfl, ?_⟩
        walk_at "kw"
        refine rc_int (.inl rfl) ?_
        walk_at "kw"
        refine ro_iC (by decide) ?_
        walk_at "kw"
        refine rm_append (n := 0) rfl (by rw [List.length_map, hms]; exact lenOk j hje) ?_
        rw [snocI]
        walk_at "kw"
        refine ro_iC ⟨by decide, by decide⟩ ?_
        walk_at "kw"
        exact ⟨_, _, _, rfl, by rw [List.length_append, hms]; rfl⟩
      · obtain ⟨ms, rest, a', rfl, hms⟩ := hj
        rw [rgD_length, Int.toNat_natCast] at hms
        exact ⟨ms, seed, _, _, _, _, rfl, by rw [hms, Nat.mul_add, Nat.mul_one], hs0, hs1⟩
    · have h : ¬ (10 : Int) ^ 30 ≤ rest := of_decide_eq_false h
      have hrb : rest.natAbs < 2 ^ 200 := by
        have : (10 : Int) ^ 30 = 1000000000000000000000000000000 := by decide
        omega
      walk_at "kw"
      refine ro_iC (cmulW_of (by omega) (by decide)) ?_
      walk_at "kw"
      refine ro_iC (cmulW_of (by decide) hrb) ?_
      walk_at "kw"
      refine rc_int (.inr ⟨_, rfl, rfl⟩) ?_
      walk_at "kw"
      refine rc_int (.inl rfl) ?_
      walk_at "kw"
      refine ro_iC (by decide) ?_
      walk_at "kw"
      generalize hsd : Int.fmod _ (2147483647 : Int) = seed2
      have hs20 : 0 ≤ seed2 ∧ seed2 < 2 ^ 40 := by
        rw [← hsd, Int.fmod_eq_emod_of_nonneg _ (by decide)]
        have h1 := Int.emod_nonneg (seed * 48271 + 2 * rest + (if decide (cell < 0) = true then 1 else 0) + (i : Int)) (show (2147483647 : Int) ≠ 0 by decide)
        have h2 := Int.emod_lt_of_pos (seed * 48271 + 2 * rest + (if decide (cell < 0) = true then 1 else 0) + (i : Int)) (show (0 : Int) < 2147483647 by decide)
        exact ⟨h1, by omega⟩
      refine ws_for (wi_rng1 ?_)
      walk_at "kw"
      refine ⟨_, rfl, by omega, by omega, fun j st => ∃ (ms : List Int) (sd : Int) (a' : AV), st = ⟨[.d (.lstS (xs.map .int)), .d (.int c), .d (.int e), .c 0, .d (.int sd), .d (.int i), .d (.int cell), .d (.int rest), a'], [.lst (ms.map .int)]⟩ ∧ ms.length = e * i + j ∧ 0 ≤ sd ∧ sd < 2 ^ 40,
        ⟨ns, seed2, _, rfl, hns, hs20.1, hs20.2⟩, fun j d s2 hd hj => ?_, fun s2 hj => ?_⟩
      · obtain ⟨ms, sd, a', rfl, hms, hd0, hd1⟩ := hj
        obtain ⟨hje, rfl⟩ := rgD_get hd
        rw [Int.toNat_natCast] at hje
        walk_at "kw"
        refine ro_iC (cmulW_of (by omega) (by decide)) ?_
        walk_at "kw"
        refine rc_int (.inl rfl) ?_
        walk_at "kw"
        refine ro_iC (by decide) ?_
        walk_at "kw"
        generalize hse : Int.fmod _ (2147483629 : Int) = sd2
        have hsd2 : 0 ≤ sd2 ∧ sd2 < 2 ^ 40 := by
          rw [← hse, Int.fmod_eq_emod_of_nonneg _ (by decide)]
          have h1 := Int.emod_nonneg (sd * 69621 + (0 + (j : Int)) + 1) (show (2147483629 : Int) ≠ 0 by decide)
          have h2 := Int.emod_lt_of_pos (sd * 69621 + (0 + (j : Int)) + 1) (show (0 : Int) < 2147483629 by decide)
          exact ⟨h1, by omega⟩
        refine we_bm ?_
        walk_at "kw"
        refine ⟨ty_lc (n := 0) rfl, ?_⟩
        walk_at "kw"
        refine ro_iC ⟨by decide, by decide⟩ ?_
        walk_at "kw"
        refine rc_int (.inl rfl) ?_
        walk_at "kw"
        refine ro_iC (by decide) ?_
        walk_at "kw"
        refine rm_append (n := 0) rfl (by rw [List.length_map, hms]; exact lenOk j hje) ?_
        rw [snocI]
        exact ⟨_, _, _, rfl, by rw [List.length_append, hms]; rfl, hsd2.1, hsd2.2⟩
      · obtain ⟨ms, sd, a', rfl, hms, hd0, hd1⟩ := hj
        rw [rgD_length, Int.toNat_natCast] at hms
        exact ⟨ms, sd, _, _, _, _, rfl, by rw [hms, Nat.mul_add, Nat.mul_one], hd0, hd1⟩
  · obtain ⟨ns, seed, a, b, d', f, rfl, hns, hs0, hs1⟩ := hi
    refine ws_seq (ws_drop (we_bm0 ?_))
    walk_at "kw"
    refine ⟨ty_lc (n := 0) rfl, rm_reverse (n := 0) rfl ?_⟩
    rw [← List.map_reverse]
    refine ws_ret (we_closeDk 0 ?_)
    walk_at "kw"
    exact ⟨_, rfl, hk _ _ ⟨0, rfl, rfl⟩⟩
end
end K71


namespace K71
section
variable {P : Program} {w : World} {A : AD} {K : PySem.W.Frag} {mg : Str → Option Value} {base : Heap}
-- ### drawn orders
abbrev sp__law_order (A : AD) (K : PySem.W.Frag) : Sp := spC (α := Nat) K (fun n avs co => avs = [.c 0, .d (.int n)] ∧ co = .deck ∧ n ≤ 1000) (fun n d co' => co' = .deck ∧ ∃ w, d = .tup (natD w) ∧ Ord w n)
theorem erase_map {α β : Type} (f : α → β) : ∀ (l : List α) (i : Nat), (l.map f).eraseIdx i = (l.eraseIdx i).map f
  | [], _ => rfl
  | _ :: _, 0 => rfl
  | x :: l, i + 1 => congrArg (f x :: ·) (erase_map f l i)
theorem erase_perm : ∀ (l : List Nat) (i : Nat) (h : i < l.length), (l[i] :: l.eraseIdx i).Perm l
  | x :: l, 0, _ => List.Perm.refl _
  | x :: l, i + 1, h => (List.Perm.swap x _ _).trans ((erase_perm l i (Nat.lt_of_succ_lt_succ h)).cons x)
theorem seq_at {r n : Nat} (h : r < n) : seqIndex? (r : Int) n = some r := by
  unfold seqIndex?
  have h1 : ¬ (r : Int) < 0 := by omega
  have h2 : (decide ((0 : Int) ≤ (r : Int)) && decide ((r : Int) < (n : Int))) = true := by rw [Bool.and_eq_true]; exact ⟨decide_eq_true (by omega), decide_eq_true (by omega)⟩
  show (if (decide ((0 : Int) ≤ (if (r : Int) < 0 then (r : Int) + n else r)) && decide ((if (r : Int) < 0 then (r : Int) + n else r) < (n : Int))) = true then some (if (r : Int) < 0 then (r : Int) + n else r).toNat else none) = some r
  rw [if_neg h1, if_pos h2]
  rfl
theorem ok__law_order (T : Txt P w A K mg) : FnOk P w K mg base (L2.CX P w) 2 A.f__law_order A.fd__law_order ["deck", "size"] (sp__law_order A K) := by
  refine okC T.d__law_order.F sc__law_order (fun a avs co ⟨h, _⟩ => by rw [h]; rfl) fun cdv Ar outer sh H E hr => ⟨_, (pss_cons (ps_set (i := 2) sc__law_order.nd rfl (Or.inl rfl) (pe_listRg rfl rfl T.z_list (prg_1 rfl T.z_range (pv 1))))
      (pss_cons (ps_set (i := 3) sc__law_order.nd rfl (Or.inl rfl) (pe_lst pa_nil))
      (pss_cons (ps_while (passes_of rfl) (pt_cmpR op_gt (pe_callB (id := "len") (show CallR _ (.builtin "len") ((fun xs H Q => ∃ x n, xs = [x] ∧ LenV K x H n ∧ Q (.int n) H)) from call_len) (by rfl) T.z_len (by decide +kernel) (pa_cons (pv 2) pa_nil)) pe_int (nomark _)) (pss_one (ps_expr (show PE _ _ (tBM K _ _ _ _) from (pe_bm PySem.F.plainAttrs_list PySem.F.slot_list_append PySem.F.type_list_append mt_append (pv 3) (pa_cons (show PE _ _ (tBM K _ _ _ _) from (pe_bm PySem.F.plainAttrs_list PySem.F.slot_list_pop PySem.F.type_list_pop mt_popAt (pv 2) (pa_cons (show PE _ _ (tCallS (sp__law_take A K) _ _) from (pe_callS (ok__law_take T) (hr.mono (by decide)) rfl T.d__law_take.m T.d__law_take.F.kp T.d__law_take.b (fun σ => passAt (takes_of rfl rfl rfl rfl) σ) (pa_cons (pv 0) (pa_cons (pe_callB (id := "len") (show CallR _ (.builtin "len") ((fun xs H Q => ∃ x n, xs = [x] ∧ LenV K x H n ∧ Q (.int n) H)) from call_len) (by rfl) T.z_len (by decide +kernel) (pa_cons (pv 2) pa_nil)) pa_nil)))) pa_nil))) pa_nil))))))
      (pss_one (ps_ret (show PE _ _ (tThen _ (kTup K)) from (pe_tupleOf rfl T.z_tuple (pv 3)))))))), fun B F0 a0 n avs co kk hp hk => ?_⟩
  obtain ⟨rfl, rfl, hn⟩ := hp
  have sl : (1000 : Nat) ≤ sizeLine := by decide
  show WS _ _ ⟨[.c 0, .d (.int n), .un, .un], [.deck]⟩ _
  walk_at "kw"
  refine we_lstRg1c ?_
  walk_at "kw"
  refine ⟨n, rfl, by omega, ?_⟩
  walk_at "kw"
  refine we_lstc ?_
  walk_at "kw"
  refine ws_while (fun m st => ∃ ls fs : List Nat, st = ⟨[.c 0, .d (.int n), .c 1, .c 2], [.deck, .lst (natD ls), .lst (natD fs)]⟩ ∧ ls.length = m ∧ (fs ++ ls).Perm (List.range n)) n ⟨List.range n, [], rfl, List.length_range, List.Perm.refl _⟩ fun m st hi => ?_
  obtain ⟨ls, fs, rfl, hm, hp⟩ := hi
  have hlen : fs.length + ls.length = n := by rw [← List.length_append, hp.length_eq, List.length_range]
  walk_at "kw"
  refine rc_lenC (n := 1) rfl ?_
  walk_at "kw"
  refine ⟨fun h => ?_, fun h => ?_⟩
  · rw [natD_length] at h
    have h : 0 < ls.length := by have := of_decide_eq_true h; omega
    refine ws_drop (we_bm ?_)
    walk_at "kw"
    refine ⟨ty_lc (n := 2) rfl, ?_⟩
    walk_at "kw"
    refine we_bm ?_
    walk_at "kw"
    refine ⟨ty_lc (n := 1) rfl, ?_⟩
    walk_at "kw"
    refine we_callCC 0 ?_
    walk_at "kw"
    refine rc_lenC (n := 1) rfl ?_
    walk_at "kw"
    refine ⟨.deck, rfl, trivial, trivial, (by intro m hm; rcases List.mem_cons.mp hm with h | h; cases h; rfl; rcases List.mem_cons.mp h with h | h; cases h; cases h), (ls.length : Int), ⟨by rw [natD_length]; rfl, rfl, by omega⟩, fun d co' hd => ?_⟩
    obtain ⟨rfl, r, rfl, hr⟩ := hd
    refine ⟨trivial, trivial, ?_⟩
    have hr : r < ls.length := by omega
    walk_at "kw"
    refine rm_popAt (n := 1) (i := (r : Int)) rfl (by omega) (by omega) (j := r) ?_ (d := .int (ls[r] : Nat)) ?_ ?_
    · rw [natD_length]
      exact seq_at hr
    · rw [natD_get, List.getElem?_eq_getElem hr]
      rfl
    walk_at "kw"
    refine rm_append (n := 2) rfl (by rw [natD_length]; omega) ?_
    refine ⟨(ls.eraseIdx r).length, ?_, ls.eraseIdx r, fs ++ [ls[r]], ?_, rfl, ?_⟩
    · rw [List.length_eraseIdx, if_pos hr, ← hm]
      omega
    · show S.mk _ [CO.deck, CO.lst ((natD ls).eraseIdx r), CO.lst (natD fs ++ [.int (ls[r] : Nat)])] = _
      unfold natD
      rw [List.map_append, erase_map]
      rfl
    · refine List.Perm.trans ?_ hp
      rw [List.append_assoc]
      exact List.Perm.append_left fs (erase_perm ls r hr)
  · rw [natD_length] at h
    have h0 : ls.length = 0 := by have := of_decide_eq_false h; omega
    obtain rfl : ls = [] := List.length_eq_zero_iff.mp h0
    rw [List.append_nil] at hp
    walk_at "kw"
    refine we_thenTupC ?_
    walk_at "kw"
    refine ⟨_, 2, rfl, rfl, hk _ _ _ ⟨rfl, fs, rfl, hp⟩⟩
end
end K71


namespace K71
section
variable {P : Program} {w : World} {A : AD} {K : PySem.W.Frag} {mg : Str → Option Value} {base : Heap}
abbrev sp__law_orders (A : AD) (K : PySem.W.Frag) : Sp := spC (α := Nat) K (fun m avs co => avs = [.c 0, .d (.int m)] ∧ co = .deck ∧ 0 < m ∧ m ≤ 400) (fun m d co' => co' = .deck ∧ ∃ (n : Nat) (w c : List Nat), d = .tup [.tup (natD w), .tup (natD c)] ∧ 0 < n ∧ n ≤ m ∧ Ord w n ∧ Ord c n)
theorem ok__law_orders (T : Txt P w A K mg) : FnOk P w K mg base (L2.CX P w) 3 A.f__law_orders A.fd__law_orders ["deck", "most"] (sp__law_orders A K) := by
  refine okC T.d__law_orders.F sc__law_orders (fun a avs co ⟨h, _⟩ => by rw [h]; rfl) fun cdv Ar outer sh H E hr => ⟨_, (pss_cons (ps_set (i := 2) sc__law_orders.nd rfl (Or.inl rfl) (pe_op op_add pe_int (show PE _ _ (tCallS (sp__law_take A K) _ _) from (pe_callS (ok__law_take T) (hr.mono (by decide)) rfl T.d__law_take.m T.d__law_take.F.kp T.d__law_take.b (fun σ => passAt (takes_of rfl rfl rfl rfl) σ) (pa_cons (pv 0) (pa_cons (pv 1) pa_nil))))))
      (pss_one (ps_ret (pe_tup (pa_cons (show PE _ _ (tCallS (sp__law_order A K) _ _) from (pe_callS (ok__law_order T) (hr.mono (by decide)) rfl T.d__law_order.m T.d__law_order.F.kp T.d__law_order.b (fun σ => passAt (takes_of rfl rfl rfl rfl) σ) (pa_cons (pv 0) (pa_cons (pv 2) pa_nil)))) (pa_cons (show PE _ _ (tCallS (sp__law_order A K) _ _) from (pe_callS (ok__law_order T) (hr.mono (by decide)) rfl T.d__law_order.m T.d__law_order.F.kp T.d__law_order.b (fun σ => passAt (takes_of rfl rfl rfl rfl) σ) (pa_cons (pv 0) (pa_cons (pv 2) pa_nil)))) pa_nil)))))), fun B F0 a0 m avs co kk hp hk => ?_⟩
  obtain ⟨rfl, rfl, hm, hm4⟩ := hp
  have sl2 : (2 : Nat) ≤ sizeLine := by decide
  show WS _ _ ⟨[.c 0, .d (.int m), .un], [.deck]⟩ _
  walk_at "kw"
  refine we_callCC 0 ?_
  walk_at "kw"
  refine ⟨.deck, rfl, trivial, trivial, (by intro m hm; rcases List.mem_cons.mp hm with h | h; cases h; rfl; rcases List.mem_cons.mp h with h | h; cases h; cases h), (m : Int), ⟨rfl, rfl, by omega⟩, fun d co' hd => ?_⟩
  obtain ⟨rfl, r, rfl, hr⟩ := hd
  refine ⟨trivial, trivial, ?_⟩
  walk_at "kw"
  have e1 : (1 : Int) + (r : Int) = ((1 + r : Nat) : Int) := by omega
  rw [e1]
  refine we_callCC 0 ?_
  walk_at "kw"
  refine ⟨.deck, rfl, trivial, trivial, (by intro m hm; rcases List.mem_cons.mp hm with h | h; cases h; rfl; rcases List.mem_cons.mp h with h | h; cases h; cases h), 1 + r, ⟨rfl, rfl, by omega⟩, fun d co' hd => ?_⟩
  obtain ⟨rfl, w1, rfl, h1⟩ := hd
  refine ⟨trivial, trivial, ?_⟩
  walk_at "kw"
  refine we_callCC 0 ?_
  walk_at "kw"
  refine ⟨.deck, rfl, trivial, trivial, (by intro m hm; rcases List.mem_cons.mp hm with h | h; cases h; rfl; rcases List.mem_cons.mp h with h | h; cases h; cases h), 1 + r, ⟨rfl, rfl, by omega⟩, fun d co' hd => ?_⟩
  obtain ⟨rfl, w2, rfl, h2⟩ := hd
  refine ⟨trivial, trivial, ?_⟩
  walk_at "kw"
  exact hk _ _ _ ⟨rfl, 1 + r, w1, w2, rfl, by omega, by omega, h1, h2⟩
end
end K71


namespace K71
section
variable {P : Program} {w : World} {A : AD} {K : PySem.W.Frag} {mg : Str → Option Value} {base : Heap}
abbrev sp__law_led (A : AD) (K : PySem.W.Frag) : Sp := spF (α := Ld) K (fun a ds => ds = [.tup [.tup (natD a.w), .tup (natD a.c)], .int (a.p : Nat), .str a.z] ∧ Ord a.w a.w.length ∧ Ord a.c a.w.length ∧ a.p < a.w.length ∧ a.w.length ≤ 1000 ∧ a.z.cps.toList.all isLet = true) (fun a r => r = .int (walkS a.w a.c a.p a.z.cps.toList : Nat)) (fun _ _ _ => False)
theorem one_sign {c m : Nat} {x : Str} (hx : x = ⟨#[m]⟩) : decide ((⟨#[c]⟩ : Str) = x) = decide (c = m) := by
  subst hx
  by_cases h : c = m
  · subst h
    rw [decide_eq_true rfl, decide_eq_true rfl]
  · rw [decide_eq_false h, decide_eq_false fun z => h ?_]
    have z := congrArg Str.cps z
    have z : #[c].toList = #[m].toList := congrArg Array.toList z
    exact (List.cons.inj z).1
theorem cmp_nat (l : List Nat) : cmpD (.lst (natD l)) := by
  rw [natD_int]
  exact cmp_intsL
theorem cmp_int (i : Int) : cmpD (.int i) := ⟨by rfl, by rfl⟩
theorem ok__law_led (T : Txt P w A K mg) : FnOk P w K mg base (L2.CX P w) 1 A.f__law_led A.fd__law_led ["pair", "place", "text"] (sp__law_led A K) := by
  refine okF T.d__law_led.F sc__law_led (fun a ds ⟨h, _⟩ => by rw [h]; rfl) fun cdv Ar outer sh H E hr => ⟨_, (pss_cons (ps_for (passes_of rfl) rfl (pi_str (pv 2)) (pg_name (i := 3) sc__law_led.nd rfl (Or.inl rfl)) (pss_one (ps_if (pt_cmpR op_eq (pv 3) pe_str (nomark _)) (pss_one (ps_set (i := 1) sc__law_led.nd rfl (Or.inl rfl) (pe_ix (show IxR _ (rIxT K) from ix_tup) (pe_ix (show IxR _ (rIxT K) from ix_tup) (pv 0) pe_int (fun _ _ => rfl)) (pv 1) (fun _ _ => rfl)))) (pss_one (ps_if (pt_cmpR op_eq (pv 3) pe_str (nomark _)) (pss_one (ps_set (i := 1) sc__law_led.nd rfl (Or.inl rfl) (pe_ix (show IxR _ (rIxT K) from ix_tup) (pe_ix (show IxR _ (rIxT K) from ix_tup) (pv 0) pe_int (fun _ _ => rfl)) (pv 1) (fun _ _ => rfl)))) (pss_one (ps_set (i := 1) sc__law_led.nd rfl (Or.inl rfl) (show PE _ _ (tBM K _ _ _ _) from (pe_bm PySem.F.plainAttrs_list PySem.F.slot_list_index PySem.F.type_list_index (show MtR _ "list.index" (rIndexD K) from (mt_indexD (hu65 hr))) (pe_callTy call_list_of (by rfl) T.z_list (by decide +kernel) (pa_cons (pe_ifExp (pt_cmpR op_eq (pv 3) pe_str (nomark _)) (pe_ix (show IxR _ (rIxT K) from ix_tup) (pv 0) pe_int (fun _ _ => rfl)) (pe_ix (show IxR _ (rIxT K) from ix_tup) (pv 0) pe_int (fun _ _ => rfl))) pa_nil)) (pa_cons (pv 1) pa_nil))))))))))
      (pss_one (ps_ret (pv 1)))), fun B F0 a0 a ds kk ex hx hp hk hex => ?_⟩
  obtain ⟨wv, ch, p, z⟩ := a
  obtain ⟨rfl, ow, oc, hp, hl, hz⟩ := hp
  have ow : Ord wv wv.length := ow
  have oc : Ord ch wv.length := oc
  have hp : p < wv.length := hp
  have hz : z.cps.toList.all isLet = true := hz
  show WS _ _ ⟨[.d (.tup [.tup (natD wv), .tup (natD ch)]), .d (.int (p : Nat)), .d (.str z), .un], []⟩ _
  walk_at "kw"
  refine ws_for (wi_str ?_)
  walk_at "kw"
  refine ⟨z, rfl, fun i s => ∃ y, s = ⟨[.d (.tup [.tup (natD wv), .tup (natD ch)]), .d (.int (walkS wv ch p (z.cps.toList.take i) : Nat)), .d (.str z), y], []⟩, ⟨_, rfl⟩, fun i d s2 hd hi => ?_, fun s2 hi => ?_⟩
  · obtain ⟨y, rfl⟩ := hi
    unfold KW.signs at hd
    rw [List.getElem?_map] at hd
    obtain ⟨c, hc, rfl⟩ := Option.map_eq_some_iff.mp hd
    have hl : isLet c = true := List.all_eq_true.mp hz c (List.mem_of_getElem? hc)
    have hq := walkS_lt ow oc (z.cps.toList.take i) hp
    have e : walkS wv ch p (z.cps.toList.take (i + 1)) = stepS wv ch (walkS wv ch p (z.cps.toList.take i)) c := by
      unfold walkS
      rw [List.take_add_one, hc, List.foldl_append]
      rfl
    generalize walkS wv ch p (z.cps.toList.take i) = q at hq e
    walk_at "kw"
    rw [one_sign (show PySem.Str.ofString "a" = ⟨#[97]⟩ from by decide +kernel)]
    refine ⟨fun h => ?_, fun h => ?_⟩
    · have h := of_decide_eq_true h
      subst h
      have g : wv[q]? = some (stepS wv ch q 97) := mvS_get ow oc hq (ch := 97)
      walk_at "kw"
      refine ⟨.d (.str ⟨#[97]⟩), ?_⟩
      rw [e]
      rfl
    · have h := of_decide_eq_false h
      walk_at "kw"
      rw [one_sign (show PySem.Str.ofString "b" = ⟨#[98]⟩ from by decide +kernel)]
      refine ⟨fun h2 => ?_, fun h2 => ?_⟩
      · have h2 := of_decide_eq_true h2
        subst h2
        have g : ch[q]? = some (stepS wv ch q 98) := mvS_get ow oc hq (ch := 98)
        walk_at "kw"
        refine ⟨.d (.str ⟨#[98]⟩), ?_⟩
        rw [e]
        rfl
      · have h2 := of_decide_eq_false h2
        walk_at "kw"
        have back : ∀ (v : List Nat) (k : AV → S → Prop) (s : S) (d : D), d = .int (q : Nat) → Ord v wv.length → k (.d (.int ((invL v).getD q 0 : Nat))) s → RM ⟨K, B, F0, a0⟩ (rIndexD K) (.d (.lst (natD v))) [.d d] s k := fun v k s d hd ov hk => by
          subst hd
          obtain ⟨i, _, hi, hvi, hg⟩ := ov.back hq
          refine rm_indexD (j := i) (z := .int (q : Nat)) (cmp_nat v) (cmp_int _) (by rw [natD_get, hvi]; rfl) (by show PyData.eqv (.int _) (.int _) = true; rw [eqv_int]; exact decide_eq_true rfl) (fun m z' hm hz => ?_) (by have hk' := hk; rw [hg] at hk'; exact hk')
          rw [natD_get] at hz
          obtain ⟨y', hy, rfl⟩ := Option.map_eq_some_iff.mp hz
          show PyData.eqv (.int _) (.int _) = false
          rw [eqv_int]
          refine decide_eq_false fun hh => ?_
          have hh : y' = q := Int.ofNat.inj hh
          subst hh
          have hlt : m < v.length := (List.getElem?_eq_some_iff.mp hy).1
          have := (List.getElem?_inj hlt ov.nd).mp (hy.trans hvi.symm)
          omega
        refine we_bm ?_
        walk_at "kw"
        rw [one_sign (show PySem.Str.ofString "A" = ⟨#[65]⟩ from by decide +kernel)]
        refine ⟨fun h3 => ?_, fun h3 => ?_⟩
        · have h3 := of_decide_eq_true h3
          walk_at "kw"
          refine rc_listT ?_
          walk_at "kw"
          refine ⟨ty_l, ?_⟩
          walk_at "kw"
          refine back wv _ _ _ rfl ow ?_
          walk_at "kw"
          refine ⟨.d (.str ⟨#[c]⟩), ?_⟩
          rw [e]
          subst h3
          rfl
        · have h3 := of_decide_eq_false h3
          walk_at "kw"
          refine rc_listT ?_
          walk_at "kw"
          refine ⟨ty_l, ?_⟩
          walk_at "kw"
          refine back ch _ _ _ rfl oc ?_
          walk_at "kw"
          refine ⟨.d (.str ⟨#[c]⟩), ?_⟩
          rw [e]
          unfold stepS
          rw [if_neg h, if_neg h2, if_neg h3]
          rfl
  · obtain ⟨y, rfl⟩ := hi
    walk_at "kw"
    refine hk _ _ ?_
    unfold KW.signs
    rw [List.length_map, List.take_length]
end
end K71


namespace K71
section
variable {P : Program} {w : World} {A : AD} {K : PySem.W.Frag} {mg : Str → Option Value} {base : Heap}
abbrev sp_check_society (A : AD) (K : PySem.W.Frag) : Sp := spF (α := List Nat × List Nat) K (fun a ds => ds = [socD A a.1 a.2]) (fun a r => r = .non) (fun _ _ _ => False)
theorem ok_check_society (T : Txt P w A K mg) : FnOk P w K mg base (L2.CX P w) 1 A.f_check_society A.fd_check_society ["society"] (sp_check_society A K) := by
  refine okF T.d_check_society.F sc_check_society (fun a ds h => by rw [show ds = _ from h]; rfl) fun cdv Ar outer sh H E hr => ⟨_, (pss_one (ps_if (pt_not (pt_val (pe_callB (id := "isinstance") (show CallR _ (.builtin "isinstance") (rIsi K) from call_isi) (by rfl) T.z_isinstance (by decide +kernel) (pa_cons (pv 0) (pa_cons (pe_glob (v := .ref A.C_Society) rfl T.n_Society rfl) pa_nil))))) (pss_one (ps_raise rfl (takes_of rfl rfl rfl rfl) (pmk_err T.e_InvalidSociety T.n_InvalidSociety hr (pa_cons pe_str pa_nil)))) pss_nil)), fun B F0 a0 a ds kk ex hx hp hk hex => ?_⟩
  obtain ⟨wv, ch⟩ := a
  obtain rfl := hp
  walk_at "kw"
  refine rc_isiC T.i_Society ?_
  refine ⟨true, rfl, fun h => ?_, fun h => ?_⟩
  · cases h
  · walk_at "kw"
    exact hk _ _ rfl
end
end K71


namespace K71
open PySem PySem.Spec PyProof.Rows L2 KW KP
-- ### what is reached; parts
theorem Ord.two {w c : List Nat} {n : Nat} (hw : Ord w n) (hc : Ord c n) : Two w c n where
  lw := hw.len
  lc := hc.len
  iw := fun {x y} hx hy e => by
    obtain ⟨a, h1, _, h2⟩ := hw.get hx
    obtain ⟨b, h3, _, h4⟩ := hw.get hy
    rw [h2, h4] at e
    subst e
    exact (List.getElem?_inj (by rw [hw.len]; exact hx) hw.nd).mp (h1.trans h3.symm)
  ic := fun {x y} hx hy e => by
    obtain ⟨a, h1, _, h2⟩ := hc.get hx
    obtain ⟨b, h3, _, h4⟩ := hc.get hy
    rw [h2, h4] at e
    subst e
    exact (List.getElem?_inj (by rw [hc.len]; exact hx) hc.nd).mp (h1.trans h3.symm)
  bw := fun {x} hx => by
    obtain ⟨a, _, h1, h2⟩ := hw.get hx
    rw [h2]
    exact h1
  bc := fun {x} hx => by
    obtain ⟨a, _, h1, h2⟩ := hc.get hx
    rw [h2]
    exact h1
/-- known: x → True -/
def truK (f : List Nat) : List (Key × D) := f.map fun (x : Nat) => (.inl (x : Int), .bl true)
theorem truK_look (f : List Nat) (x : Nat) : (lkD (truK f) (.inl (x : Int))).isSome = decide (x ∈ f) := by
  unfold truK
  induction f with
  | nil => rfl
  | cons y f ih =>
    rw [List.map_cons, lkD_cons]
    by_cases e : y = x
    · subst e
      rw [if_pos rfl, decide_eq_true List.mem_cons_self]
      rfl
    · have e1 : ¬ (Sum.inl (y : Int) : Key) = Sum.inl (x : Int) := fun z => e (Int.ofNat.inj (Sum.inl.inj z))
      rw [if_neg e1, ih]
      have : x ∈ y :: f ↔ x ∈ f := ⟨fun z => (List.mem_cons.mp z).elim (fun q => absurd q.symm e) id, List.mem_cons_of_mem _⟩
      simp only [this]
theorem truK_put {f : List Nat} {x : Nat} (h : x ∉ f) : putD (truK f) (.inl (x : Int)) (.bl true) = truK (f ++ [x]) := by
  rw [putD_new]
  · unfold truK
    rw [List.map_append]
    rfl
  · have := truK_look f x
    rw [decide_eq_false h] at this
    cases q : lkD (truK f) (.inl (x : Int)) with
    | none => rfl
    | some d => rw [q] at this; cases this
theorem truK_length (f : List Nat) : (truK f).length = f.length := List.length_map ..
structure Pl where
  w : List Nat
  c : List Nat
  p : Nat
def Pl.ok (a : Pl) : Prop := Ord a.w a.w.length ∧ Ord a.c a.w.length ∧ a.p < a.w.length ∧ a.w.length ≤ 400
section
variable {P : Program} {w : World} {A : AD} {K : PySem.W.Frag} {mg : Str → Option Value} {base : Heap}
abbrev sp_reached_from (A : AD) (K : PySem.W.Frag) : Sp := spF (α := Pl) K (fun a ds => ds = [socD A a.w a.c, .int (a.p : Nat)] ∧ a.ok) (fun a r => r = .lst (natD (reach a.w a.c a.p))) (fun _ _ _ => False)
theorem ok_reached_from (T : Txt P w A K mg) : FnOk P w K mg base (L2.CX P w) 1 A.f_reached_from A.fd_reached_from ["society", "first"] (sp_reached_from A K) := by
  refine okF T.d_reached_from.F sc_reached_from (fun a ds ⟨h, _⟩ => by rw [h]; rfl) fun cdv Ar outer sh H E hr => ⟨_, (pss_cons (ps_set (i := 2) sc_reached_from.nd rfl (Or.inl rfl) (pe_lst (pa_cons (pv 1) pa_nil)))
      (pss_cons (ps_set (i := 3) sc_reached_from.nd rfl (Or.inl rfl) (pe_disp (pps_cons (pv 1) pe_bl pps_nil) (by rfl) (by rfl) (fun z => by cases z) (by decide)))
      (pss_cons (ps_set (i := 4) sc_reached_from.nd rfl (Or.inl rfl) pe_int)
      (pss_cons (ps_while (passes_of rfl) (pt_cmpR op_lt (pv 4) (pe_callB (id := "len") (show CallR _ (.builtin "len") ((fun xs H Q => ∃ x n, xs = [x] ∧ LenV K x H n ∧ Q (.int n) H)) from call_len) (by rfl) T.z_len (by decide +kernel) (pa_cons (pv 2) pa_nil)) (nomark _)) (pss_cons (ps_for (passes_of rfl) rfl (show PI _ _ _ (iTup K _) from (pi_tup (pe_tup (pa_cons (pe_ix (show IxR _ (rIxT K) from ix_tup) (show PE _ _ (tFld K _ _) from (pe_fld (pv 0) (by rfl))) (pe_ix (show IxR _ (rIxL K) from ix_list) (pv 2) (pv 4) (fun _ _ => rfl)) (fun _ _ => rfl)) (pa_cons (pe_ix (show IxR _ (rIxT K) from ix_tup) (show PE _ _ (tFld K _ _) from (pe_fld (pv 0) (by rfl))) (pe_ix (show IxR _ (rIxL K) from ix_list) (pv 2) (pv 4) (fun _ _ => rfl)) (fun _ _ => rfl)) pa_nil))))) (pg_name (i := 5) sc_reached_from.nd rfl (Or.inl rfl)) (pss_one (ps_if (pt_cmp (pc_dnotin (hu_of hr) (pv 5) (pv 3))) (pss_cons (ps_dput (hu_of hr) (pv 3) (pv 5) pe_bl (by rfl))
      (pss_one (ps_expr (show PE _ _ (tBM K _ _ _ _) from (pe_bm PySem.F.plainAttrs_list PySem.F.slot_list_append PySem.F.type_list_append mt_append (pv 2) (pa_cons (pv 5) pa_nil)))))) pss_nil)))
      (pss_one (ps_aug (i := 4) sc_reached_from.nd rfl (Or.inl rfl) pe_int ip_add))))
      (pss_one (ps_ret (pv 2))))))), fun B F0 a0 a ds kk ex hx hp hk hex => ?_⟩
  obtain ⟨wv, ch, p⟩ := a
  obtain ⟨rfl, ow, oc, hp, hn⟩ := hp
  have ow : Ord wv wv.length := ow
  have oc : Ord ch wv.length := oc
  have hp : p < wv.length := hp
  have hn : wv.length ≤ 400 := hn
  have T2 := ow.two oc
  have sl : (1000 : Nat) ≤ sizeLine := by decide
  show WS _ _ ⟨[.d (socD A wv ch), .d (.int (p : Nat)), .un, .un, .un, .un], []⟩ _
  walk_at "kw"
  refine we_lstc ?_
  walk_at "kw"
  refine ⟨[(.inl (p : Int), .bl true)], rfl, by show 1 ≤ 15; decide, rfl, ?_⟩
  walk_at "kw"
  refine ws_while (fun m st => ∃ (f : List Nat) (i k : Nat) (y : AV), st = ⟨[.d (socD A wv ch), .d (.int (p : Nat)), .c 0, .c 1, .d (.int (i : Nat)), y], [.lst (natD f), .dK (truK f)]⟩ ∧ bfs (nbO wv ch) k i f = reach wv ch p ∧ f.Nodup ∧ (∀ x ∈ f, x < wv.length) ∧ wv.length ≤ k + i ∧ i ≤ f.length ∧ m = wv.length - i) wv.length ⟨[p], 0, wv.length, .un, rfl, rfl, List.nodup_cons.mpr ⟨List.not_mem_nil, List.nodup_nil⟩, fun x hx => by rw [List.mem_singleton.mp hx]; exact hp, Nat.le_refl _, Nat.zero_le _, rfl⟩ fun m st hi => ?_
  obtain ⟨f, i, k, y, rfl, hb, nd, hf, hk1, hif, rfl⟩ := hi
  have hfl : f.length ≤ wv.length := by
    have := len_le_of_sub nd (u := List.range wv.length) fun x hx => List.mem_range.mpr (hf x hx)
    rwa [List.length_range] at this
  walk_at "kw"
  refine rc_lenC (n := 0) rfl ?_
  walk_at "kw"
  rw [natD_length]
  refine ⟨fun h => ?_, fun h => ?_⟩
  · have h : i < f.length := by have := of_decide_eq_true h; omega
    obtain ⟨x, hx⟩ : ∃ x, f[i]? = some x := ⟨_, List.getElem?_eq_getElem h⟩
    have hxn : x < wv.length := hf x (List.mem_of_getElem? hx)
    obtain ⟨g1, hg1, hg1n, eg1⟩ := ow.get hxn
    obtain ⟨g2, hg2, hg2n, eg2⟩ := oc.get hxn
    obtain ⟨k', rfl⟩ : ∃ k', k = k' + 1 := ⟨k - 1, by omega⟩
    rw [bfs_step hx] at hb
    have enb : nbO wv ch x = [g1, g2] := by unfold nbO; rw [eg1, eg2]
    rw [enb] at hb
    walk_at "kw"
    refine ws_for (wi_tup ?_)
    walk_at "kw"
    refine ⟨_, .inl rfl, fun j st => ∃ y, st = ⟨[.d (socD A wv ch), .d (.int (p : Nat)), .c 0, .c 1, .d (.int (i : Nat)), y], [.lst (natD (addAll f ([g1, g2].take j))), .dK (truK (addAll f ([g1, g2].take j)))]⟩, ⟨y, rfl⟩, fun j d s2 hd hi => ?_, fun s2 hi => ?_⟩
    · obtain ⟨y, rfl⟩ := hi
      obtain ⟨g, hg, hgn, rfl⟩ : ∃ g, [g1, g2][j]? = some g ∧ g < wv.length ∧ d = .int (g : Nat) := by
        match j, hd with
        | 0, hd => exact ⟨g1, rfl, hg1n, (Option.some.inj hd).symm⟩
        | 1, hd => exact ⟨g2, rfl, hg2n, (Option.some.inj hd).symm⟩
        | j + 2, hd => simp at hd
      have hj2 : j < 2 := lt_of_get hg
      have e1 : addAll f ([g1, g2].take (j + 1)) = addN (addAll f ([g1, g2].take j)) g := by
        rw [List.take_add_one, hg, addAll_append]
        rfl
      have nd1 : (addAll f ([g1, g2].take j)).Nodup := addAll_nodup nd
      have hf1 : ∀ x ∈ addAll f ([g1, g2].take j), x < wv.length := fun x hx => by
        rcases addAll_mem.mp hx with hx | hx
        · exact hf x hx
        · have := List.mem_of_mem_take hx
          rcases List.mem_cons.mp this with rfl | this
          · exact hg1n
          · rw [List.mem_singleton.mp this]; exact hg2n
      have hl1 : (addAll f ([g1, g2].take j)).length ≤ wv.length := by
        have := len_le_of_sub nd1 (u := List.range wv.length) fun x hx => List.mem_range.mpr (hf1 x hx)
        rwa [List.length_range] at this
      generalize addAll f ([g1, g2].take j) = f1 at nd1 hf1 hl1 e1 ⊢
      walk_at "kw"
      rw [truK_look]
      refine ⟨fun h2 => ?_, fun h2 => ?_⟩
      · have h2 : g ∉ f1 := by simpa using h2
        refine ws_seq (ws_dput ?_)
        walk_at "kw"
        refine ⟨1, _, .inl (g : Int), _, rfl, rfl, rfl, rfl, by rw [truK_length]; omega, ?_⟩
        rw [truK_put h2]
        refine ws_drop (we_bm ?_)
        walk_at "kw"
        refine ⟨ty_lc (n := 0) rfl, ?_⟩
        walk_at "kw"
        refine rm_append (n := 0) rfl (by rw [natD_length]; omega) ?_
        refine ⟨.d (.int (g : Nat)), ?_⟩
        rw [e1]
        unfold addN
        rw [if_neg h2]
        unfold natD
        rw [List.map_append]
        rfl
      · have h2 : g ∈ f1 := by simpa using h2
        walk_at "kw"
        refine ⟨.d (.int (g : Nat)), ?_⟩
        rw [e1]
        unfold addN
        rw [if_pos h2]
        rfl
    · obtain ⟨y, rfl⟩ := hi
      have e2 : addAll f ([g1, g2].take [D.int (g1 : Nat), D.int (g2 : Nat)].length) = addAll f [g1, g2] := rfl
      rw [e2]
      walk_at "kw"
      refine ws_aug (x := .d (.int (i : Nat))) rfl (fun z => nomatch z) ?_
      walk_at "kw"
      have hif2 : i + 1 ≤ (addAll f [g1, g2]).length := by
        obtain ⟨t, ht⟩ := addAll_pre [g1, g2] f
        rw [ht, List.length_append]
        omega
      refine ⟨wv.length - (i + 1), by omega, addAll f [g1, g2], i + 1, k', _, rfl, hb, addAll_nodup nd, fun x hx => ?_, by omega, hif2, rfl⟩
      rcases addAll_mem.mp hx with hx | hx
      · exact hf x hx
      · rcases List.mem_cons.mp hx with rfl | hx
        · exact hg1n
        · rw [List.mem_singleton.mp hx]; exact hg2n
  · have h : f.length ≤ i := by have := of_decide_eq_false h; omega
    rw [bfs_end h] at hb
    subst hb
    refine ws_ret (we_frz ?_)
    walk_at "kw"
    exact ⟨0, _, _, rfl, rfl, rfl, hk _ _ rfl⟩
end
end K71


namespace K71
open PySem PySem.Spec PyProof.Rows L2 KW KP
def tupN (l : List Nat) : D := .tup (natD l)
def knownTo (w c : List Nat) (i : Nat) (x : Nat) : Prop := ∃ j < i, x ∈ reach w c j
theorem sorted_lot {w c : List Nat} {n p : Nat} (T : Two w c n) (hp : p < n) {ns : List Int} (pm : ns.Perm ((reach w c p).map fun (x : Nat) => (x : Int))) (hs : ns.Pairwise (· ≤ ·)) : ns.map D.int = natD (lot w c p) := by
  have h2 : ns = (lot w c p).map fun (x : Nat) => (x : Int) := by
    refine sorted_perm (pm.trans ?_) hs ?_
    · refine List.Perm.map _ ?_
      refine (List.perm_ext_iff_of_nodup reach_nodup ?_).mpr fun x => (mem_lot T hp).symm
      exact List.nodup_iff_pairwise_ne.mpr (lot_rising.imp fun h => Nat.ne_of_lt h)
    · rw [List.pairwise_map]
      exact lot_rising.imp fun h => by omega
  rw [h2, natD_int]
/-- the parts among the first i places -/
def partsTo (w c : List Nat) (i : Nat) : List (List Nat) := ((List.range i).filter (isRep w c)).map (lot w c)
theorem partsTo_succ (w c : List Nat) (i : Nat) : partsTo w c (i + 1) = if isRep w c i = true then partsTo w c i ++ [lot w c i] else partsTo w c i := by
  unfold partsTo
  rw [List.range_succ, List.filter_append, List.map_append]
  split
  · rename_i h
    rw [List.filter_cons_of_pos h]
    rfl
  · rename_i h
    rw [List.filter_cons_of_neg h]
    exact List.append_nil _
theorem putD_keys {l : List (Key × D)} {k : Key} {v : D} : ∀ x, (lkD (putD l k v) x).isSome = ((lkD l x).isSome || decide (k = x)) := fun x => by
  rw [lkD_putD]
  by_cases h : k = x
  · rw [if_pos h, decide_eq_true h, Bool.or_true]
    rfl
  · rw [if_neg h, decide_eq_false h, Bool.or_false]
theorem mergeD_keys : ∀ {more l : List (Key × D)} (x : Key), (lkD (mergeD l more) x).isSome = ((lkD l x).isSome || (lkD more x).isSome)
  | [], l, x => by
    show (lkD l x).isSome = _
    rw [lkD_nil]
    exact (Bool.or_false _).symm
  | kv :: more, l, x => by
    show (lkD (mergeD (putD l kv.1 kv.2) more) x).isSome = _
    rw [mergeD_keys x, putD_keys, lkD_cons]
    by_cases h : kv.1 = x
    · rw [if_pos h, decide_eq_true h, Bool.or_true, Bool.true_or]
      exact (Bool.or_true _).symm
    · rw [if_neg h, decide_eq_false h, Bool.or_false]
theorem putD_length_le {more l : List (Key × D)} : (mergeD l more).length ≤ l.length + more.length := by
  induction more generalizing l with
  | nil => exact Nat.le_refl _
  | cons kv more ih =>
    show (mergeD (putD l kv.1 kv.2) more).length ≤ _
    have := ih (l := putD l kv.1 kv.2)
    have h2 := putD_length l kv.1 kv.2
    rw [List.length_cons]
    omega
section
variable {P : Program} {w : World} {A : AD} {K : PySem.W.Frag} {mg : Str → Option Value} {base : Heap}
abbrev sp_parts_of (A : AD) (K : PySem.W.Frag) : Sp := spF (α := List Nat × List Nat) K (fun a ds => ds = [socD A a.1 a.2] ∧ Ord a.1 a.1.length ∧ Ord a.2 a.1.length ∧ a.1.length ≤ 400) (fun a r => r = .lst ((parts a.1 a.2).map tupN)) (fun _ _ _ => False)
theorem ok_parts_of (T : Txt P w A K mg) : FnOk P w K mg base (L2.CX P w) 2 A.f_parts_of A.fd_parts_of ["society"] (sp_parts_of A K) := by
  refine okF T.d_parts_of.F sc_parts_of (fun a ds ⟨h, _⟩ => by rw [h]; rfl) fun cdv Ar outer sh H E hr => ⟨_, (pss_cons (ps_expr (show PE _ _ (tCallS (sp_check_society A K) _ _) from (pe_callS (ok_check_society T) (hr.mono (by decide)) rfl T.d_check_society.m T.d_check_society.F.kp T.d_check_society.b (fun σ => passAt (takes_of rfl rfl rfl rfl) σ) (pa_cons (pv 0) pa_nil))))
      (pss_cons (ps_set (i := 1) sc_parts_of.nd rfl (Or.inl rfl) (pe_lst pa_nil))
      (pss_cons (ps_set (i := 2) sc_parts_of.nd rfl (Or.inl rfl) pe_dnewK)
      (pss_cons (ps_for (passes_of rfl) rfl (pi_range1 (by rfl) T.z_range (pa_cons (show PE _ _ (tFld K _ _) from (pe_fld (pv 0) (by rfl))) pa_nil)) (pg_name (i := 3) sc_parts_of.nd rfl (Or.inl rfl)) (pss_one (ps_if (pt_cmp (pc_dnotin (hu_of hr) (pv 3) (pv 2))) (pss_cons (ps_set (i := 4) sc_parts_of.nd rfl (Or.inl rfl) (pe_callB (id := "sorted") (show CallR _ (.builtin "sorted") (rSortedI K) from cr_sortedI) (by rfl) T.z_sorted (by decide +kernel) (pa_cons (show PE _ _ (tCallS (sp_reached_from A K) _ _) from (pe_callS (ok_reached_from T) (hr.mono (by decide)) rfl T.d_reached_from.m T.d_reached_from.F.kp T.d_reached_from.b (fun σ => passAt (takes_of rfl rfl rfl rfl) σ) (pa_cons (pv 0) (pa_cons (pv 3) pa_nil)))) pa_nil)))
      (pss_cons (ps_expr (show PE _ _ (tBM K "dict" rUpdate _ _) from (pe_bm PySem.F.plainAttrs_dict PySem.F.slot_dict_update PySem.F.type_dict_update mt_update (pv 2) (pa_cons (pe_dc (own := [("place", 5)]) (g := (gName 5)) rfl sc_parts_of.nd (show PI _ _ _ (iList K _) from (pi_list (pv 4))) (blkOk_by (own := [("place", 5)]) (N := N_parts_of) (sc := defScope s_parts_of) (by decide +kernel)) (fun _ _ _ _ _ => (pg_name (i := 5) sc_parts_of.nd rfl (by first | exact Or.inl rfl | exact Or.inr rfl))) (fun _ _ _ _ _ => pts_nil) (fun _ _ _ _ _ => (pv 5)) (fun _ _ _ _ _ => pe_bl)) pa_nil))))
      (pss_one (ps_expr (show PE _ _ (tBM K _ _ _ _) from (pe_bm PySem.F.plainAttrs_list PySem.F.slot_list_append PySem.F.type_list_append mt_append (pv 1) (pa_cons (show PE _ _ (tThen _ (kTup K)) from (pe_tupleOf rfl T.z_tuple (pv 4))) pa_nil))))))) pss_nil)))
      (pss_one (ps_ret (pv 1))))))), fun B F0 a0 a ds kk ex hx hp hk hex => ?_⟩
  obtain ⟨wv, ch⟩ := a
  obtain ⟨rfl, ow, oc, hn⟩ := hp
  have ow : Ord wv wv.length := ow
  have oc : Ord ch wv.length := oc
  have hn : wv.length ≤ 400 := hn
  have T2 := ow.two oc
  have sl : (200000 : Nat) ≤ sizeLine := by decide
  show WS _ _ ⟨[.d (socD A wv ch), .un, .un, .un, .un, .un], []⟩ _
  walk_at "kw"
  refine ⟨(wv, ch), rfl, fun d hd => ?_⟩
  subst hd
  walk_at "kw"
  refine we_lstc ?_
  walk_at "kw"
  refine we_dnewK ?_
  walk_at "kw"
  refine ws_for (wi_rng1 ?_)
  walk_at "kw"
  refine ⟨_, rfl, by omega, by omega, fun i st => ∃ (kn : List (Key × D)) (y z : AV), st = ⟨[.d (socD A wv ch), .c 0, .c 1, y, z, .un], [.lst ((partsTo wv ch i).map tupN), .dK kn]⟩ ∧ (∀ x : Nat, x < wv.length → ((lkD kn (.inl (x : Int))).isSome = true ↔ ∃ j, j < i ∧ x ∈ reach wv ch j)) ∧ kn.length ≤ 400 * i ∧ (∀ y', y = .c y' → False) ∧ (∀ y', z = .c y' → False), ⟨[], .un, .un, rfl, fun x _ => ⟨fun h => (by cases h), fun ⟨j, hj, _⟩ => absurd hj (Nat.not_lt_zero _)⟩, by decide, (fun _ z => nomatch z), (fun _ z => nomatch z)⟩, fun i d s2 hd hi => ?_, fun s2 hi => ?_⟩
  · obtain ⟨kn, y, z, rfl, hkn, hkl, hy, hz⟩ := hi
    obtain ⟨hin, rfl⟩ := rgD_get hd
    rw [Int.toNat_natCast] at hin
    rw [Int.zero_add]
    have hpl : (partsTo wv ch i).length ≤ i := by
      unfold partsTo
      rw [List.length_map]
      exact Nat.le_trans (List.length_filter_le _ _) (by rw [List.length_range]; exact Nat.le_refl _)
    walk_at "kw"
    have hnew : isRep wv ch i = true ↔ ¬ ((lkD kn (.inl (i : Int))).isSome = true) := by
      rw [hkn i hin, rep_iff_new T2 hin]
      exact ⟨fun h ⟨j, h1, h2⟩ => h j h1 h2, fun h j h1 h2 => h ⟨j, h1, h2⟩⟩
    refine ⟨fun h => ?_, fun h => ?_⟩
    · have h1 : isRep wv ch i = true := hnew.mpr (by simpa using h)
      walk_at "kw"
      refine ⟨⟨wv, ch, i⟩, ⟨rfl, ow, oc, hin, hn⟩, fun d hd => ?_⟩
      subst hd
      walk_at "kw"
      show RC _ (rSortedI K) [.d (.lst (natD (reach wv ch i)))] _ _
      rw [natD_int]
      refine rc_sortedI fun ns pm hs => ?_
      rw [sorted_lot T2 hin pm hs]
      walk_at "kw"
      refine we_bm ?_
      walk_at "kw"
      refine ⟨ty_dc (n := 1) rfl, ?_⟩
      walk_at "kw"
      have hll : (lot wv ch i).length ≤ 400 := Nat.le_trans (List.length_filter_le _ _) (by rw [List.length_range]; exact hn)
      refine we_dc (own_name (by decide)) (wi_list ?_)
      walk_at "kw"
      refine ⟨_, rfl, by rw [natD_length]; omega, ?_, fun j acc => acc.length ≤ j ∧ ∀ x : Nat, (lkD acc (.inl (x : Int))).isSome = true ↔ x ∈ (lot wv ch i).take j, ⟨by decide, fun x => ⟨fun h => (by cases h), fun h => (by cases h)⟩⟩, fun j d acc hd ha => ?_, fun acc ha => ?_⟩
      · intro c hc
        rcases List.mem_cons.mp hc with rfl | hc
        · trivial
        · rw [List.mem_singleton.mp hc]; trivial
      · rw [natD_get] at hd
        obtain ⟨g, hg, rfl⟩ := Option.map_eq_some_iff.mp hd
        walk_at "kw"
        refine ⟨.inl (g : Int), _, rfl, rfl, rfl, ?_, fun x => ?_⟩
        · exact Nat.le_trans (putD_length _ _ _) (by omega)
        · rw [putD_keys, List.take_add_one, hg, List.mem_append, Bool.or_eq_true, ha.2 x, decide_eq_true_eq]
          refine ⟨fun h => h.elim .inl fun e => .inr ?_, fun h => h.elim .inl fun e => .inr ?_⟩
          · rw [← Int.ofNat.inj (Sum.inl.inj e)]
            exact List.mem_cons_self
          · rw [List.mem_singleton.mp e]
      walk_at "kw"
      have e0 : (natD (lot wv ch i)).length = (lot wv ch i).length := natD_length _
      rw [e0, List.take_length] at ha
      refine rm_updateD (n := 1) rfl (by have := ha.1; omega) ?_
      walk_at "kw"
      refine we_bm ?_
      walk_at "kw"
      refine ⟨ty_lc (n := 0) rfl, ?_⟩
      walk_at "kw"
      refine we_thenTupD ?_
      walk_at "kw"
      refine ⟨_, _, rfl, .inl rfl, ?_⟩
      walk_at "kw"
      refine rm_append (n := 0) rfl (by rw [List.length_map]; omega) ?_
      refine ⟨mergeD kn acc, .d (.int (i : Nat)), .d (.lst (natD (lot wv ch i))), ?_, fun x hx => ?_, ?_, (fun _ z => nomatch z), (fun _ z => nomatch z)⟩
      · rw [partsTo_succ, if_pos h1, List.map_append]
        rfl
      · rw [mergeD_keys, Bool.or_eq_true, hkn x hx, ha.2 x, mem_lot T2 hin]
        constructor
        · rintro (⟨j, h1, h2⟩ | h2)
          · exact ⟨j, by omega, h2⟩
          · exact ⟨i, Nat.lt_succ_self _, h2⟩
        · rintro ⟨j, h1, h2⟩
          by_cases hj : j = i
          · subst hj
            exact .inr h2
          · exact .inl ⟨j, by omega, h2⟩
      · have h3 := putD_length_le (l := kn) (more := acc)
        have := ha.1
        omega
    · have h1 : (lkD kn (.inl (i : Int))).isSome = true := by simpa using h
      have h2 : ¬ isRep wv ch i = true := fun z => hnew.mp z h1
      walk_at "kw"
      refine ⟨kn, .d (.int (i : Nat)), z, ?_, fun x hx => ?_, by omega, (fun _ z => nomatch z), hz⟩
      · rw [partsTo_succ, if_neg h2]
        rfl
      · rw [hkn x hx]
        constructor
        · rintro ⟨j, h3, h4⟩
          exact ⟨j, by omega, h4⟩
        · rintro ⟨j, h3, h4⟩
          by_cases hj : j = i
          · subst hj
            obtain ⟨j2, h5, h6⟩ := (hkn j hin).mp h1
            exact ⟨j2, h5, (reach_mem_iff T2 (by omega) h6).mp h4⟩
          · exact ⟨j, by omega, h4⟩
  · obtain ⟨kn, y, z, rfl, hkn, hkl, hy, hz⟩ := hi
    rw [rgD_length, Int.toNat_natCast]
    refine ws_ret (we_frz ?_)
    walk_at "kw"
    exact ⟨0, _, _, rfl, rfl, rfl, hk _ _ rfl⟩
end
end K71


namespace K71
open PySem PySem.Spec PyProof.Rows L2 KW KP
/-- the numbered steps from a class on -/
def numS (w c : List Nat) (p : Nat) (v : List Nat) : List Nat := (reach w c p).map fun x => (reach w c p).idxOf (v.getD x 0)
def formD (w c : List Nat) (p : Nat) : D := .tup [tupN (numS w c p w), tupN (numS w c p c)]
theorem numK_take {l : List Nat} {i x : Nat} (nd : l.Nodup) (h : l[i]? = some x) : putD (numK 0 (l.take i)) (.inl (x : Int)) (.int (i : Nat)) = numK 0 (l.take (i + 1)) := by
  have hl := lt_of_get h
  have e : l.take (i + 1) = l.take i ++ [x] := by rw [List.take_add_one, h]; rfl
  have el : (l.take i).length = i := by rw [List.length_take]; omega
  rw [putD_new, e, numK_append, Nat.zero_add, el]
  · rfl
  · cases q : lkD (numK 0 (l.take i)) (.inl (x : Int)) with
    | none => rfl
    | some d =>
      exfalso
      unfold lkD at q
      obtain ⟨p, hp, _⟩ := Option.map_eq_some_iff.mp q
      have hm := List.mem_of_find?_eq_some hp
      have he : p.1 = .inl (x : Int) := of_decide_eq_true (List.find?_some (p := fun kv : Key × D => decide (kv.1 = .inl (x : Int))) hp)
      have hk : p.1 ∈ (numK 0 (l.take i)).map (·.1) := List.mem_map.mpr ⟨p, hm, rfl⟩
      rw [numK_keys, he] at hk
      obtain ⟨y, hy, e2⟩ := List.mem_map.mp hk
      have e3 : y = x := Int.ofNat.inj (Sum.inl.inj e2)
      subst e3
      obtain ⟨j, hj, e4⟩ := List.getElem_of_mem hy
      rw [el] at hj
      rw [List.getElem_take] at e4
      have := (List.getElem?_inj (i := j) (j := i) (by omega) nd).mp (by rw [h, List.getElem?_eq_getElem (by omega), e4])
      omega
theorem natD_map (l : List Nat) (f : Nat → Nat) (g : D → D) (h : ∀ x ∈ l, g (.int (x : Nat)) = .int (f x : Nat)) : (natD l).map g = natD (l.map f) := by
  unfold natD
  rw [List.map_map, List.map_map]
  exact List.map_congr_left fun x hx => h x hx
section
variable {P : Program} {w : World} {A : AD} {K : PySem.W.Frag} {mg : Str → Option Value} {base : Heap}
abbrev sp_is_whole (A : AD) (K : PySem.W.Frag) : Sp := spF (α := List Nat × List Nat) K (fun a ds => ds = [socD A a.1 a.2] ∧ Ord a.1 a.1.length ∧ Ord a.2 a.1.length ∧ a.1.length ≤ 400) (fun a r => r = .bl (decide ((parts a.1 a.2).length = 1))) (fun _ _ _ => False)
theorem ok_is_whole (T : Txt P w A K mg) : FnOk P w K mg base (L2.CX P w) 3 A.f_is_whole A.fd_is_whole ["society"] (sp_is_whole A K) := by
  refine okF T.d_is_whole.F sc_is_whole (fun a ds ⟨h, _⟩ => by rw [h]; rfl) fun cdv Ar outer sh H E hr => ⟨_, (pss_one (ps_ret (pe_cmpR op_eq (pe_callB (id := "len") (show CallR _ (.builtin "len") ((fun xs H Q => ∃ x n, xs = [x] ∧ LenV K x H n ∧ Q (.int n) H)) from call_len) (by rfl) T.z_len (by decide +kernel) (pa_cons (show PE _ _ (tCallS (sp_parts_of A K) _ _) from (pe_callS (ok_parts_of T) (hr.mono (by decide)) rfl T.d_parts_of.m T.d_parts_of.F.kp T.d_parts_of.b (fun σ => passAt (takes_of rfl rfl rfl rfl) σ) (pa_cons (pv 0) pa_nil))) pa_nil)) pe_int (nomark _)))), fun B F0 a0 a ds kk ex hx hp hk hex => ?_⟩
  obtain ⟨wv, ch⟩ := a
  obtain ⟨rfl, ow, oc, hn⟩ := hp
  walk_at "kw"
  refine ⟨(wv, ch), ⟨rfl, ow, oc, hn⟩, fun d hd => ?_⟩
  subst hd
  walk_at "kw"
  refine rc_lenLT (.inl rfl) ?_
  walk_at "kw"
  refine hk _ _ ?_
  rw [List.length_map]
  have : decide (((parts wv ch).length : Int) = 1) = decide ((parts wv ch).length = 1) := by
    by_cases h : (parts wv ch).length = 1
    · rw [decide_eq_true h, decide_eq_true (by omega)]
    · rw [decide_eq_false h, decide_eq_false (by omega)]
  show D.bl (decide (((parts wv ch).length : Int) = 1)) = _
  rw [this]
end
end K71


namespace K71
open PySem PySem.Spec PyProof.Rows L2 KW KP
-- ### plain
mutual
def plD : D → D
  | .tup l => .lst (.bl false :: plDs l)
  | .lst l => .lst (.bl true :: plDs l)
  | .int i => .lst [.bl false, .int i]
  | .str z => .lst [.bl true, .str z]
  | .bl c => .str (if c then "True" else "False")
  | _ => .str "None"
def plDs : List D → List D
  | [] => []
  | d :: l => plD d :: plDs l
end
theorem plDs_map : ∀ l : List D, plDs l = l.map plD
  | [] => rfl
  | d :: l => by
    rw [plDs, plDs_map l]
    rfl
/-- what the plain one takes, by its depth -/
inductive PlOk : Nat → D → Prop
  | non {n : Nat} : PlOk (n + 1) .non
  | int {n : Nat} (i : Int) : PlOk (n + 1) (.int i)
  | str {n : Nat} (z : Str) : PyData.strOk z = true → PlOk (n + 1) (.str z)
  | tup {n : Nat} {l : List D} : (∀ d ∈ l, PlOk n d) → l.length ≤ 100000 → PlOk (n + 1) (.tup l)
  | lst {n : Nat} {l : List D} : (∀ d ∈ l, PlOk n d) → l.length ≤ 100000 → PlOk (n + 1) (.lst l)
theorem PlOk.tys {n : Nat} {d : D} (h : PlOk n d) : ∃ t, tyS d = some t := by
  cases h <;> exact ⟨_, rfl⟩
theorem kits_seq2 {v : D} {t : String} (h : tyS v = some t) : kitsB t ["tuple", "list"] = some (itemsD v).isSome := by
  have e1 : kitsB "NoneType" ["tuple", "list"] = some false := by decide +kernel
  have e2 : kitsB "bool" ["tuple", "list"] = some false := by decide +kernel
  have e3 : kitsB "int" ["tuple", "list"] = some false := by decide +kernel
  have e4 : kitsB "str" ["tuple", "list"] = some false := by decide +kernel
  have e5 : kitsB "dict" ["tuple", "list"] = some false := by decide +kernel
  have e6 : kitsB "list" ["tuple", "list"] = some true := by decide +kernel
  have e7 : kitsB "tuple" ["tuple", "list"] = some true := by decide +kernel
  cases v <;> first | (cases h; first | exact e1 | exact e2 | exact e3 | exact e4 | exact e5 | exact e6 | exact e7) | cases h
def isLstD : D → Bool
  | .lst _ => true
  | _ => false
theorem kb_list {v : D} {t : String} (h : tyS v = some t) : kitB t "list" = some (isLstD v) := by
  have e1 : kitB "NoneType" "list" = some false := by decide +kernel
  have e2 : kitB "bool" "list" = some false := by decide +kernel
  have e3 : kitB "int" "list" = some false := by decide +kernel
  have e4 : kitB "str" "list" = some false := by decide +kernel
  have e5 : kitB "dict" "list" = some false := by decide +kernel
  have e6 : kitB "list" "list" = some true := by decide +kernel
  have e7 : kitB "tuple" "list" = some false := by decide +kernel
  cases v <;> first | (cases h; first | exact e1 | exact e2 | exact e3 | exact e4 | exact e5 | exact e6 | exact e7) | cases h
theorem kits_is {v : D} {t : String} (h : tyS v = some t) : kitsB t ["int", "str"] = some (match v with | .int _ => true | .bl _ => true | .str _ => true | _ => false) := by
  have e1 : kitsB "NoneType" ["int", "str"] = some false := by decide +kernel
  have e2 : kitsB "bool" ["int", "str"] = some true := by decide +kernel
  have e3 : kitsB "int" ["int", "str"] = some true := by decide +kernel
  have e4 : kitsB "str" ["int", "str"] = some true := by decide +kernel
  have e5 : kitsB "dict" ["int", "str"] = some false := by decide +kernel
  have e6 : kitsB "list" ["int", "str"] = some false := by decide +kernel
  have e7 : kitsB "tuple" ["int", "str"] = some false := by decide +kernel
  cases v <;> first | (cases h; first | exact e1 | exact e2 | exact e3 | exact e4 | exact e5 | exact e6 | exact e7) | cases h
theorem lay_pl : ∀ {n : Nat} {d : D}, PlOk n d → Lay n (plD d)
  | _, _, .non => .str (by decide +kernel)
  | _, _, .int i => .lst fun d hd => by
    rcases List.mem_cons.mp hd with rfl | hd
    · exact .bl _
    · rw [List.mem_singleton.mp hd]; exact .int _
  | _, _, .str z h => .lst fun d hd => by
    rcases List.mem_cons.mp hd with rfl | hd
    · exact .bl _
    · rw [List.mem_singleton.mp hd]; exact .str h
  | _, _, .tup h _ => .lst fun d hd => by
    rw [plDs_map] at hd
    rcases List.mem_cons.mp hd with rfl | hd
    · exact .bl _
    · obtain ⟨e, he, rfl⟩ := List.mem_map.mp hd
      exact lay_pl (h e he)
  | _, _, .lst h _ => .lst fun d hd => by
    rw [plDs_map] at hd
    rcases List.mem_cons.mp hd with rfl | hd
    · exact .bl _
    · obtain ⟨e, he, rfl⟩ := List.mem_map.mp hd
      exact lay_pl (h e he)
theorem pl_nat {n : Nat} {l : List Nat} (hl : l.length ≤ 100000) : PlOk (n + 2) (.tup (natD l)) := .tup (fun d hd => by
  obtain ⟨i, _, rfl⟩ := List.mem_map.mp hd
  exact .int _) (by rw [natD_length]; exact hl)
abbrev spPl (K : PySem.W.Frag) (n : Nat) : Sp := spF (α := D) K (fun a ds => ds = [a] ∧ PlOk n a) (fun a r => r = plD a) (fun _ _ _ => False)
abbrev sp__law_plain (A : AD) (K : PySem.W.Frag) : Sp := spPl K 10
section
variable {P : Program} {w : World} {A : AD} {K : PySem.W.Frag} {mg : Str → Option Value} {base : Heap}
theorem ok_pl (T : Txt P w A K mg) : ∀ n, FnOk P w K mg base (L2.CX P w) n A.f__law_plain A.fd__law_plain ["value"] (spPl K n) := by
  intro n
  induction n with
  | zero =>
    have no : ∀ vs H Q E, ¬ spPl K 0 vs H Q E := fun vs H Q E h => by
      obtain ⟨_, _, _, _, _, _, _, _, a, ds, _, ⟨_, hp⟩, _⟩ := h
      cases hp
    exact ⟨fun vs H Q E h => absurd h (no _ _ _ _), fun _ _ _ _ _ _ _ _ _ _ _ _ _ h => absurd h (no _ _ _ _)⟩
  | succ n F1 =>
    refine okF T.d__law_plain.F sc__law_plain (fun a ds ⟨h, _⟩ => by rw [h]; rfl) fun cdv Ar outer sh H E hr => ⟨_, (pss_cons (ps_if (pt_val (pe_callB (id := "isinstance") (show CallR _ (.builtin "isinstance") (rIsiT K) from call_isiT) (by rfl) T.z_isinstance (by decide +kernel) (pa_cons (pv 0) (pa_cons (pe_tup (pa_cons (pe_bltn (v := .ty "tuple") (u := .type "tuple") rfl T.z_tuple (by decide +kernel) rfl) (pa_cons (pe_bltn (v := .ty "list") (u := .type "list") rfl T.z_list (by decide +kernel) rfl) pa_nil))) pa_nil)))) (pss_one (ps_ret (pe_op op_cat (pe_lst (pa_cons (pe_callB (id := "isinstance") (show CallR _ (.builtin "isinstance") (rIsi K) from call_isi) (by rfl) T.z_isinstance (by decide +kernel) (pa_cons (pv 0) (pa_cons (pe_bltn (v := .ty "list") (u := .type "list") rfl T.z_list (by decide +kernel) rfl) pa_nil))) pa_nil)) (pe_lc (own := [("item", 1)]) (g := (gName 1)) (by rfl) sc__law_plain.nd (pi_or (show PI _ _ _ (iList K _) from pi_list (pv 0)) (show PI _ _ _ (iTup K _) from pi_tup (pv 0))) (blkOk_by (own := [("item", 1)]) (N := N__law_plain) (sc := defScope s__law_plain) (by decide +kernel)) (fun _ _ _ _ _ => (pg_name (i := 1) sc__law_plain.nd rfl (by first | exact Or.inl rfl | exact Or.inr rfl))) (fun _ _ _ _ _ => pts_nil) (fun _ _ _ _ _ => (show PE _ _ (tCall (spPl K n) [] E0 _) from (pe_call F1 (hr.mono (by omega)) rfl T.d__law_plain.m T.d__law_plain.F.kp T.d__law_plain.b .nil passL (pa_cons (pv 1) pa_nil)))))))) pss_nil)
      (pss_cons (ps_if (PW.pt (pw_or (pt_cmpR op_isN (pv 0) pe_non (nomark _)) (pw_or1 (pt_val (pe_callB (id := "isinstance") (show CallR _ (.builtin "isinstance") (rIsi K) from call_isi) (by rfl) T.z_isinstance (by decide +kernel) (pa_cons (pv 0) (pa_cons (pe_bltn (v := .ty "bool") (u := .type "bool") rfl T.z_bool (by decide +kernel) rfl) pa_nil))))))) (pss_one (ps_ret (pe_ix (show IxR _ (rIxL K) from ix_list) (pe_lst (pa_cons pe_str (pa_cons pe_str (pa_cons pe_str pa_nil)))) (pe_op op_add (pe_callTy call_int1 (by rfl) T.z_int (by decide +kernel) (pa_cons (pe_cmpR op_notN (pv 0) pe_non (nomark _)) pa_nil)) (pe_callTy call_int1 (by rfl) T.z_int (by decide +kernel) (pa_cons (pe_cmpR op_isTF (pv 0) pe_bl (nomark _)) pa_nil))) (fun _ _ => rfl)))) pss_nil)
      (pss_cons (ps_if (pt_val (pe_callB (id := "isinstance") (show CallR _ (.builtin "isinstance") (rIsiT K) from call_isiT) (by rfl) T.z_isinstance (by decide +kernel) (pa_cons (pv 0) (pa_cons (pe_tup (pa_cons (pe_bltn (v := .ty "int") (u := .type "int") rfl T.z_int (by decide +kernel) rfl) (pa_cons (pe_bltn (v := .ty "str") (u := .type "str") rfl T.z_str (by decide +kernel) rfl) pa_nil))) pa_nil)))) (pss_one (ps_ret (pe_lst (pa_cons (pe_callB (id := "isinstance") (show CallR _ (.builtin "isinstance") (rIsi K) from call_isi) (by rfl) T.z_isinstance (by decide +kernel) (pa_cons (pv 0) (pa_cons (pe_bltn (v := .ty "str") (u := .type "str") rfl T.z_str (by decide +kernel) rfl) pa_nil))) (pa_cons (pv 0) pa_nil))))) pss_nil)
      (pss_one (ps_ret pe_str))))), fun B F0 a0 a ds kk ex hx hp hk hex => ?_⟩
    obtain ⟨rfl, hp⟩ := hp
    obtain ⟨ty, hty⟩ := hp.tys
    have sl : (100001 : Nat) ≤ sizeLine := by decide
    show WS _ _ ⟨[.d a, .un], []⟩ _
    walk_at "kw"
    refine rc_isiT (ns := ["tuple", "list"]) hty (kits_seq2 hty) ?_
    refine ⟨_, rfl, fun h => ?_, fun h => ?_⟩
    · -- a sequence
      obtain ⟨l, c, hv, hl, hll, hc, hpl⟩ : ∃ (l : List D) (c : Bool), (a = .lst l ∨ a = .tup l) ∧ (∀ d ∈ l, PlOk n d) ∧ l.length ≤ 100000 ∧ isLstD a = c ∧ plD a = .lst (.bl c :: plDs l) := by
        cases hp with
        | non => cases h
        | int => cases h
        | str => cases h
        | tup h1 h2 => exact ⟨_, false, .inr rfl, h1, h2, rfl, rfl⟩
        | lst h1 h2 => exact ⟨_, true, .inl rfl, h1, h2, rfl, rfl⟩
      walk_at "kw"
      refine we_lstd ?_
      walk_at "kw"
      refine rc_isi hty (kb_list hty) ?_
      rw [hc]
      walk_at "kw"
      refine we_lcmap (own_name (by decide)) (wi_LTv rfl hv ⟨by omega, (fun c hc => nomatch hc), plD, fun i d acc hd => ?_, ?_⟩)
      · have hd1 := hl d (List.mem_of_getElem? hd)
        walk_at "kw"
        refine ⟨d, ⟨rfl, hd1⟩, fun d' hd' => ?_⟩
        exact ⟨congrArg AV.d hd', rfl⟩
      refine ro_cat (by rw [List.length_map]; show 1 + l.length ≤ sizeLine; omega) ?_
      refine hk _ _ ?_
      rw [hpl, plDs_map]
      rfl
    · walk_at "kw"
      refine ro_isN ?_
      walk_at "kw"
      cases hp with
      | tup => cases h
      | lst => cases h
      | non =>
        refine ⟨fun z => (by cases z), fun _ => ?_⟩
        walk_at "kw"
        refine we_lstd ?_
        walk_at "kw"
        refine ro_notN ?_
        walk_at "kw"
        refine rc_int (i := 0) (.inr ⟨_, rfl, rfl⟩) ?_
        walk_at "kw"
        refine ro_isTF0 ?_
        walk_at "kw"
        refine rc_int (i := 0) (.inr ⟨_, rfl, rfl⟩) ?_
        walk_at "kw"
        refine ro_ixL (d := .str "None") rfl ?_
        exact hk _ _ rfl
      | int i =>
        refine ⟨fun _ => ?_, fun z => (by cases z)⟩
        walk_at "kw"
        refine rc_isi (d := .int i) rfl (kb_bool (d := .int i) rfl) ?_
        walk_at "kw"
        refine cFF ?_
        walk_at "kw"
        refine rc_isiT (d := .int i) (ns := ["int", "str"]) rfl (kits_is (v := .int i) rfl) ?_
        walk_at "kw"
        refine we_lstd ?_
        walk_at "kw"
        refine rc_isi (d := .int i) rfl (kb_str (d := .int i) rfl) ?_
        walk_at "kw"
        exact hk _ _ rfl
      | str z hz =>
        refine ⟨fun _ => ?_, fun z => (by cases z)⟩
        walk_at "kw"
        refine rc_isi (d := .str z) rfl (kb_bool (d := .str z) rfl) ?_
        walk_at "kw"
        refine cFF ?_
        walk_at "kw"
        refine rc_isiT (d := .str z) (ns := ["int", "str"]) rfl (kits_is (v := .str z) rfl) ?_
        walk_at "kw"
        refine we_lstd ?_
        walk_at "kw"
        refine rc_isi (d := .str z) rfl (kb_str (d := .str z) rfl) ?_
        walk_at "kw"
        exact hk _ _ rfl
theorem ok__law_plain (T : Txt P w A K mg) : FnOk P w K mg base (L2.CX P w) 10 A.f__law_plain A.fd__law_plain ["value"] (sp__law_plain A K) := ok_pl T 10
end
end K71


namespace K71
open PySem PySem.Spec PyProof.Rows L2 KW KP
-- ### the law's lots
theorem updL_len2 {ns : List Nat} {x g : Nat} : (updL ns x g).length = ns.length := updL_length
theorem visit_len {w c ns : List Nat} {x : Nat} : (visit w c ns x).length = ns.length := by
  unfold visit
  rw [updL_length, updL_length]
theorem visits_len {w c : List Nat} : ∀ {l ns : List Nat}, (l.foldl (visit w c) ns).length = ns.length
  | [], _ => rfl
  | x :: l, ns => by
    show (l.foldl (visit w c) (visit w c ns x)).length = _
    rw [visits_len, visit_len]
theorem rounds_len {w c ns : List Nat} : ∀ t, (rounds w c t ns).length = ns.length
  | 0 => rfl
  | t + 1 => by
    show (roundL w c (rounds w c t ns)).length = _
    unfold roundL
    rw [visits_len, rounds_len t]
theorem getD_get {l : List Nat} {i : Nat} (h : i < l.length) : l[i]? = some (l.getD i 0) := by
  rw [List.getD_eq_getElem?_getD, List.getElem?_eq_getElem h]
  rfl
theorem min_if (a b : Nat) : (if (b : Int) < (a : Int) then (b : Int) else (a : Int)) = ((min a b : Nat) : Int) := by
  split
  · rename_i h
    rw [Nat.min_eq_right (by omega)]
  · rename_i h
    rw [Nat.min_eq_left (by omega)]
section
variable {P : Program} {w : World} {A : AD} {K : PySem.W.Frag} {mg : Str → Option Value} {base : Heap}
abbrev pairP (w c : List Nat) : D := .tup [tupN w, tupN c]
abbrev sp__law_lots (A : AD) (K : PySem.W.Frag) : Sp := spF (α := List Nat × List Nat) K (fun a ds => ds = [pairP a.1 a.2] ∧ Ord a.1 a.1.length ∧ Ord a.2 a.1.length ∧ a.1.length ≤ 60) (fun a r => r = .lst ((parts a.1 a.2).map tupN)) (fun _ _ _ => False)
theorem ok__law_lots (T : Txt P w A K mg) : FnOk P w K mg base (L2.CX P w) 1 A.f__law_lots A.fd__law_lots ["pair"] (sp__law_lots A K) := by
  refine okF T.d__law_lots.F sc__law_lots (fun a ds ⟨h, _⟩ => by rw [h]; rfl) fun cdv Ar outer sh H E hr => ⟨_, (pss_cons (ps_set (i := 1) sc__law_lots.nd rfl (Or.inl rfl) (pe_callB (id := "len") (show CallR _ (.builtin "len") ((fun xs H Q => ∃ x n, xs = [x] ∧ LenV K x H n ∧ Q (.int n) H)) from call_len) (by rfl) T.z_len (by decide +kernel) (pa_cons (pe_ix (show IxR _ (rIxT K) from ix_tup) (pv 0) pe_int (fun _ _ => rfl)) pa_nil)))
      (pss_cons (ps_set (i := 2) sc__law_lots.nd rfl (Or.inr rfl) (pe_listRg rfl rfl T.z_list (prg_1 rfl T.z_range (pv 1))))
      (pss_cons (ps_for (passes_of rfl) rfl (pi_range1 (by rfl) T.z_range (pa_cons (pv 1) pa_nil)) (pg_name (i := 3) sc__law_lots.nd rfl (Or.inl rfl)) (pss_one (ps_for (passes_of rfl) rfl (pi_range1 (by rfl) T.z_range (pa_cons (pv 1) pa_nil)) (pg_name (i := 4) sc__law_lots.nd rfl (Or.inl rfl)) (pss_one (ps_for (passes_of rfl) rfl (show PI _ _ _ (iTup K _) from (pi_tup (pe_tup (pa_cons (pe_ix (show IxR _ (rIxT K) from ix_tup) (pe_ix (show IxR _ (rIxT K) from ix_tup) (pv 0) pe_int (fun _ _ => rfl)) (pv 4) (fun _ _ => rfl)) (pa_cons (pe_ix (show IxR _ (rIxT K) from ix_tup) (pe_ix (show IxR _ (rIxT K) from ix_tup) (pv 0) pe_int (fun _ _ => rfl)) (pv 4) (fun _ _ => rfl)) pa_nil))))) (pg_name (i := 5) sc__law_lots.nd rfl (Or.inl rfl)) (pss_cons (ps_set (i := 6) sc__law_lots.nd rfl (Or.inl rfl) (pe_callB (id := "min") (call_min2 rfl) (by rfl) T.z_min (by decide +kernel) (pa_cons (pe_ix (show IxR _ (rIxL K) from ix_list) (pv 2) (pv 4) (fun _ _ => rfl)) (pa_cons (pe_ix (show IxR _ (rIxL K) from ix_list) (pv 2) (pv 5) (fun _ _ => rfl)) pa_nil))))
      (pss_cons (ps_asg (pv 6) (pg_sub (pv 2) (pv 4) set_list))
      (pss_one (ps_asg (pv 6) (pg_sub (pv 2) (pv 5) set_list))))))))))
      (pss_cons (ps_set (i := 7) sc__law_lots.nd rfl (Or.inl rfl) (pe_lst pa_nil))
      (pss_cons (ps_for (passes_of rfl) rfl (show PI _ _ _ (iList K _) from (pi_list (pe_sortSet (pe_callB (id := "sorted") (cr_sortedSet rfl) (by rfl) T.z_sorted (by decide +kernel) (pa_cons (pe_callTy (cr_setI rfl) (by rfl) T.z_set (by decide +kernel) (pa_cons (pv 2) pa_nil)) pa_nil)) (by intro σ H Q Q2 hq hz; exact ta_mono1 hq hz)))) (pg_name (i := 8) sc__law_lots.nd rfl (Or.inr rfl)) (pss_one (ps_expr (show PE _ _ (tBM K _ _ _ _) from (pe_bm PySem.F.plainAttrs_list PySem.F.slot_list_append PySem.F.type_list_append mt_append (pv 7) (pa_cons (show PE _ _ (tThen _ (kTup K)) from (pe_tupleOf rfl T.z_tuple (pe_lc (own := [("place", 4)]) (g := (gName 4)) (by rfl) sc__law_lots.nd (pi_range1 (by rfl) T.z_range (pa_cons (pv 1) pa_nil)) (blkOk_by (own := [("place", 4)]) (N := N__law_lots) (sc := defScope s__law_lots) (by decide +kernel)) (fun _ _ _ _ _ => (pg_name (i := 4) sc__law_lots.nd rfl (by first | exact Or.inl rfl | exact Or.inr rfl))) (fun _ _ _ _ _ => (pts_one (pt_cmpR op_eq (pe_ix (show IxR _ (rIxL K) from ix_list) (pv 2) (pv 4) (fun _ _ => rfl)) (pv 8) (nomark _)))) (fun _ _ _ _ _ => (pv 4))))) pa_nil))))))
      (pss_one (ps_ret (pv 7)))))))), fun B F0 a0 a ds kk ex hx hp hk hex => ?_⟩
  obtain ⟨wv, ch⟩ := a
  obtain ⟨rfl, ow, oc, hn⟩ := hp
  have ow : Ord wv wv.length := ow
  have oc : Ord ch wv.length := oc
  have hn : wv.length ≤ 60 := hn
  have T2 := ow.two oc
  have sl : (1000 : Nat) ≤ sizeLine := by decide
  show WS _ _ ⟨[.d (.tup [.tup (natD wv), .tup (natD ch)]), .un, .un, .un, .un, .un, .un, .un, .un], []⟩ _
  walk_at "kw"
  refine rc_lenLT (.inr rfl) ?_
  rw [natD_length]
  walk_at "kw"
  refine we_lstRg1c ?_
  walk_at "kw"
  refine ⟨wv.length, rfl, by omega, ?_⟩
  show WG _ _ _ (S.new _ (.lst (natD (List.range wv.length)))) _
  walk_at "kw"
  refine ws_for (wi_rng1 ?_)
  walk_at "kw"
  refine ⟨_, rfl, by omega, by omega, fun t st => ∃ y3 y4 y5 y6, st = ⟨[.d (.tup [.tup (natD wv), .tup (natD ch)]), .d (.int (wv.length : Nat)), .c 0, y3, y4, y5, y6, .un, .un], [.lst (natD (rounds wv ch t (List.range wv.length)))]⟩, ⟨_, _, _, _, rfl⟩, fun t d s2 hd hi => ?_, fun s2 hi => ?_⟩
  · obtain ⟨y3, y4, y5, y6, rfl⟩ := hi
    obtain ⟨htn, rfl⟩ := rgD_get hd
    have hlen : (rounds wv ch t (List.range wv.length)).length = wv.length := by rw [rounds_len, List.length_range]
    have er : rounds wv ch (t + 1) (List.range wv.length) = roundL wv ch (rounds wv ch t (List.range wv.length)) := rfl
    generalize rounds wv ch t (List.range wv.length) = ns0 at hlen er ⊢
    walk_at "kw"
    refine ws_for (wi_rng1 ?_)
    walk_at "kw"
    refine ⟨_, rfl, by omega, by omega, fun i st => ∃ y4 y5 y6, st = ⟨[.d (.tup [.tup (natD wv), .tup (natD ch)]), .d (.int (wv.length : Nat)), .c 0, .d (.int (0 + (t : Nat))), y4, y5, y6, .un, .un], [.lst (natD ((List.range i).foldl (visit wv ch) ns0))]⟩, ⟨y4, y5, y6, rfl⟩, fun i d s2 hd hi => ?_, fun s2 hi => ?_⟩
    · obtain ⟨y4, y5, y6, rfl⟩ := hi
      obtain ⟨hin, rfl⟩ := rgD_get hd
      rw [Int.toNat_natCast] at hin
      rw [Int.zero_add]
      have hlen1 : ((List.range i).foldl (visit wv ch) ns0).length = wv.length := by rw [visits_len, hlen]
      have er1 : (List.range (i + 1)).foldl (visit wv ch) ns0 = visit wv ch ((List.range i).foldl (visit wv ch) ns0) i := by
        rw [List.range_succ, List.foldl_append]
        rfl
      generalize (List.range i).foldl (visit wv ch) ns0 = ns1 at hlen1 er1 ⊢
      obtain ⟨g1, hg1, hg1n, eg1⟩ := ow.get hin
      obtain ⟨g2, hg2, hg2n, eg2⟩ := oc.get hin
      have er2 : visit wv ch ns1 i = [g1, g2].foldl (fun ns g => updL ns i g) ns1 := by
        unfold visit
        rw [eg1, eg2]
        rfl
      walk_at "kw"
      refine ws_for (wi_tup ?_)
      walk_at "kw"
      refine ⟨_, .inl rfl, fun j st => ∃ y5 y6, st = ⟨[.d (.tup [.tup (natD wv), .tup (natD ch)]), .d (.int (wv.length : Nat)), .c 0, .d (.int (0 + (t : Nat))), .d (.int (i : Nat)), y5, y6, .un, .un], [.lst (natD (([g1, g2].take j).foldl (fun ns g => updL ns i g) ns1))]⟩, ⟨y5, y6, rfl⟩, fun j d s2 hd hi => ?_, fun s2 hi => ?_⟩
      · obtain ⟨y5, y6, rfl⟩ := hi
        obtain ⟨g, hg, hgn, rfl⟩ : ∃ g, [g1, g2][j]? = some g ∧ g < wv.length ∧ d = .int (g : Nat) := by
          match j, hd with
          | 0, hd => exact ⟨g1, rfl, hg1n, (Option.some.inj hd).symm⟩
          | 1, hd => exact ⟨g2, rfl, hg2n, (Option.some.inj hd).symm⟩
          | j + 2, hd => simp at hd
        have hlen2 : (([g1, g2].take j).foldl (fun ns g => updL ns i g) ns1).length = wv.length := by
          have : ∀ (l ns : List Nat), (l.foldl (fun ns g => updL ns i g) ns).length = ns.length := by
            intro l
            induction l with
            | nil => exact fun _ => rfl
            | cons x l ih => exact fun ns => (ih _).trans updL_length
          rw [this, hlen1]
        have er3 : ([g1, g2].take (j + 1)).foldl (fun ns g => updL ns i g) ns1 = updL (([g1, g2].take j).foldl (fun ns g => updL ns i g) ns1) i g := by
          rw [List.take_add_one, hg, List.foldl_append]
          rfl
        generalize ([g1, g2].take j).foldl (fun ns g => updL ns i g) ns1 = ns2 at hlen2 er3 ⊢
        have hi1 := getD_get (l := ns2) (i := i) (by omega)
        have hg1' := getD_get (l := ns2) (i := g) (by omega)
        walk_at "kw"
        refine rc_min2 ?_
        rw [min_if]
        walk_at "kw"
        refine wg_setL ?_
        walk_at "kw"
        refine ⟨0, _, _, i, _, rfl, rfl, rfl, rfl, ixN_natN (by rw [natD_length]; omega), ?_⟩
        rw [natD_set]
        walk_at "kw"
        refine wg_setL ?_
        walk_at "kw"
        refine ⟨0, _, _, g, _, rfl, rfl, rfl, rfl, ixN_natN (by rw [natD_length, List.length_set]; omega), ?_⟩
        rw [natD_set]
        refine ⟨.d (.int (g : Nat)), .d (.int (min (ns2.getD i 0) (ns2.getD g 0) : Nat)), ?_⟩
        rw [er3]
        rfl
      · obtain ⟨y5, y6, rfl⟩ := hi
        refine ⟨.d (.int (i : Nat)), y5, y6, ?_⟩
        rw [er1, er2]
        rfl
    · obtain ⟨y4, y5, y6, rfl⟩ := hi
      refine ⟨.d (.int (0 + (t : Nat))), y4, y5, y6, ?_⟩
      rw [er, rgD_length, Int.toNat_natCast]
      rfl
  · obtain ⟨y3, y4, y5, y6, rfl⟩ := hi
    rw [rgD_length, Int.toNat_natCast]
    have en : rounds wv ch wv.length (List.range wv.length) = names wv ch := rfl
    rw [en]
    have hnl := (names_ok T2).1
    have hrep : ((List.range wv.length).filter (isRep wv ch)).length ≤ wv.length := Nat.le_trans (List.length_filter_le _ _) (by rw [List.length_range]; exact Nat.le_refl _)
    walk_at "kw"
    refine we_lstc ?_
    walk_at "kw"
    refine ws_for (wi_list ?_)
    refine we_sortSet ?_
    walk_at "kw"
    refine ⟨(names wv ch).map fun (i : Nat) => (i : Int), .inr ⟨0, rfl, ?_⟩, by rw [List.length_map]; omega, fun ms hms hmem => ?_⟩
    · show some (CO.lst (natD (names wv ch))) = _
      rw [natD_int]
    -- the names that are left
    obtain ⟨l, rfl, hl⟩ : ∃ l : List Nat, ms = l.map (fun (i : Nat) => (i : Int)) ∧ ∀ x, x ∈ l ↔ x ∈ names wv ch := by
      refine ⟨ms.map Int.toNat, ?_, fun x => ?_⟩
      · rw [List.map_map]
        refine (List.map_id _).symm.trans (List.map_congr_left fun z hz => ?_)
        obtain ⟨i, _, rfl⟩ := List.mem_map.mp ((hmem z).mp hz)
        rfl
      · rw [List.mem_map]
        constructor
        · rintro ⟨z, hz, rfl⟩
          obtain ⟨i, hi, rfl⟩ := List.mem_map.mp ((hmem z).mp hz)
          exact hi
        · intro hx
          exact ⟨(x : Int), (hmem _).mpr (List.mem_map.mpr ⟨x, hx, rfl⟩), rfl⟩
    have el : l = (List.range wv.length).filter (isRep wv ch) := by
      refine names_set T2 ?_ hl
      rw [List.pairwise_map] at hms
      exact hms.imp fun h => by omega
    have epar : parts wv ch = l.map (lot wv ch) := by unfold parts; rw [el]
    rw [← natD_int]
    refine ⟨_, rfl, fun i st => ∃ y8, st = ⟨[.d (.tup [.tup (natD wv), .tup (natD ch)]), .d (.int (wv.length : Nat)), .c 0, y3, y4, y5, y6, .c 1, y8], [.lst (natD (names wv ch)), .lst (((l.take i).map (lot wv ch)).map tupN)]⟩, ⟨.un, rfl⟩, fun i d s2 hd hi => ?_, fun s2 hi => ?_⟩
    · obtain ⟨y8, rfl⟩ := hi
      rw [natD_get] at hd
      obtain ⟨x, hx, rfl⟩ := Option.map_eq_some_iff.mp hd
      have hxm := List.mem_of_getElem? hx
      rw [el] at hxm
      obtain ⟨hxn, hxr⟩ := List.mem_filter.mp hxm
      have hxn : x < wv.length := List.mem_range.mp hxn
      have hi1 : i < l.length := lt_of_get hx
      have hll : l.length ≤ wv.length := by rw [el]; exact hrep
      walk_at "kw"
      refine we_bm ?_
      walk_at "kw"
      refine ⟨ty_lc (n := 1) rfl, ?_⟩
      walk_at "kw"
      refine we_thenTupD ?_
      refine we_lcfil (own_name (by decide)) (wi_rng1 ?_)
      walk_at "kw"
      refine ⟨_, rfl, by omega, by omega, by rw [rgD_length, Int.toNat_natCast]; omega, ?_, fun d => decide ((names wv ch).getD (intD d).toNat 0 = x), id, fun j d acc hd => ?_, ?_⟩
      · intro c hc
        rcases List.mem_cons.mp hc with rfl | hc
        · trivial
        · rw [List.mem_singleton.mp hc]; trivial
      · obtain ⟨hjn, rfl⟩ := rgD_get hd
        rw [Int.toNat_natCast] at hjn
        rw [Int.zero_add]
        have hj1 := getD_get (l := names wv ch) (i := j) (by omega)
        walk_at "kw"
        refine ⟨?_, rfl, fun _ => ?_⟩
        · show decide ((((names wv ch).getD j 0 : Nat) : Int) = (x : Int)) = decide ((names wv ch).getD j 0 = x)
          by_cases h : (names wv ch).getD j 0 = x
          · rw [decide_eq_true h, decide_eq_true (by omega)]
          · rw [decide_eq_false h, decide_eq_false (by omega)]
        · walk_at "kw"
          exact ⟨rfl, rfl⟩
      walk_at "kw"
      have elot : ((rgD 0 (wv.length : Int).toNat).filter fun d => decide ((names wv ch).getD (intD d).toNat 0 = x)).map id = natD (lot wv ch x) := by
        rw [List.map_id, Int.toNat_natCast, ← names_lot T2 hxn hxr]
        unfold rgD natD
        rw [List.filter_map]
        have : ((fun d => decide ((names wv ch).getD (intD d).toNat 0 = x)) ∘ fun (i : Nat) => D.int (0 + (i : Int))) = fun (i : Nat) => decide ((names wv ch).getD i 0 = x) := by
          funext i
          show decide ((names wv ch).getD ((0 + (i : Int)).toNat) 0 = x) = _
          rw [Int.zero_add, Int.toNat_natCast]
        rw [this]
        exact List.map_congr_left fun i _ => by rw [Int.zero_add]
      rw [elot]
      refine ⟨_, _, rfl, .inl rfl, ?_⟩
      walk_at "kw"
      refine rm_append (n := 1) rfl ?_ ?_
      · rw [List.length_map, List.length_map, List.length_take]
        omega
      · refine ⟨.d (.int (x : Nat)), ?_⟩
        rw [List.take_add_one, hx, List.map_append, List.map_append]
        rfl
    · obtain ⟨y8, rfl⟩ := hi
      rw [natD_length, List.take_length, ← epar]
      refine ws_ret (we_frz ?_)
      walk_at "kw"
      exact ⟨1, _, _, rfl, rfl, rfl, hk _ _ rfl⟩
end
end K71


namespace K71
open PySem PySem.Spec PyProof.Rows L2 KW KP
-- ### orders as keys, sorted
def keyN (o : List Nat) : List Key := o.map fun (i : Nat) => (Sum.inl (i : Int) : Key)
theorem keyN_inj {a b : List Nat} (h : keyN a = keyN b) : a = b := by
  induction a generalizing b with
  | nil =>
    cases b with
    | nil => rfl
    | cons => cases h
  | cons x a ih =>
    cases b with
    | nil => cases h
    | cons y b =>
      have h1 := (List.cons.inj h).1
      have h2 := (List.cons.inj h).2
      rw [Int.ofNat.inj (Sum.inl.inj h1), ih h2]
theorem keyN_D (o : List Nat) : (keyN o).map keyD = natD o := by
  unfold keyN natD
  rw [List.map_map]
  rfl
def truT (f : List (List Nat)) : List (List Key × D) := f.map fun o => (keyN o, .bl true)
theorem truT_length (f : List (List Nat)) : (truT f).length = f.length := List.length_map ..
theorem truT_look (f : List (List Nat)) (o : List Nat) : (lkD (truT f) (keyN o)).isSome = decide (o ∈ f) := by
  unfold truT
  induction f with
  | nil => rfl
  | cons y f ih =>
    rw [List.map_cons, lkD_cons]
    by_cases e : y = o
    · subst e
      rw [if_pos rfl, decide_eq_true List.mem_cons_self]
      rfl
    · have e1 : ¬ keyN y = keyN o := fun z => e (keyN_inj z)
      rw [if_neg e1, ih]
      have : o ∈ y :: f ↔ o ∈ f := ⟨fun z => (List.mem_cons.mp z).elim (fun q => absurd q.symm e) id, List.mem_cons_of_mem _⟩
      simp only [this]
theorem truT_put {f : List (List Nat)} {o : List Nat} (h : o ∉ f) : putD (truT f) (keyN o) (.bl true) = truT (f ++ [o]) := by
  rw [putD_new]
  · unfold truT
    rw [List.map_append]
    rfl
  · have := truT_look f o
    rw [decide_eq_false h] at this
    cases q : lkD (truT f) (keyN o) with
    | none => rfl
    | some d => rw [q] at this; cases this
theorem truT_old {f : List (List Nat)} {o : List Nat} (h : o ∈ f) : putD (truT f) (keyN o) (.bl true) = truT f := by
  have hs : ((truT f).any fun kv => decide (kv.1 = keyN o)) = true := by
    rw [List.any_eq_true]
    exact ⟨(keyN o, .bl true), List.mem_map.mpr ⟨o, h, rfl⟩, decide_eq_true rfl⟩
  unfold putD
  rw [if_pos hs]
  unfold truT
  rw [List.map_map]
  refine List.map_congr_left fun x _ => ?_
  show (if keyN x = keyN o then (keyN x, D.bl true) else (keyN x, .bl true)) = _
  split <;> rfl
theorem keysD_truT (f : List (List Nat)) : keysD (truT f) = f.map tupN := by
  unfold keysD truT
  rw [List.map_map]
  refine List.map_congr_left fun o _ => ?_
  show D.tup ((keyN o).map keyD) = D.tup (natD o)
  rw [keyN_D]
theorem dl_tN {b : Bx} {s : KW.S} {n : Nat} {kds : List (List Key × D)} {o : List Nat} (hc : s.cs[n]? = some (.dT kds)) : DLook b s (.c n) (.d (tupN o)) (lkD kds (keyN o)) := by
  have := dl_t (b := b) (s := s) (key := keyN o) hc
  rw [keyN_D] at this
  exact this
theorem lay_tupN {n : Nat} (o : List Nat) : Lay (n + 1) (tupN o) := .tup fun d hd => by
  obtain ⟨i, _, rfl⟩ := List.mem_map.mp hd
  exact .int _
theorem pyDs_nat (o : List Nat) : pyDs (natD o) = (o.map fun (i : Nat) => (i : Int)).map .int := by
  rw [pyDs_map]
  unfold natD
  rw [List.map_map, List.map_map]
  rfl
theorem alike_tupN (a b : List Nat) : PySem.W.alike (pyD (tupN a)) (pyD (tupN b)) = true := by
  show PySem.W.alike (.tuple (pyDs (natD a))) (.tuple (pyDs (natD b))) = true
  rw [pyDs_nat, pyDs_nat, PySem.W.alike]
  exact PySem.W.alike_ints _ _
theorem pu_tupN (a : List Nat) : puD (tupN a) = true := by
  show puDs (natD a) = true
  induction a with
  | nil => rfl
  | cons x a ih => exact ih
theorem sortOk_rows {f : List (List Nat)} {n : Nat} (h : ∀ o ∈ f, o.length = n) (hn : 1 ≤ n) : SortOk (f.map tupN) where
  al := by
    rw [List.map_map]
    exact PySem.W.AllAlike.of fun a b => alike_tupN a b
  so := .inl fun d hd => by
    rw [List.map_map] at hd
    obtain ⟨o, ho, rfl⟩ := List.mem_map.mp hd
    have hl := h o ho
    cases o with
    | nil => rw [List.length_nil] at hl; omega
    | cons x o => exact ⟨_, _, rfl⟩
  pl := fun d hd => by
    obtain ⟨o, _, rfl⟩ := List.mem_map.mp hd
    exact (lay_tupN (n := 0) o).ok.1
  dp := fun d hd => by
    obtain ⟨o, _, rfl⟩ := List.mem_map.mp hd
    exact Nat.le_trans (lay_tupN (n := 0) o).ok.2.2 (by decide)
def srtN (f : List (List Nat)) : List (List Nat) := f.mergeSort fun a b => leD (tupN a) (tupN b)
theorem srtN_map (f : List (List Nat)) : srtD (f.map tupN) = (srtN f).map tupN := by
  have := PySem.W.sort_maps (r := fun a b => leD (tupN a) (tupN b)) (s := leD) tupN (l := f) fun a _ b _ => rfl
  exact this.symm
theorem srtN_perm (f : List (List Nat)) : (srtN f).Perm f := List.mergeSort_perm _ _
theorem tupN_inj {a b : List Nat} (h : tupN a = tupN b) : a = b := natD_inj (D.tup.inj h)
theorem srtN_eq {a b : List (List Nat)} (p : a.Perm b) : (srtN a).map tupN = (srtN b).map tupN := by
  rw [← srtN_map, ← srtN_map]
  refine srtD_eq (p.map tupN) fun x hx y hy h1 h2 => ?_
  obtain ⟨u, _, rfl⟩ := List.mem_map.mp hx
  obtain ⟨v, _, rfl⟩ := List.mem_map.mp hy
  exact leD_anti (pu_tupN u) (pu_tupN v) (alike_tupN u v) h1 h2
/-- an error with a number -/
abbrev err2 (C : Addr) (what : Str) (many : Int) : Addr → List (Str × D) → Prop := fun C1 fs => C1 = C ∧ fs = [(("what" : Str), D.str what), ("many", .int many)]
theorem Made.snoc {w c : List Nat} {n : Nat} {L : List (List Nat)} {o : List Nat} (h : Made w c n L) (hn : o ∉ L) (hg : ∃ x ∈ L, o = comp w x ∨ o = comp c x) : Made w c n (L ++ [o]) := by
  refine ⟨?_, fun P h0 hs x hx => ?_⟩
  · rw [List.nodup_append]
    exact ⟨h.nd, List.nodup_cons.mpr ⟨List.not_mem_nil, List.nodup_nil⟩, fun a ha b hb e => hn (by rw [List.mem_singleton.mp hb] at e; exact e ▸ ha)⟩
  · rcases List.mem_append.mp hx with hx | hx
    · exact h.gen P h0 hs x hx
    · rw [List.mem_singleton.mp hx]
      obtain ⟨y, hy, e⟩ := hg
      have := hs y (h.gen P h0 hs y hy)
      rcases e with e | e
      · rw [e]; exact this.1
      · rw [e]; exact this.2
section
variable {P : Program} {w : World} {A : AD} {K : PySem.W.Frag} {mg : Str → Option Value} {base : Heap}
abbrev sp_check_whole (A : AD) (K : PySem.W.Frag) : Sp := spF (α := List Nat × List Nat) K (fun a ds => ds = [socD A a.1 a.2] ∧ Ord a.1 a.1.length ∧ Ord a.2 a.1.length ∧ a.1.length ≤ 400) (fun a r => r = .non ∧ (parts a.1 a.2).length = 1) (fun a C fs => err A.C_InvalidSociety "whole" C fs ∧ (parts a.1 a.2).length ≠ 1)
theorem ok_check_whole (T : Txt P w A K mg) : FnOk P w K mg base (L2.CX P w) 4 A.f_check_whole A.fd_check_whole ["society"] (sp_check_whole A K) := by
  refine okF T.d_check_whole.F sc_check_whole (fun a ds ⟨h, _⟩ => by rw [h]; rfl) fun cdv Ar outer sh H E hr => ⟨_, (pss_one (ps_if (pt_not (pt_val (show PE _ _ (tCallS (sp_is_whole A K) _ _) from (pe_callS (ok_is_whole T) (hr.mono (by decide)) rfl T.d_is_whole.m T.d_is_whole.F.kp T.d_is_whole.b (fun σ => passAt (takes_of rfl rfl rfl rfl) σ) (pa_cons (pv 0) pa_nil))))) (pss_one (ps_raise rfl (takes_of rfl rfl rfl rfl) (pmk_err T.e_InvalidSociety T.n_InvalidSociety hr (pa_cons pe_str pa_nil)))) pss_nil)), fun B F0 a0 a ds kk ex hx hp hk hex => ?_⟩
  obtain ⟨wv, ch⟩ := a
  obtain ⟨rfl, hp⟩ := hp
  walk_at "kw"
  refine ⟨(wv, ch), ⟨rfl, hp⟩, fun d hd => ?_⟩
  subst hd
  walk_at "kw"
  refine ⟨fun h => ?_, fun h => ws_next (hk _ _ ⟨rfl, by simpa using h⟩)⟩
  refine ws_raise hx ?_
  walk_at "kw"
  exact ⟨rfl, hex _ _ _ ⟨⟨rfl, rfl⟩, by simpa using h⟩⟩
abbrev sp_word_orders (A : AD) (K : PySem.W.Frag) : Sp := spF (α := List Nat × List Nat) K (fun a ds => ds = [socD A a.1 a.2] ∧ Ord a.1 a.1.length ∧ Ord a.2 a.1.length ∧ a.1.length ≤ 400 ∧ 1 ≤ a.1.length) (fun a r => ∃ L, Closed a.1 a.2 a.1.length L ∧ L.length ≤ 2000 ∧ r = .lst ((srtN L).map tupN)) (fun a C fs => err2 A.C_TooMany "elements" 2001 C fs ∧ ∃ L, Made a.1 a.2 a.1.length L ∧ L.length = 2001)
theorem ok_word_orders (T : Txt P w A K mg) : FnOk P w K mg base (L2.CX P w) 2 A.f_word_orders A.fd_word_orders ["society"] (sp_word_orders A K) := by
  refine okF T.d_word_orders.F sc_word_orders (fun a ds ⟨h, _⟩ => by rw [h]; rfl) fun cdv Ar outer sh H E hr => ⟨_, (pss_cons (ps_expr (show PE _ _ (tCallS (sp_check_society A K) _ _) from (pe_callS (ok_check_society T) (hr.mono (by decide)) rfl T.d_check_society.m T.d_check_society.F.kp T.d_check_society.b (fun σ => passAt (takes_of rfl rfl rfl rfl) σ) (pa_cons (pv 0) pa_nil))))
      (pss_cons (ps_set (i := 1) sc_word_orders.nd rfl (Or.inl rfl) (pe_tupRg rfl rfl T.z_tuple (prg_1 rfl T.z_range (show PE _ _ (tFld K _ _) from (pe_fld (pv 0) (by rfl))))))
      (pss_cons (ps_set (i := 2) sc_word_orders.nd rfl (Or.inl rfl) (show PE _ _ (tDispT [(_, _)]) from pe_dispT (hu_of hr) (pps_cons (pv 1) pe_bl pps_nil) (by rfl) (by rfl) (fun z => by cases z) (by decide)))
      (pss_cons (ps_set (i := 3) sc_word_orders.nd rfl (Or.inl rfl) (pe_lst (pa_cons (pv 1) pa_nil)))
      (pss_cons (ps_while (passes_of rfl) (show PT _ _ (tTru K _) from pt_truth (pv 3) (by intro _; rfl)) (pss_cons (ps_set (i := 4) sc_word_orders.nd rfl (Or.inl rfl) (show PE _ _ (tBM0 K _ _ _) from (pe_bm0 PySem.F.plainAttrs_list PySem.F.slot_list_pop PySem.F.type_list_pop mt_pop (pv 3))))
      (pss_one (ps_for (passes_of rfl) rfl (show PI _ _ _ (iTup K _) from (pi_tup (pe_tup (pa_cons (show PE _ _ (tFld K _ _) from (pe_fld (pv 0) (by rfl))) (pa_cons (show PE _ _ (tFld K _ _) from (pe_fld (pv 0) (by rfl))) pa_nil))))) (pg_name (i := 5) sc_word_orders.nd rfl (Or.inr rfl)) (pss_cons (ps_set (i := 6) sc_word_orders.nd rfl (Or.inl rfl) (show PE _ _ (tThen _ (kTup K)) from (pe_tupleOf rfl T.z_tuple (pe_lc (own := [("place", 7)]) (g := (gName 7)) (by rfl) sc_word_orders.nd (show PI _ _ _ (iTup K _) from (pi_tup (pv 4))) (blkOk_by (own := [("place", 7)]) (N := N_word_orders) (sc := defScope s_word_orders) (by decide +kernel)) (fun _ _ _ _ _ => (pg_name (i := 7) sc_word_orders.nd rfl (by first | exact Or.inl rfl | exact Or.inr rfl))) (fun _ _ _ _ _ => pts_nil) (fun _ _ _ _ _ => (pe_ix (show IxR _ (rIxT K) from ix_tup) (pv 5) (pv 7) (fun _ _ => rfl)))))))
      (pss_one (ps_if (pt_cmp (pc_dnotin (hu_of hr) (pv 6) (pv 2))) (pss_cons (ps_dput (hu_of hr) (pv 2) (pv 6) pe_bl (by rfl))
      (pss_cons (ps_expr (show PE _ _ (tBM K _ _ _ _) from (pe_bm PySem.F.plainAttrs_list PySem.F.slot_list_append PySem.F.type_list_append mt_append (pv 3) (pa_cons (pv 6) pa_nil))))
      (pss_one (ps_if (pt_cmpR op_gt (pe_callB (id := "len") (show CallR _ (.builtin "len") rLenT from call_len_dT) (by rfl) T.z_len (by decide +kernel) (pa_cons (pv 2) pa_nil)) (pe_glob (v := .int 2000) rfl T.g_MOST_ELEMENTS.choose_spec ⟨_, rfl⟩) (nomark _)) (pss_one (ps_raise rfl (takes_of rfl rfl rfl rfl) (pmk_err T.e_TooMany T.n_TooMany hr (pa_cons pe_str (pa_cons (pe_callB (id := "len") (show CallR _ (.builtin "len") rLenT from call_len_dT) (by rfl) T.z_len (by decide +kernel) (pa_cons (pv 2) pa_nil)) pa_nil))))) pss_nil)))) pss_nil)))))))
      (pss_one (ps_ret (pe_callB (id := "sorted") (show CallR _ (.builtin "sorted") (rSortedDT K) from cr_sortedDT rfl (hu65 hr)) (by rfl) T.z_sorted (by decide +kernel) (pa_cons (pv 2) pa_nil))))))))), fun B F0 a0 a ds kk ex hx hp hk hex => ?_⟩
  obtain ⟨wv, ch⟩ := a
  obtain ⟨rfl, ow, oc, hn, hn1⟩ := hp
  have ow : Ord wv wv.length := ow
  have oc : Ord ch wv.length := oc
  have hn : wv.length ≤ 400 := hn
  have hn1 : 1 ≤ wv.length := hn1
  have T2 := ow.two oc
  have sl : (10000 : Nat) ≤ sizeLine := by decide
  show WS _ _ ⟨[.d (socD A wv ch), .un, .un, .un, .un, .un, .un, .un], []⟩ _
  walk_at "kw"
  refine ⟨(wv, ch), rfl, fun d hd => ?_⟩
  subst hd
  walk_at "kw"
  refine we_tupRg1 ?_
  walk_at "kw"
  refine ⟨wv.length, rfl, by omega, ?_⟩
  show WG _ _ (.d (tupN (List.range wv.length))) _ _
  walk_at "kw"
  refine ⟨keyN (List.range wv.length), .bl true, by rw [keyN_D]; rfl, rfl, rfl, ?_⟩
  walk_at "kw"
  refine we_lstc ?_
  walk_at "kw"
  refine ws_while (fun m st => ∃ (f wt : List (List Nat)) (y4 y5 y6 : AV), st = ⟨[.d (socD A wv ch), .d (tupN (List.range wv.length)), .c 0, .c 1, y4, y5, y6, .un], [.dT (truT f), .lst (wt.map tupN)]⟩ ∧ KP.Made wv ch wv.length f ∧ List.range wv.length ∈ f ∧ (∀ x ∈ wt, x ∈ f) ∧ (∀ x ∈ f, x ∉ wt → comp wv x ∈ f ∧ comp ch x ∈ f) ∧ f.length ≤ 2000 ∧ wt.length ≤ f.length ∧ m = 2 * (2000 - f.length) + wt.length) (2 * (2000 - 1) + 1) ⟨[List.range wv.length], [List.range wv.length], .un, .un, .un, rfl, ⟨List.nodup_cons.mpr ⟨List.not_mem_nil, List.nodup_nil⟩, fun P h0 _ x hx => by rw [List.mem_singleton.mp hx]; exact h0⟩, List.mem_cons_self, fun x hx => hx, fun x hx hn => absurd hx hn, by show 1 ≤ 2000; decide, Nat.le_refl _, rfl⟩ fun m st hi => ?_
  obtain ⟨f, wt, y4, y5, y6, rfl, hm, hid, hw, hcl, hfl, hwf, hmm⟩ := hi
  refine wt_Tc ?_
  walk_at "kw"
  refine ⟨1, _, rfl, rfl, ?_⟩
  refine ⟨fun h => ?_, fun h => ?_⟩
  · have hne : wt ≠ [] := fun z => by subst z; cases h
    obtain ⟨wt', o, rfl⟩ : ∃ wt' o, wt = wt' ++ [o] := ⟨wt.dropLast, wt.getLast hne, (List.dropLast_concat_getLast hne).symm⟩
    have ho : o ∈ f := hw o (List.mem_append_right _ List.mem_cons_self)
    have ro := hm.row T2 o ho
    walk_at "kw"
    refine we_bm0 ?_
    walk_at "kw"
    refine ⟨ty_lc (n := 1) rfl, ?_⟩
    refine rm_pop (n := 1) rfl (d := tupN o) (by rw [List.map_append, List.getLast?_append]; rfl) ?_
    have edl : ((wt' ++ [o]).map tupN).dropLast = wt'.map tupN := by
      rw [List.map_append]
      exact List.dropLast_concat
    rw [edl]
    walk_at "kw"
    refine ws_for (wi_tup ?_)
    walk_at "kw"
    refine ⟨_, .inl rfl, fun j st => ∃ (f wt : List (List Nat)) (y5 y6 : AV), st = ⟨[.d (socD A wv ch), .d (tupN (List.range wv.length)), .c 0, .c 1, .d (tupN o), y5, y6, .un], [.dT (truT f), .lst (wt.map tupN)]⟩ ∧ KP.Made wv ch wv.length f ∧ List.range wv.length ∈ f ∧ (∀ x ∈ wt, x ∈ f) ∧ (∀ x ∈ f, x ∉ wt → x ≠ o → comp wv x ∈ f ∧ comp ch x ∈ f) ∧ o ∈ f ∧ (∀ s ∈ [wv, ch].take j, comp s o ∈ f) ∧ f.length ≤ 2000 ∧ wt.length ≤ f.length ∧ 2 * (2000 - f.length) + wt.length < m, ⟨f, wt', _, _, rfl, hm, hid, fun x hx => hw x (List.mem_append_left _ hx), fun x hx hn hne => hcl x hx fun z => ?_, ho, (fun s hs => by cases hs), hfl, by rw [List.length_append, List.length_singleton] at hwf; omega, by rw [List.length_append, List.length_singleton] at hmm; omega⟩, fun j d s2 hd hi => ?_, fun s2 hi => ?_⟩
    · rcases List.mem_append.mp z with z | z
      · exact hn z
      · exact hne (List.mem_singleton.mp z)
    · obtain ⟨f1, wt1, y5, y6, rfl, hm, hid, hw, hcl, ho, hdone, hfl1, hwf1, hme⟩ := hi
      obtain ⟨sv, hs, rfl, hsl, hsm⟩ : ∃ sv, [wv, ch][j]? = some sv ∧ d = .tup (natD sv) ∧ sv.length = wv.length ∧ ∀ x : List Nat, comp sv x = comp wv x ∨ comp sv x = comp ch x := by
        match j, hd with
        | 0, hd => exact ⟨wv, rfl, (Option.some.inj hd).symm, rfl, fun x => .inl rfl⟩
        | 1, hd => exact ⟨ch, rfl, (Option.some.inj hd).symm, oc.len, fun x => .inr rfl⟩
        | j + 2, hd => simp at hd
      have hj1 : [wv, ch].take (j + 1) = [wv, ch].take j ++ [sv] := by rw [List.take_add_one, hs]; rfl
      have nrd : ∀ m, ∀ co ∈ [CO.dT (truT f1), CO.lst (wt1.map tupN)], noRef m co := fun m co hco => by
        rcases List.mem_cons.mp hco with rfl | hco
        · trivial
        · rw [List.mem_singleton.mp hco]; trivial
      walk_at "kw"
      refine we_thenTupD ?_
      refine we_lcmap (own_name (by decide)) (wi_tup ?_)
      walk_at "kw"
      refine ⟨natD o, .inl rfl, by rw [natD_length, ro.1]; omega, nrd _, fun d => .int (sv.getD (intD d).toNat 0 : Nat), fun i d acc hd => ?_, ?_⟩
      · rw [natD_get] at hd
        obtain ⟨p, hp, rfl⟩ := Option.map_eq_some_iff.mp hd
        have hpn := ro.2 p (List.mem_of_getElem? hp)
        have g := getD_get (l := sv) (i := p) (by omega)
        walk_at "kw"
        exact ⟨rfl, rfl⟩
      rw [natD_map _ (fun p => sv.getD p 0) _ (fun x _ => rfl)]
      refine ⟨_, _, rfl, .inl rfl, ?_⟩
      show WG _ _ (.d (tupN (comp sv o))) _ _
      have hgen : ∃ x ∈ f1, comp sv o = comp wv x ∨ comp sv o = comp ch x := ⟨o, ho, hsm o⟩
      generalize he : comp sv o = e at hgen
      walk_at "kw"
      refine ⟨_, dl_tN (n := 0) rfl, ?_⟩
      rw [truT_look]
      refine ⟨_, rfl, fun h => ?_, fun h => ?_⟩
      · have hnew : e ∉ f1 := by simpa using h
        have hm' : KP.Made wv ch wv.length (f1 ++ [e]) := Made.snoc hm hnew hgen
        have hlen' : (f1 ++ [e]).length = f1.length + 1 := by rw [List.length_append, List.length_singleton]
        refine ws_seq (ws_dputT ?_)
        walk_at "kw"
        refine ⟨0, truT f1, keyN e, .bl true, rfl, by rw [keyN_D]; rfl, rfl, rfl, by rw [truT_length]; omega, ?_⟩
        rw [truT_put hnew]
        walk_at "kw"
        refine we_bm ?_
        walk_at "kw"
        refine ⟨ty_lc (n := 1) rfl, ?_⟩
        walk_at "kw"
        refine rm_append (n := 1) rfl (by rw [List.length_map]; omega) ?_
        walk_at "kw"
        refine rc_lenDT (n := 0) rfl ?_
        rw [truT_length]
        walk_at "kw"
        refine ⟨fun h2 => ?_, fun h2 => ?_⟩
        · have h2 : f1.length + 1 = 2001 := by have := of_decide_eq_true h2; omega
          refine ws_raise hx ?_
          walk_at "kw"
          refine rc_lenDT (n := 0) rfl ?_
          rw [truT_length, hlen', h2]
          walk_at "kw"
          exact ⟨rfl, hex _ _ _ ⟨⟨rfl, rfl⟩, f1 ++ [e], hm', by rw [hlen', h2]⟩⟩
        · have h2 : f1.length + 1 ≤ 2000 := by have := of_decide_eq_false h2; omega
          walk_at "kw"
          refine ⟨f1 ++ [e], wt1 ++ [e], .d (.tup (natD sv)), .d (tupN e), by rw [List.map_append]; rfl, hm', List.mem_append_left _ hid, fun x hx => ?_, fun x hx hn hne => ?_, List.mem_append_left _ ho, fun s hs2 => ?_, by omega, by simp only [List.length_append, List.length_singleton]; omega, by simp only [List.length_append, List.length_singleton]; omega⟩
          · rcases List.mem_append.mp hx with hx | hx
            · exact List.mem_append_left _ (hw x hx)
            · exact List.mem_append_right _ hx
          · rcases List.mem_append.mp hx with hx | hx
            · have := hcl x hx (fun z => hn (List.mem_append_left _ z)) hne
              exact ⟨List.mem_append_left _ this.1, List.mem_append_left _ this.2⟩
            · exact absurd (List.mem_append_right _ hx) hn
          · rw [hj1] at hs2
            rcases List.mem_append.mp hs2 with hs2 | hs2
            · exact List.mem_append_left _ (hdone s hs2)
            · rw [List.mem_singleton.mp hs2, he]
              exact List.mem_append_right _ List.mem_cons_self
      · have hold : e ∈ f1 := by simpa using h
        walk_at "kw"
        refine ⟨f1, wt1, .d (.tup (natD sv)), .d (tupN e), rfl, hm, hid, hw, hcl, ho, fun s hs2 => ?_, hfl1, hwf1, hme⟩
        rw [hj1] at hs2
        rcases List.mem_append.mp hs2 with hs2 | hs2
        · exact hdone s hs2
        · rw [List.mem_singleton.mp hs2, he]
          exact hold
    · obtain ⟨f1, wt1, y5, y6, rfl, hm, hid, hw, hcl, ho, hdone, hfl1, hwf1, hme⟩ := hi
      refine ⟨_, hme, f1, wt1, _, _, _, rfl, hm, hid, hw, fun x hx hn => ?_, hfl1, hwf1, rfl⟩
      by_cases e : x = o
      · subst e
        exact ⟨hdone wv List.mem_cons_self, hdone ch (List.mem_cons_of_mem _ List.mem_cons_self)⟩
      · exact hcl x hx hn e
  · have hw0 : wt = [] := by
      cases wt with
      | nil => rfl
      | cons a b => cases h
    subst hw0
    walk_at "kw"
    refine rc_sortedDT (n := 0) rfl ?_ ?_
    · rw [keysD_truT]
      exact sortOk_rows (fun o ho => (hm.row T2 o ho).1) hn1
    rw [keysD_truT, srtN_map]
    exact hk _ _ ⟨f, ⟨hm, hid, fun x hx => hcl x hx List.not_mem_nil⟩, hfl, rfl⟩
end
end K71


namespace K71
open PySem PySem.Spec PyProof.Rows L2 KW KP
theorem truT_any (f : List (List Nat)) (o : List Nat) : ∃ e, putD (truT f) (keyN o) (.bl true) = truT (f ++ e) ∧ o ∈ f ++ e ∧ (e = [] ∨ (e = [o] ∧ o ∉ f)) := by
  by_cases h : o ∈ f
  · exact ⟨[], by rw [truT_old h, List.append_nil], by rw [List.append_nil]; exact h, .inl rfl⟩
  · exact ⟨[o], truT_put h, List.mem_append_right _ List.mem_cons_self, .inr ⟨rfl, h⟩⟩
section
variable {P : Program} {w : World} {A : AD} {K : PySem.W.Frag} {mg : Str → Option Value} {base : Heap}
abbrev sp_is_free (A : AD) (K : PySem.W.Frag) : Sp := spF (α := List Nat × List Nat) K (fun a ds => ds = [socD A a.1 a.2] ∧ Ord a.1 a.1.length ∧ Ord a.2 a.1.length ∧ a.1.length ≤ 400 ∧ 1 ≤ a.1.length ∧ ∀ L, Made a.1 a.2 a.1.length L → L.length ≤ 2000) (fun a r => ∃ L, Closed a.1 a.2 a.1.length L ∧ (parts a.1 a.2).length = 1 ∧ r = .bl (decide (L.length = a.1.length))) (fun a C fs => err A.C_InvalidSociety "whole" C fs ∧ (parts a.1 a.2).length ≠ 1)
theorem ok_is_free (T : Txt P w A K mg) : FnOk P w K mg base (L2.CX P w) 5 A.f_is_free A.fd_is_free ["society"] (sp_is_free A K) := by
  refine okF T.d_is_free.F sc_is_free (fun a ds ⟨h, _⟩ => by rw [h]; rfl) fun cdv Ar outer sh H E hr => ⟨_, (pss_cons (ps_expr (show PE _ _ (tCallS (sp_check_whole A K) _ _) from (pe_callS (ok_check_whole T) (hr.mono (by decide)) rfl T.d_check_whole.m T.d_check_whole.F.kp T.d_check_whole.b (fun σ => passAt (takes_of rfl rfl rfl rfl) σ) (pa_cons (pv 0) pa_nil))))
      (pss_one (ps_ret (pe_cmpR op_eq (pe_callB (id := "len") (show CallR _ (.builtin "len") ((fun xs H Q => ∃ x n, xs = [x] ∧ LenV K x H n ∧ Q (.int n) H)) from call_len) (by rfl) T.z_len (by decide +kernel) (pa_cons (show PE _ _ (tCallS (sp_word_orders A K) _ _) from (pe_callS (ok_word_orders T) (hr.mono (by decide)) rfl T.d_word_orders.m T.d_word_orders.F.kp T.d_word_orders.b (fun σ => passAt (takes_of rfl rfl rfl rfl) σ) (pa_cons (pv 0) pa_nil))) pa_nil)) (show PE _ _ (tFld K _ _) from (pe_fld (pv 0) (by rfl))) (nomark _))))), fun B F0 a0 a ds kk ex hx hp hk hex => ?_⟩
  obtain ⟨wv, ch⟩ := a
  obtain ⟨rfl, ow, oc, hn, hn1, hM⟩ := hp
  have ow : Ord wv wv.length := ow
  have oc : Ord ch wv.length := oc
  have hn : wv.length ≤ 400 := hn
  have hn1 : 1 ≤ wv.length := hn1
  have hM : ∀ L, Made wv ch wv.length L → L.length ≤ 2000 := hM
  walk_at "kw"
  refine ⟨(wv, ch), ⟨rfl, ow, oc, hn⟩, fun d hd => ?_, fun C fs h => hex _ _ _ h⟩
  obtain ⟨rfl, hpl⟩ := hd
  walk_at "kw"
  refine ⟨(wv, ch), ⟨rfl, ow, oc, hn, hn1⟩, fun d hd => ?_, fun C fs h => ?_⟩
  · obtain ⟨L, hcl, hL, rfl⟩ := hd
    have sl : (10000 : Nat) ≤ sizeLine := by decide
    walk_at "kw"
    refine rc_lenLT (.inl rfl) ?_
    rw [List.length_map, (srtN_perm L).length_eq]
    walk_at "kw"
    refine hk _ _ ⟨L, hcl, hpl, ?_⟩
    show D.bl (decide ((L.length : Int) = (wv.length : Int))) = D.bl (decide (L.length = wv.length))
    by_cases h : L.length = wv.length
    · rw [decide_eq_true h, decide_eq_true (by omega)]
    · rw [decide_eq_false h, decide_eq_false (by omega)]
  · obtain ⟨_, L, h1, h2⟩ := h
    have := hM L h1
    omega
abbrev sp__law_made (A : AD) (K : PySem.W.Frag) : Sp := spF (α := List Nat × List Nat) K (fun a ds => ds = [pairP a.1 a.2] ∧ Ord a.1 a.1.length ∧ Ord a.2 a.1.length ∧ a.1.length ≤ 60 ∧ 1 ≤ a.1.length ∧ ∀ L, Made a.1 a.2 a.1.length L → L.length ≤ 2000) (fun a r => ∃ L, Closed a.1 a.2 a.1.length L ∧ r = .lst ((srtN L).map tupN)) (fun _ _ _ => False)
theorem ok__law_made (T : Txt P w A K mg) : FnOk P w K mg base (L2.CX P w) 1 A.f__law_made A.fd__law_made ["pair"] (sp__law_made A K) := by
  refine okF T.d__law_made.F sc__law_made (fun a ds ⟨h, _⟩ => by rw [h]; rfl) fun cdv Ar outer sh H E hr => ⟨_, (pss_cons (ps_set (i := 1) sc__law_made.nd rfl (Or.inl rfl) (pe_callB (id := "len") (show CallR _ (.builtin "len") ((fun xs H Q => ∃ x n, xs = [x] ∧ LenV K x H n ∧ Q (.int n) H)) from call_len) (by rfl) T.z_len (by decide +kernel) (pa_cons (pe_ix (show IxR _ (rIxT K) from ix_tup) (pv 0) pe_int (fun _ _ => rfl)) pa_nil)))
      (pss_cons (ps_set (i := 2) sc__law_made.nd rfl (Or.inl rfl) (show PE _ _ (tDispT [(_, _)]) from pe_dispT (hu_of hr) (pps_cons (pe_tupRg rfl rfl T.z_tuple (prg_1 rfl T.z_range (pv 1))) pe_bl pps_nil) (by rfl) (by rfl) (fun z => by cases z) (by decide)))
      (pss_cons (ps_set (i := 3) sc__law_made.nd rfl (Or.inl rfl) pe_bl)
      (pss_cons (ps_while (passes_of rfl) (show PT _ _ (tTru K _) from pt_truth (pv 3) (by intro _; rfl)) (pss_cons (ps_set (i := 4) sc__law_made.nd rfl (Or.inl rfl) (pe_callB (id := "len") (show CallR _ (.builtin "len") rLenT from call_len_dT) (by rfl) T.z_len (by decide +kernel) (pa_cons (pv 2) pa_nil)))
      (pss_cons (ps_for (passes_of rfl) rfl (show PI _ _ _ (iList K _) from (pi_list (pe_callTy (call_list_dT rfl) (by rfl) T.z_list (by decide +kernel) (pa_cons (pv 2) pa_nil)))) (pg_name (i := 5) sc__law_made.nd rfl (Or.inl rfl)) (pss_one (ps_for (passes_of rfl) rfl (pi_range1 (by rfl) T.z_range (pa_cons pe_int pa_nil)) (pg_name (i := 6) sc__law_made.nd rfl (Or.inr rfl)) (pss_one (ps_dput (hu_of hr) (pv 2) (show PE _ _ (tThen _ (kTup K)) from (pe_tupleOf rfl T.z_tuple (pe_lc (own := [("place", 7)]) (g := (gName 7)) (by rfl) sc__law_made.nd (show PI _ _ _ (iTup K _) from (pi_tup (pv 5))) (blkOk_by (own := [("place", 7)]) (N := N__law_made) (sc := defScope s__law_made) (by decide +kernel)) (fun _ _ _ _ _ => (pg_name (i := 7) sc__law_made.nd rfl (by first | exact Or.inl rfl | exact Or.inr rfl))) (fun _ _ _ _ _ => pts_nil) (fun _ _ _ _ _ => (pe_ix (show IxR _ (rIxT K) from ix_tup) (pe_ix (show IxR _ (rIxT K) from ix_tup) (pv 0) (pv 6) (fun _ _ => rfl)) (pv 7) (fun _ _ => rfl)))))) pe_bl (by rfl))))))
      (pss_one (ps_set (i := 3) sc__law_made.nd rfl (Or.inl rfl) (pe_cmpR op_lt (pv 4) (pe_callB (id := "len") (show CallR _ (.builtin "len") rLenT from call_len_dT) (by rfl) T.z_len (by decide +kernel) (pa_cons (pv 2) pa_nil)) (nomark _)))))))
      (pss_one (ps_ret (pe_callB (id := "sorted") (show CallR _ (.builtin "sorted") (rSortedDT K) from cr_sortedDT rfl (hu65 hr)) (by rfl) T.z_sorted (by decide +kernel) (pa_cons (pv 2) pa_nil)))))))), fun B F0 a0 a ds kk ex hx hp hk hex => ?_⟩
  obtain ⟨wv, ch⟩ := a
  obtain ⟨rfl, ow, oc, hn, hn1, hM⟩ := hp
  have ow : Ord wv wv.length := ow
  have oc : Ord ch wv.length := oc
  have hn : wv.length ≤ 60 := hn
  have hn1 : 1 ≤ wv.length := hn1
  have hM : ∀ L, Made wv ch wv.length L → L.length ≤ 2000 := hM
  have T2 := ow.two oc
  have sl : (10000 : Nat) ≤ sizeLine := by decide
  show WS _ _ ⟨[.d (.tup [.tup (natD wv), .tup (natD ch)]), .un, .un, .un, .un, .un, .un, .un], []⟩ _
  walk_at "kw"
  refine rc_lenLT (.inr rfl) ?_
  rw [natD_length]
  walk_at "kw"
  refine we_tupRg1 ?_
  walk_at "kw"
  refine ⟨wv.length, rfl, by omega, ?_⟩
  walk_at "kw"
  refine ⟨keyN (List.range wv.length), .bl true, by rw [keyN_D]; rfl, rfl, rfl, ?_⟩
  walk_at "kw"
  refine ws_while (fun m st => ∃ (f : List (List Nat)) (ag : Bool) (y4 y5 y6 : AV), st = ⟨[.d (.tup [.tup (natD wv), .tup (natD ch)]), .d (.int (wv.length : Nat)), .c 0, .d (.bl ag), y4, y5, y6, .un], [.dT (truT f)]⟩ ∧ KP.Made wv ch wv.length f ∧ List.range wv.length ∈ f ∧ (ag = false → ∀ x ∈ f, comp wv x ∈ f ∧ comp ch x ∈ f) ∧ m = 2 * (2001 - f.length) + (if ag = true then 1 else 0)) (2 * (2001 - 1) + 1) ⟨[List.range wv.length], true, .un, .un, .un, rfl, ⟨List.nodup_cons.mpr ⟨List.not_mem_nil, List.nodup_nil⟩, fun P h0 _ x hx => by rw [List.mem_singleton.mp hx]; exact h0⟩, List.mem_cons_self, (fun h => Bool.noConfusion h), rfl⟩ fun m st hi => ?_
  obtain ⟨f, ag, y4, y5, y6, rfl, hm, hid, hcl, hmm⟩ := hi
  have hfl := hM f hm
  refine wt_T ?_
  walk_at "kw"
  refine ⟨.bl ag, ag, rfl, rfl, fun h => ?_, fun h => ?_⟩
  · have h : ag = true := h
    subst h
    walk_at "kw"
    refine rc_lenDT (n := 0) rfl ?_
    rw [truT_length]
    walk_at "kw"
    refine ws_for (wi_list ?_)
    walk_at "kw"
    refine rc_listDT (n := 0) rfl ?_
    rw [keysD_truT]
    refine ⟨_, rfl, fun i st => ∃ (e : List (List Nat)) (y5 y6 : AV), st = ⟨[.d (.tup [.tup (natD wv), .tup (natD ch)]), .d (.int (wv.length : Nat)), .c 0, .d (.bl true), .d (.int (f.length : Nat)), y5, y6, .un], [.dT (truT (f ++ e))]⟩ ∧ KP.Made wv ch wv.length (f ++ e) ∧ ∀ x ∈ f.take i, comp wv x ∈ f ++ e ∧ comp ch x ∈ f ++ e, ⟨[], _, _, by rw [List.append_nil]; rfl, by rw [List.append_nil]; exact hm, fun x hx => by cases hx⟩, fun i d s2 hd hi => ?_, fun s2 hi => ?_⟩
    · obtain ⟨e, y5, y6, rfl, hme, hce⟩ := hi
      rw [List.getElem?_map] at hd
      obtain ⟨o, ho, rfl⟩ := Option.map_eq_some_iff.mp hd
      have hof : o ∈ f := List.mem_of_getElem? ho
      have ro := hm.row T2 o hof
      have et : f.take (i + 1) = f.take i ++ [o] := by rw [List.take_add_one, ho]; rfl
      walk_at "kw"
      refine ws_for (wi_rng1 ?_)
      walk_at "kw"
      refine ⟨_, rfl, by decide, by decide, fun j st => ∃ (e : List (List Nat)) (y6 : AV), st = ⟨[.d (.tup [.tup (natD wv), .tup (natD ch)]), .d (.int (wv.length : Nat)), .c 0, .d (.bl true), .d (.int (f.length : Nat)), .d (tupN o), y6, .un], [.dT (truT (f ++ e))]⟩ ∧ KP.Made wv ch wv.length (f ++ e) ∧ (∀ x ∈ f.take i, comp wv x ∈ f ++ e ∧ comp ch x ∈ f ++ e) ∧ ∀ s ∈ [wv, ch].take j, comp s o ∈ f ++ e, ⟨e, _, rfl, hme, hce, fun x hx => by cases hx⟩, fun j d s2 hd hi => ?_, fun s2 hi => ?_⟩
      · obtain ⟨e, y6, rfl, hme, hce, hdone⟩ := hi
        obtain ⟨hj, rfl⟩ := rgD_get hd
        have hj : j < 2 := hj
        obtain ⟨sv, hs, hsd, hsl, hsm⟩ : ∃ sv, [wv, ch][j]? = some sv ∧ [D.tup (natD wv), D.tup (natD ch)][j]? = some (.tup (natD sv)) ∧ sv.length = wv.length ∧ ∀ x : List Nat, comp sv x = comp wv x ∨ comp sv x = comp ch x := by
          match j, hj with
          | 0, _ => exact ⟨wv, rfl, rfl, rfl, fun x => .inl rfl⟩
          | 1, _ => exact ⟨ch, rfl, rfl, oc.len, fun x => .inr rfl⟩
        have hj1 : [wv, ch].take (j + 1) = [wv, ch].take j ++ [sv] := by rw [List.take_add_one, hs]; rfl
        rw [Int.zero_add]
        have nrd : ∀ m, ∀ co ∈ [CO.dT (truT (f ++ e))], noRef m co := fun m co hco => by
          rw [List.mem_singleton.mp hco]; trivial
        walk_at "kw"
        refine ws_dputT ?_
        walk_at "kw"
        refine we_thenTupD ?_
        refine we_lcmap (own_name (by decide)) (wi_tup ?_)
        walk_at "kw"
        refine ⟨natD o, .inl rfl, by rw [natD_length, ro.1]; omega, nrd _, fun d => .int (sv.getD (intD d).toNat 0 : Nat), fun i d acc hd => ?_, ?_⟩
        · rw [natD_get] at hd
          obtain ⟨p, hp, rfl⟩ := Option.map_eq_some_iff.mp hd
          have hpn := ro.2 p (List.mem_of_getElem? hp)
          have g := getD_get (l := sv) (i := p) (by omega)
          walk_at "kw"
          refine ro_ixT (atI_natN hsd) ?_
          walk_at "kw"
          exact ⟨rfl, rfl⟩
        rw [natD_map _ (fun p => sv.getD p 0) _ (fun x _ => rfl)]
        refine ⟨_, _, rfl, .inl rfl, ?_⟩
        show ∃ n kds key d, _ ∧ AV.d (tupN (comp sv o)) = AV.d (D.tup (List.map keyD key)) ∧ _
        have hgen : ∃ x ∈ f ++ e, comp sv o = comp wv x ∨ comp sv o = comp ch x := ⟨o, List.mem_append_left _ hof, hsm o⟩
        generalize he : comp sv o = q at hgen
        obtain ⟨e2, ep, hq, he2⟩ := truT_any (f ++ e) q
        have hm2 : KP.Made wv ch wv.length (f ++ (e ++ e2)) := by
          rw [← List.append_assoc]
          rcases he2 with rfl | ⟨rfl, hn⟩
          · rw [List.append_nil]; exact hme
          · exact Made.snoc hme hn hgen
        have hl2 := hM _ hme
        refine ⟨0, truT (f ++ e), keyN q, .bl true, rfl, by rw [keyN_D]; rfl, rfl, rfl, by rw [truT_length]; omega, ?_⟩
        rw [ep, List.append_assoc]
        rw [List.append_assoc] at hq
        have up : ∀ x, x ∈ f ++ e → x ∈ f ++ (e ++ e2) := fun x hx => by rw [← List.append_assoc]; exact List.mem_append_left _ hx
        refine ⟨e ++ e2, _, rfl, hm2, fun x hx => ⟨up _ (hce x hx).1, up _ (hce x hx).2⟩, fun s hs2 => ?_⟩
        rw [hj1] at hs2
        rcases List.mem_append.mp hs2 with hs2 | hs2
        · exact up _ (hdone s hs2)
        · rw [List.mem_singleton.mp hs2, he]
          exact hq
      · obtain ⟨e, y6, rfl, hme, hce, hdone⟩ := hi
        refine ⟨e, _, _, rfl, hme, fun x hx => ?_⟩
        rw [et] at hx
        rcases List.mem_append.mp hx with hx | hx
        · exact hce x hx
        · rw [List.mem_singleton.mp hx]
          exact ⟨hdone wv List.mem_cons_self, hdone ch (List.mem_cons_of_mem _ List.mem_cons_self)⟩
    · obtain ⟨e, y5, y6, rfl, hme, hce⟩ := hi
      rw [List.length_map, List.take_length] at hce
      have hl2 := hM _ hme
      have hle : (f ++ e).length = f.length + e.length := List.length_append
      walk_at "kw"
      refine rc_lenDT (n := 0) rfl ?_
      rw [truT_length]
      walk_at "kw"
      refine ⟨2 * (2001 - (f ++ e).length) + (if f.length < (f ++ e).length then 1 else 0), ?_, f ++ e, decide (f.length < (f ++ e).length), .d (.int (f.length : Nat)), y5, y6, ?_, hme, List.mem_append_left _ hid, fun h => ?_, ?_⟩
      · rw [hmm, if_pos rfl]
        split <;> omega
      · have : decide ((f.length : Int) < ((f ++ e).length : Int)) = decide (f.length < (f ++ e).length) := by
          by_cases h : f.length < (f ++ e).length
          · rw [decide_eq_true h, decide_eq_true (by omega)]
          · rw [decide_eq_false h, decide_eq_false (by omega)]
        rw [← this]
        rfl
      · have h := of_decide_eq_false h
        have he : e = [] := List.length_eq_zero_iff.mp (by omega)
        subst he
        rw [List.append_nil] at hce ⊢
        exact hce
      · by_cases h : f.length < (f ++ e).length
        · rw [if_pos h, if_pos (decide_eq_true h)]
        · rw [if_neg h, if_neg (by rw [decide_eq_false h]; exact Bool.false_ne_true)]
  · have h : ag = false := h
    walk_at "kw"
    refine rc_sortedDT (n := 0) rfl ?_ ?_
    · rw [keysD_truT]
      exact sortOk_rows (fun o ho => (hm.row T2 o ho).1) hn1
    rw [keysD_truT, srtN_map]
    exact hk _ _ ⟨f, ⟨hm, hid, hcl h⟩, rfl⟩
end
end K71


namespace K71
open PySem PySem.Spec PyProof.Rows L2 KW KP
theorem wM_ok : ∀ n ∈ [7, 8, 9], (wM n).isPerm (List.range n) = true ∧ (cM n).isPerm (List.range n) = true ∧ (wM n).length = n ∧ wM n = [1, 0] ++ List.range' 2 (n - 2) ∧ cM n = List.range' 1 (n - 1) ++ [0] := by decide +kernel
theorem natD_app (a b : List Nat) : natD (a ++ b) = natD a ++ natD b := List.map_append
theorem ord_isOrd {w : List Nat} {n : Nat} (h : Ord w n) : isOrd (.tup (natD w)) n = true := by
  show isOrdL (natD w) n = true
  unfold isOrdL
  rw [natD_length, decide_eq_true h.len]
  have e1 : (natD w).all isIntD = true := by
    rw [List.all_eq_true]
    intro d hd
    obtain ⟨i, _, rfl⟩ := List.mem_map.mp hd
    rfl
  rw [e1, Bool.true_and, Bool.true_and]
  refine decide_eq_true ?_
  have e2 : (natD w).map intD = w.map fun (i : Nat) => (i : Int) := by
    unfold natD
    rw [List.map_map]
    rfl
  rw [e2]
  exact List.Perm.map _ h
section
variable {P : Program} {w : World} {A : AD} {K : PySem.W.Frag} {mg : Str → Option Value} {base : Heap}
theorem we_soc {b : Bx} {s : S} {k : AV → S → Prop} {ex : Addr → List (Str × D) → S → Prop} {E : L2.St → XK} {ta : TA} {wv ch : List Nat} (T : Txt P w A b.K mg) (hx : XOk b (fun c d σ H => E σ c d H) ex) (ow : Ord wv wv.length) (oc : Ord ch wv.length) (h1 : 1 ≤ wv.length) (h2 : wv.length ≤ 400)
    (h : WA b ta s fun xs s1 => xs = [.d (tupN wv), .d (tupN ch)] ∧ k (.d (socD A wv ch)) s1) : WE b (tMakeS A.C_Society (sp_Society_init A b.K) E ta) s k := by
  refine we_make hx fun F as σ H g Q q => h F as σ H g Q fun vs avs s' F' as' H' z => q vs avs s' F' as' H' ?_
  obtain ⟨rfl, hk⟩ := z
  have tys : ∀ l : List Nat, ∀ m, itemsD (tupN l) = some m → ∀ d ∈ m, tyd d := fun l m hl d hd => by
    have hl : some (natD l) = some m := hl
    rw [← Option.some.inj hl] at hd
    obtain ⟨i, _, rfl⟩ := List.mem_map.mp hd
    exact ⟨_, rfl⟩
  refine ⟨[tupN wv, tupN ch], rfl, ⟨tupN wv, tupN ch, rfl, rfl, ⟨_, rfl⟩, ⟨_, rfl⟩, tys wv, tys ch⟩, fun av cs' hp => ?_, fun C fs cs' he => ?_⟩
  · obtain ⟨rfl, x', y', w2, c2, he, h1, h2, h3, h4, h5, h6, rest, rfl⟩ := hp
    injection he with _ he
    injection he with h7 he
    injection he with h8 he
    have h7 := AV.d.inj h7
    have h8 := AV.d.inj h8
    subst h7 h8
    have h1 : some (natD wv) = some (natD w2) := h1
    have h2 : some (natD ch) = some (natD c2) := h2
    have h1 := natD_inj (Option.some.inj h1)
    have h2 := natD_inj (Option.some.inj h2)
    subst h1 h2
    exact ⟨rfl, _, rest, socF wv ch, rfl, rfl, hk⟩
  · exfalso
    obtain ⟨x', y', he1, he2⟩ := he
    injection he1 with _ he
    injection he with h1 he
    injection he with h2 he
    have h1 := AV.d.inj h1
    have h2 := AV.d.inj h2
    subst h1 h2
    have e1 : lenD (tupN wv) = wv.length := natD_length wv
    have e2 : isOrd (tupN wv) wv.length = true := ord_isOrd ow
    rcases he2 with ⟨_, h⟩ | ⟨_, _, h⟩
    · exact h ⟨by rw [e1]; omega, by rw [e1]; omega, by rw [e1]; exact e2⟩
    · rw [e1, show isOrd (tupN ch) wv.length = true from ord_isOrd oc] at h
      cases h
abbrev sp__law_many (A : AD) (K : PySem.W.Frag) : Sp := spC (α := Unit) K (fun a avs co => avs = [.c 0] ∧ co = .deck) (fun a d co' => co' = .deck ∧ d = .bl true)
theorem ok__law_many (T : Txt P w A K mg) : FnOk P w K mg base (L2.CX P w) 5 A.f__law_many A.fd__law_many ["deck"] (sp__law_many A K) := by
  refine okC T.d__law_many.F sc__law_many (fun a avs co ⟨h, _⟩ => by rw [h]; rfl) fun cdv Ar outer sh H E hr => ⟨_, (pss_cons (ps_set (i := 1) sc__law_many.nd rfl (Or.inl rfl) (pe_op op_add pe_int (show PE _ _ (tCallS (sp__law_take A K) _ _) from (pe_callS (ok__law_take T) (hr.mono (by decide)) rfl T.d__law_take.m T.d__law_take.F.kp T.d__law_take.b (fun σ => passAt (takes_of rfl rfl rfl rfl) σ) (pa_cons (pv 0) (pa_cons pe_int pa_nil))))))
      (pss_cons (ps_set (i := 2) sc__law_many.nd rfl (Or.inl rfl) (pe_op (show OpR _ (binaryOp .Add) (rCatA K) from op_catA) (pe_tup (pa_cons pe_int (pa_cons pe_int pa_nil))) (pe_tupRg rfl rfl T.z_tuple (prg_2 rfl T.z_range pe_int (pv 1)))))
      (pss_cons (ps_set (i := 3) sc__law_many.nd rfl (Or.inl rfl) (pe_op (show OpR _ (binaryOp .Add) (rCatA K) from op_catA) (pe_tupRg rfl rfl T.z_tuple (prg_2 rfl T.z_range pe_int (pv 1))) (pe_tup (pa_cons pe_int pa_nil))))
      (pss_cons (show PS _ _ (tTryA K 4 _ _ _) from ps_try_manyA (i := 4) rfl rfl sc__law_many.nd rfl rfl (takes_of rfl rfl rfl rfl) (fun W pn xe tk po => (pss_one (ps_expr (show PE _ _ (tCallS (sp_word_orders A K) _ _) from (pe_callS (ok_word_orders T) (hr.mono (by decide)) rfl T.d_word_orders.m T.d_word_orders.F.kp T.d_word_orders.b (fun σ => passAt tk σ) (pa_cons (show PE _ _ (tMakeS A.C_Society (sp_Society_init A K) _ _) from (pe_makeS T.k_Society (ok_Society_init T) (hr.mono (by decide)) rfl T.n_Society T.d_Society_init.b (fun σ => passAt tk σ) (pa_cons (pv 2) (pa_cons (pv 3) pa_nil)))) pa_nil)))))) (.cons ⟨rfl, by decide, .inl T.n_TooMany⟩ (fun a oe cls d pn hz hd => (pss_one (ps_ret (pe_cmpR (show OpR _ (compareOp .Eq) (rEqD K) from (op_eqD hr.units)) (pe_tup (pa_cons (pe_byE T.e_TooMany (by decide) hz hd (pv 4)) (pa_cons (pe_byE T.e_TooMany (by decide) hz hd (pv 4)) pa_nil))) (pe_tup (pa_cons pe_str (pa_cons pe_int pa_nil))) (nomark _))))) .nil))
      (pss_one (ps_ret pe_bl)))))), fun B F0 a0 a avs co kk hp hk => ?_⟩
  obtain ⟨rfl, rfl⟩ := hp
  have sl : (10000 : Nat) ≤ sizeLine := by decide
  show WS _ _ ⟨[.c 0, .un, .un, .un, .un], [.deck]⟩ _
  walk_at "kw"
  refine we_deck ?_
  walk_at "kw"
  refine ⟨rfl, 3, [.int (3 : Nat)], rfl, ⟨rfl, rfl, by decide⟩, fun d co' hd => ?_⟩
  obtain ⟨rfl, r, rfl, hr3⟩ := hd
  refine ⟨rfl, ?_⟩
  obtain ⟨n, hn, en⟩ : ∃ n, n = 7 + r ∧ (7 : Int) + (r : Int) = (n : Int) := ⟨7 + r, rfl, by omega⟩
  walk_at "kw"
  rw [en]
  have hn7 : 7 ≤ n ∧ n ≤ 9 := by omega
  have hmem : n ∈ [7, 8, 9] := by
    have : n = 7 ∨ n = 8 ∨ n = 9 := by omega
    rcases this with rfl | rfl | rfl <;> decide
  obtain ⟨g1, g2, g3, g4, g5⟩ := wM_ok n hmem
  have ow : Ord (wM n) (wM n).length := by rw [g3]; exact List.isPerm_iff.mp g1
  have oc : Ord (cM n) (wM n).length := by rw [g3]; exact List.isPerm_iff.mp g2
  have hln : (List.range' 2 (n - 2)).length = n - 2 := List.length_range'
  have hln1 : (List.range' 1 (n - 1)).length = n - 1 := List.length_range'
  walk_at "kw"
  refine we_tupRg2 ?_
  walk_at "kw"
  refine ⟨2, n, rfl, rfl, by omega, by omega, ?_⟩
  refine ro_catA (by show 2 + _ ≤ _; rw [List.length_map, hln]; omega) ?_
  show WG _ _ (.d (.tup (natD [1, 0] ++ natD (List.range' 2 (n - 2))))) _ _
  rw [← natD_app, ← g4]
  walk_at "kw"
  refine we_tupRg2 ?_
  walk_at "kw"
  refine ⟨1, n, rfl, rfl, by omega, by omega, ?_⟩
  walk_at "kw"
  refine ro_catA (by show _ + 1 ≤ _; rw [List.length_map, hln1]; omega) ?_
  show WG _ _ (.d (.tup (natD (List.range' 1 (n - 1)) ++ natD [0]))) _ _
  rw [← natD_app, ← g5]
  walk_at "kw"
  refine ws_tryA (Wx := fun _ _ _ => False) (fun _ _ _ _ _ _ _ _ h => h.elim) fun F1 W hW => ?_
  walk_at "kw"
  refine we_soc T hW ow oc (by omega) (by omega) ?_
  walk_at "kw"
  refine ⟨rfl, ?_⟩
  walk_at "kw"
  refine ⟨(wM n, cM n), ⟨rfl, ow, oc, (show (wM n).length ≤ 400 by omega), (show 1 ≤ (wM n).length by omega)⟩, fun d hd => ?_, fun C fs he => ?_⟩
  · exfalso
    obtain ⟨L, hcl, hL, rfl⟩ := hd
    have hcl : Closed (wM n) (cM n) (wM n).length L := hcl
    have T2 := ow.two oc
    rw [g3] at hcl T2
    have := hcl.many hn7 T2
    omega
  · obtain ⟨⟨rfl, rfl⟩, _⟩ := he
    refine ⟨true, T.e_TooMany.te, fun _ F2 a2 d2 xr => ?_, (fun z => nomatch z)⟩
    walk_at "kw"
    refine we_byE xr rfl ?_
    walk_at "kw"
    refine ⟨rfl, ?_⟩
    walk_at "kw"
    refine we_byE xr rfl ?_
    walk_at "kw"
    refine ⟨rfl, ?_⟩
    walk_at "kw"
    have lay : Lay 2 (.tup [.str "elements", .int 2001]) := .tup fun d hd => by
      rcases List.mem_cons.mp hd with rfl | hd
      · exact .str (by decide +kernel)
      · rw [List.mem_singleton.mp hd]
        exact .int _
    refine ro_eqD (d := .tup [.str "elements", .int 2001]) (e := .tup [.str "elements", .int 2001]) lay.cmp lay.cmp ?_
    rw [eqv_self lay]
    exact hk _ _ _ ⟨rfl, rfl⟩
end
end K71


namespace K71
open PySem PySem.Spec PyProof.Rows L2 KW KP
-- ### plain: what the law asks of
theorem step_mem {w c : List Nat} {n : Nat} {L : List (List Nat)} (h : Closed w c n L) (ow : Ord w n) (oc : Ord c n) {x : Nat} (hx : isLet x = true) : ∀ o ∈ L, o.map (fun p => stepS w c p x) ∈ L := by
  have T : Two w c n := by
    have e := ow.len
    subst e
    exact ow.two oc
  intro o ho
  unfold stepS
  by_cases h1 : x = 97
  · simp only [if_pos h1]
    exact (h.cl o ho).1
  · simp only [if_neg h1]
    by_cases h2 : x = 98
    · simp only [if_pos h2]
      exact (h.cl o ho).2
    · simp only [if_neg h2]
      by_cases h3 : x = 65
      · simp only [if_pos h3]
        refine h.back T (s := w) (b := invL w) (fun x hx => (h.cl x hx).1) T.iw (fun p hp => ?_) o ho
        obtain ⟨i, _, h5, h6, h7⟩ := ow.back hp
        rw [h7]
        refine ⟨h5, ?_⟩
        rw [List.getD_eq_getElem?_getD, h6]
        rfl
      · simp only [if_neg h3]
        refine h.back T (s := c) (b := invL c) (fun x hx => (h.cl x hx).2) T.ic (fun p hp => ?_) o ho
        obtain ⟨i, _, h5, h6, h7⟩ := oc.back hp
        rw [h7]
        refine ⟨h5, ?_⟩
        rw [List.getD_eq_getElem?_getD, h6]
        rfl
theorem word_mem {w c : List Nat} {n : Nat} {L : List (List Nat)} (h : Closed w c n L) (ow : Ord w n) (oc : Ord c n) : ∀ (z : List Nat), z.all isLet = true → ∀ o ∈ L, o.map (fun p => walkS w c p z) ∈ L
  | [], _, o, ho => by
    have : o.map (fun p => walkS w c p []) = o := List.map_id _
    rw [this]
    exact ho
  | x :: z, hz, o, ho => by
    rw [List.all_cons, Bool.and_eq_true] at hz
    have := word_mem h ow oc z hz.2 _ (step_mem h ow oc hz.1 o ho)
    rw [List.map_map] at this
    exact this
theorem parts_pos {w c : List Nat} (hn : 1 ≤ w.length) : 1 ≤ (parts w c).length := by
  unfold parts
  rw [List.length_map]
  refine List.length_pos_of_mem (a := 0) (List.mem_filter.mpr ⟨List.mem_range.mpr (by omega), isRep_iff.mpr fun x _ => Nat.zero_le x⟩)
theorem parts_one {w c : List Nat} (T : Two w c w.length) (hn : 1 ≤ w.length) (h : (parts w c).length = 1) : ∀ p < w.length, p ∈ reach w c 0 := by
  intro p hp
  obtain ⟨r, hr, rr⟩ := rep_ex T hp
  unfold parts at h
  rw [List.length_map] at h
  obtain ⟨a, ha⟩ := List.length_eq_one_iff.mp h
  have h0 : 0 ∈ (List.range w.length).filter (isRep w c) := List.mem_filter.mpr ⟨List.mem_range.mpr (by omega), isRep_iff.mpr fun x _ => Nat.zero_le x⟩
  have h1 : r ∈ (List.range w.length).filter (isRep w c) := List.mem_filter.mpr ⟨List.mem_range.mpr (reach_lt T hp r hr), rr⟩
  rw [ha] at h0 h1
  have e : r = 0 := (List.mem_singleton.mp h1).trans (List.mem_singleton.mp h0).symm
  subst e
  exact reach_symm T hp hr
-- ### seats of a ring
def prR (a b : Nat) : D := .tup [.int (a : Nat), .int (b : Nat)]
def seatsR (s k : Nat) : List D := (List.range k).map fun j => prR (j / s) (j % s)
theorem seatsR_len (s k : Nat) : (seatsR s k).length = k := by unfold seatsR; rw [List.length_map, List.length_range]
theorem at_div {s i p : Nat} (h : p < s) : (i * s + p) / s = i ∧ (i * s + p) % s = p := by
  have hs : 0 < s := by omega
  constructor
  · rw [Nat.mul_comm, Nat.mul_add_div hs, Nat.div_eq_of_lt h, Nat.add_zero]
  · rw [Nat.mul_comm, Nat.mul_add_mod, Nat.mod_eq_of_lt h]
theorem seatsR_step (s i : Nat) : seatsR s (i * s) ++ (List.range s).map (prR i) = seatsR s ((i + 1) * s) := by
  unfold seatsR
  rw [Nat.succ_mul, List.range_add, List.map_append, List.map_map]
  congr 1
  refine List.map_congr_left fun p hp => ?_
  have := at_div (i := i) (List.mem_range.mp hp)
  show prR i p = prR ((i * s + p) / s) ((i * s + p) % s)
  rw [this.1, this.2]
theorem prR_eqv (a b c d : Nat) : PyData.eqv (pyD (prR a b)) (pyD (prR c d)) = decide (a = c ∧ b = d) := by
  have := eqv_intsT [(a : Int), (b : Int)] [(c : Int), (d : Int)]
  refine Eq.trans this ?_
  by_cases h : a = c ∧ b = d
  · rw [decide_eq_true h, h.1, h.2]
    exact decide_eq_true rfl
  · rw [decide_eq_false h]
    refine decide_eq_false fun e => h ?_
    injection e with e1 e2
    injection e2 with e2 e3
    exact ⟨Int.ofNat.inj e1, Int.ofNat.inj e2⟩
theorem lay_prR {n : Nat} (a b : Nat) : Lay (n + 2) (prR a b) := .tup fun d hd => by
  rcases List.mem_cons.mp hd with rfl | hd
  · exact .int _
  · rw [List.mem_singleton.mp hd]
    exact .int _
theorem lay_seats (s k : Nat) : Lay 3 (.lst (seatsR s k)) := .lst fun d hd => by
  obtain ⟨j, _, rfl⟩ := List.mem_map.mp hd
  exact lay_prR _ _
theorem seat_lt {s m r p : Nat} (hr : r < m) (hp : p < s) : r * s + p < m * s := by
  have h : (r + 1) * s ≤ m * s := Nat.mul_le_mul_right s hr
  rw [Nat.succ_mul] at h
  omega
theorem seat_at {s m r p : Nat} (hr : r < m) (hp : p < s) : (seatsR s (m * s))[r * s + p]? = some (prR r p) := by
  unfold seatsR
  rw [List.getElem?_map, List.getElem?_range (seat_lt hr hp)]
  show some (prR ((r * s + p) / s) ((r * s + p) % s)) = _
  rw [(at_div hp).1, (at_div hp).2]
theorem seat_no {s k r p : Nat} (hp : p < s) (j : Nat) (z : D) (hj : j < r * s + p) (hz : (seatsR s k)[j]? = some z) : PyData.eqv (pyD z) (pyD (prR r p)) = false := by
  unfold seatsR at hz
  rw [List.getElem?_map] at hz
  obtain ⟨i, hi, rfl⟩ := Option.map_eq_some_iff.mp hz
  obtain ⟨hi1, hi2⟩ := List.getElem?_eq_some_iff.mp hi
  rw [List.getElem_range] at hi2
  subst hi2
  rw [prR_eqv]
  refine decide_eq_false fun ⟨h1, h2⟩ => ?_
  have := Nat.div_add_mod j s
  rw [h1, h2, Nat.mul_comm] at this
  omega
def stepR (f : Nat → Nat → Nat) : D → D
  | .tup [.int a, .int b] => .int (f a.toNat b.toNat : Nat)
  | _ => .non
theorem stepR_map (f : Nat → Nat → Nat) (s k : Nat) : (seatsR s k).map (stepR f) = natD ((List.range k).map fun j => f (j / s) (j % s)) := by
  unfold seatsR natD
  rw [List.map_map, List.map_map]
  rfl
theorem ring_ok {s m : Nat} (hs : 1 ≤ s ∧ s ≤ 3) (hm : 1 ≤ m ∧ m ≤ 3) : Ord (ringW s m) (ringW s m).length ∧ Ord (ringC s m) (ringW s m).length ∧ 1 ≤ (ringW s m).length ∧ (ringW s m).length ≤ 9 ∧ ∀ L, Made (ringW s m) (ringC s m) (ringW s m).length L → L.length ≤ 2000 := by
  have c3 : ∀ x, 1 ≤ x ∧ x ≤ 3 → x ∈ [1, 2, 3] := fun x hx => by
    have : x = 1 ∨ x = 2 ∨ x = 3 := by omega
    rcases this with rfl | rfl | rfl <;> decide
  obtain ⟨h1, h2, h3, h4, h5⟩ := ring_small s (c3 s hs) m (c3 m hm)
  have hl : (ringW s m).length = m * s := by unfold ringW; rw [List.length_map, List.length_range]
  rw [hl]
  refine ⟨List.isPerm_iff.mp h1, List.isPerm_iff.mp h2, Nat.mul_pos hm.1 hs.1, Nat.mul_le_mul hm.2 hs.2, fun L hL => ?_⟩
  have := hL.le_of h3 h4
  omega
/-- how many of them lead from the first place where -/
def goalsN (n : Nat) (M : List (List Nat)) : List Nat := (List.range n).map fun p => M.countP fun o => decide (o.getD 0 0 = p)
theorem goals_iff {w c : List Nat} {M L : List (List Nat)} (hM : Closed w c w.length M) (hL : Closed w c w.length L) (T : Two w c w.length) (hn : 1 ≤ w.length) (h1 : (parts w c).length = 1) : decide (L.length = w.length) = decide (goalsN w.length M = List.replicate w.length 1) := by
  have e : L.length = M.length := (hL.perm hM).length_eq
  have key := free_iff (L := M) (n := w.length) (fun o ho => by
    have r := hM.toMade.row T o ho
    rw [List.getD_eq_getElem?_getD, List.getElem?_eq_getElem (by rw [r.1]; omega)]
    exact r.2 _ (List.getElem_mem _)) (fun p hp => hM.leads T (by omega) p (parts_one T hn h1 p hp))
  rw [e]
  have g : (M.length = w.length) ↔ (goalsN w.length M = List.replicate w.length 1) := by
    rw [key]
    constructor
    · intro h
      refine List.eq_replicate_iff.mpr ⟨by unfold goalsN; rw [List.length_map, List.length_range], fun x hx => ?_⟩
      obtain ⟨p, hp, rfl⟩ := List.mem_map.mp hx
      exact h p (List.mem_range.mp hp)
    · intro h p hp
      have h2 := (List.eq_replicate_iff.mp h).2
      exact h2 _ (List.mem_map.mpr ⟨p, List.mem_range.mpr hp, rfl⟩)
  by_cases h : M.length = w.length
  · rw [decide_eq_true h, decide_eq_true (g.mp h)]
  · rw [decide_eq_false h, decide_eq_false fun z => h (g.mpr z)]
end K71


namespace K71
open PySem PySem.Spec PyProof.Rows L2 KW KP
theorem pl_orders {L : List (List Nat)} (h : ∀ o ∈ L, o.length ≤ 1000) (hl : L.length ≤ 2000) : PlOk 10 (.lst (L.map tupN)) := by
  refine .lst (fun d hd => ?_) (by rw [List.length_map]; omega)
  obtain ⟨o, ho, rfl⟩ := List.mem_map.mp hd
  exact pl_nat (n := 7) (Nat.le_trans (h o ho) (by decide))
def hdN : D → Nat
  | .tup (.int i :: _) => i.toNat
  | _ => 0
theorem hdN_tup (o : List Nat) : hdN (tupN o) = o.getD 0 0 := by
  cases o <;> rfl
theorem cnt_goal {M : List (List Nat)} (j : Nat) (f : D → D) : ((((srtN M).map tupN).filter fun d => decide (hdN d = j)).map f).length = M.countP fun o => decide (o.getD 0 0 = j) := by
  rw [List.length_map, List.filter_map, List.length_map, ← List.countP_eq_length_filter, ← (srtN_perm M).countP_eq]
  congr 1
  funext o
  show decide (hdN (tupN o) = j) = _
  rw [hdN_tup]
theorem rep_ones (n : Nat) : (List.replicate ((n : Nat) : Int).toNat [D.int 1]).flatten = natD (List.replicate n 1) := by
  rw [Int.toNat_natCast]
  induction n with
  | zero => rfl
  | succ n ih =>
    rw [List.replicate_succ, List.flatten_cons, ih]
    rfl
theorem eqv_nats (a b : List Nat) : PyData.eqv (pyD (.lst (natD a))) (pyD (.lst (natD b))) = decide (a = b) := by
  rw [natD_int, natD_int, eqv_intsL]
  by_cases h : a = b
  · rw [decide_eq_true h, h]
    exact decide_eq_true rfl
  · rw [decide_eq_false h]
    refine decide_eq_false fun e => h (natD_inj ?_)
    rw [natD_int, natD_int, e]
section
variable {P : Program} {w : World} {A : AD} {K : PySem.W.Frag} {mg : Str → Option Value} {base : Heap}
abbrev sp_law (A : AD) (K : PySem.W.Frag) : Sp := spF (α := List Int) K (fun ns ds => ds = [.lstS (ns.map .int)] ∧ ns.length ≤ 63) (fun _ r => r = .bl true) (fun _ _ _ => False)
theorem ok_law (T : Txt P w A K mg) : FnOk P w K mg base (L2.CX P w) 12 A.f_law A.fd_law ["script"] (sp_law A K) := by
  refine okF T.d_law.F sc_law (fun a ds ⟨h, _⟩ => by rw [h]; rfl) fun cdv Ar outer sh H E hr => ⟨_, (pss_cons (ps_set (i := 1) sc_law.nd rfl (Or.inl rfl) (show PE _ _ (tCallS (sp__law_deck A K) _ _) from (pe_callS (ok__law_deck T) (hr.mono (by decide)) rfl T.d__law_deck.m T.d__law_deck.F.kp T.d__law_deck.b (fun σ => passAt (takes_of rfl rfl rfl rfl) σ) (pa_cons (pv 0) (pa_cons pe_int (pa_cons pe_int pa_nil))))))
      (pss_cons (ps_set (i := 2) sc_law.nd rfl (Or.inr rfl) (show PE _ _ (tCallS (sp__law_orders A K) _ _) from (pe_callS (ok__law_orders T) (hr.mono (by decide)) rfl T.d__law_orders.m T.d__law_orders.F.kp T.d__law_orders.b (fun σ => passAt (takes_of rfl rfl rfl rfl) σ) (pa_cons (pv 1) (pa_cons pe_int pa_nil)))))
      (pss_cons (ps_if (pt_cmpR op_eq (show PE _ _ (tCallS (sp__law_take A K) _ _) from (pe_callS (ok__law_take T) (hr.mono (by decide)) rfl T.d__law_take.m T.d__law_take.F.kp T.d__law_take.b (fun σ => passAt (takes_of rfl rfl rfl rfl) σ) (pa_cons (pv 1) (pa_cons pe_int pa_nil)))) pe_int (nomark _)) (pss_cons (ps_set (i := 3) sc_law.nd rfl (Or.inr rfl) (pe_op op_add pe_int (show PE _ _ (tCallS (sp__law_take A K) _ _) from (pe_callS (ok__law_take T) (hr.mono (by decide)) rfl T.d__law_take.m T.d__law_take.F.kp T.d__law_take.b (fun σ => passAt (takes_of rfl rfl rfl rfl) σ) (pa_cons (pv 1) (pa_cons pe_int pa_nil))))))
      (pss_cons (ps_set (i := 4) sc_law.nd rfl (Or.inr rfl) (pe_op op_add pe_int (show PE _ _ (tCallS (sp__law_take A K) _ _) from (pe_callS (ok__law_take T) (hr.mono (by decide)) rfl T.d__law_take.m T.d__law_take.F.kp T.d__law_take.b (fun σ => passAt (takes_of rfl rfl rfl rfl) σ) (pa_cons (pv 1) (pa_cons pe_int pa_nil))))))
      (pss_cons (ps_set (i := 5) sc_law.nd rfl (Or.inr rfl) (pe_lst pa_nil))
      (pss_cons (ps_for (passes_of rfl) rfl (pi_range1 (by rfl) T.z_range (pa_cons (pv 4) pa_nil)) (pg_name (i := 6) sc_law.nd rfl (Or.inr rfl)) (pss_one (ps_expr (show PE _ _ (tBM K _ _ _ _) from (pe_bm PySem.F.plainAttrs_list PySem.F.slot_list_extend PySem.F.type_list_extend mt_extend (pv 5) (pa_cons (pe_lc (own := [("place", 13)]) (g := (gName 13)) (by rfl) sc_law.nd (pi_range1 (by rfl) T.z_range (pa_cons (pv 3) pa_nil)) (blkOk_by (own := [("place", 13)]) (N := N_law) (sc := defScope s_law) (by decide +kernel)) (fun _ _ _ _ _ => (pg_name (i := 13) sc_law.nd rfl (by first | exact Or.inl rfl | exact Or.inr rfl))) (fun _ _ _ _ _ => pts_nil) (fun _ _ _ _ _ => (pe_tup (pa_cons (pv 6) (pa_cons (pv 13) pa_nil))))) pa_nil))))))
      (pss_cons (ps_set (i := 7) sc_law.nd rfl (Or.inl rfl) (show PE _ _ (tThen _ (kTup K)) from (pe_tupleOf rfl T.z_tuple (pe_lc (own := [("row", 6), ("place", 13)]) (g := (gTup K 2 (gCons (gName 6) (gCons (gName 13) gNil)))) (by rfl) sc_law.nd (show PI _ _ _ (iList K _) from (pi_list (pv 5))) (blkOk_by (own := [("row", 6), ("place", 13)]) (N := N_law) (sc := defScope s_law) (by decide +kernel)) (fun _ _ _ _ _ => (show PG _ _ (gTup K 2 _) from pg_tup rfl (pgs_cons (pg_name (i := 6) sc_law.nd rfl (by first | exact Or.inl rfl | exact Or.inr rfl)) (pgs_cons (pg_name (i := 13) sc_law.nd rfl (by first | exact Or.inl rfl | exact Or.inr rfl)) pgs_nil)))) (fun _ _ _ _ _ => pts_nil) (fun _ _ _ _ _ => (show PE _ _ (tBM K _ _ _ _) from (pe_bm PySem.F.plainAttrs_list PySem.F.slot_list_index PySem.F.type_list_index (show MtR _ "list.index" (rIndexD K) from (mt_indexD (hu65 hr))) (pv 5) (pa_cons (pe_tup (pa_cons (pv 6) (pa_cons (pe_op op_modN (pe_op op_add (pv 13) pe_int) (pv 3)) pa_nil))) pa_nil))))))))
      (pss_one (ps_set (i := 2) sc_law.nd rfl (Or.inr rfl) (pe_tup (pa_cons (pv 7) (pa_cons (show PE _ _ (tThen _ (kTup K)) from (pe_tupleOf rfl T.z_tuple (pe_lc (own := [("row", 6), ("place", 13)]) (g := (gTup K 2 (gCons (gName 6) (gCons (gName 13) gNil)))) (by rfl) sc_law.nd (show PI _ _ _ (iList K _) from (pi_list (pv 5))) (blkOk_by (own := [("row", 6), ("place", 13)]) (N := N_law) (sc := defScope s_law) (by decide +kernel)) (fun _ _ _ _ _ => (show PG _ _ (gTup K 2 _) from pg_tup rfl (pgs_cons (pg_name (i := 6) sc_law.nd rfl (by first | exact Or.inl rfl | exact Or.inr rfl)) (pgs_cons (pg_name (i := 13) sc_law.nd rfl (by first | exact Or.inl rfl | exact Or.inr rfl)) pgs_nil)))) (fun _ _ _ _ _ => pts_nil) (fun _ _ _ _ _ => (show PE _ _ (tBM K _ _ _ _) from (pe_bm PySem.F.plainAttrs_list PySem.F.slot_list_index PySem.F.type_list_index (show MtR _ "list.index" (rIndexD K) from (mt_indexD (hu65 hr))) (pv 5) (pa_cons (pe_tup (pa_cons (pe_op op_modN (pe_op op_add (pv 6) pe_int) (pv 4)) (pa_cons (pv 13) pa_nil))) pa_nil))))))) pa_nil)))))))))) pss_nil)
      (pss_cons (ps_set (i := 8) sc_law.nd rfl (Or.inl rfl) (show PE _ _ (tMakeS A.C_Society (sp_Society_init A K) _ _) from (pe_makeS T.k_Society (ok_Society_init T) (hr.mono (by decide)) rfl T.n_Society T.d_Society_init.b (fun σ => passAt (takes_of rfl rfl rfl rfl) σ) (pa_cons (pe_ix (show IxR _ (rIxT K) from ix_tup) (pv 2) pe_int (fun _ _ => rfl)) (pa_cons (pe_ix (show IxR _ (rIxT K) from ix_tup) (pv 2) pe_int (fun _ _ => rfl)) pa_nil)))))
      (pss_cons (ps_set (i := 9) sc_law.nd rfl (Or.inr rfl) (show PE _ _ (tCallS (sp__law_made A K) _ _) from (pe_callS (ok__law_made T) (hr.mono (by decide)) rfl T.d__law_made.m T.d__law_made.F.kp T.d__law_made.b (fun σ => passAt (takes_of rfl rfl rfl rfl) σ) (pa_cons (pv 2) pa_nil))))
      (pss_cons (ps_if (pt_cmpR (show OpR _ (compareOp .NotEq) (rNeD K) from (op_neD hr.units)) (show PE _ _ (tCallS (sp__law_plain A K) _ _) from (pe_callS (ok__law_plain T) (hr.mono (by decide)) rfl T.d__law_plain.m T.d__law_plain.F.kp T.d__law_plain.b (fun σ => passAt (takes_of rfl rfl rfl rfl) σ) (pa_cons (show PE _ _ (tCallS (sp_word_orders A K) _ _) from (pe_callS (ok_word_orders T) (hr.mono (by decide)) rfl T.d_word_orders.m T.d_word_orders.F.kp T.d_word_orders.b (fun σ => passAt (takes_of rfl rfl rfl rfl) σ) (pa_cons (pv 8) pa_nil))) pa_nil))) (show PE _ _ (tCallS (sp__law_plain A K) _ _) from (pe_callS (ok__law_plain T) (hr.mono (by decide)) rfl T.d__law_plain.m T.d__law_plain.F.kp T.d__law_plain.b (fun σ => passAt (takes_of rfl rfl rfl rfl) σ) (pa_cons (pv 9) pa_nil))) (nomark _)) (pss_one (ps_ret pe_bl)) pss_nil)
      (pss_cons (ps_set (i := 10) sc_law.nd rfl (Or.inr rfl) (show PE _ _ (tCallS (sp__law_letters A K) _ _) from (pe_callS (ok__law_letters T) (hr.mono (by decide)) rfl T.d__law_letters.m T.d__law_letters.F.kp T.d__law_letters.b (fun σ => passAt (takes_of rfl rfl rfl rfl) σ) (pa_cons (pv 1) (pa_cons pe_int pa_nil)))))
      (pss_cons (ps_if (pt_cmpR (show OpR _ (compareOp .NotIn) (rNotInD K) from (op_notInD (hu65 hr))) (show PE _ _ (tThen _ (kTup K)) from (pe_tupleOf rfl T.z_tuple (pe_lc (own := [("place", 13)]) (g := (gName 13)) (by rfl) sc_law.nd (pi_range1 (by rfl) T.z_range (pa_cons (show PE _ _ (tFld K _ _) from (pe_fld (pv 8) (by rfl))) pa_nil)) (blkOk_by (own := [("place", 13)]) (N := N_law) (sc := defScope s_law) (by decide +kernel)) (fun _ _ _ _ _ => (pg_name (i := 13) sc_law.nd rfl (by first | exact Or.inl rfl | exact Or.inr rfl))) (fun _ _ _ _ _ => pts_nil) (fun _ _ _ _ _ => (show PE _ _ (tCall (sp__law_led A K) [] E0 _) from (pe_call (ok__law_led T) (hr.mono (by decide)) rfl T.d__law_led.m T.d__law_led.F.kp T.d__law_led.b .nil passL (pa_cons (pv 2) (pa_cons (pv 13) (pa_cons (pv 10) pa_nil))))))))) (pv 9) (by rfl)) (pss_one (ps_ret pe_bl)) pss_nil)
      (pss_cons (ps_if (pt_not (pt_val (show PE _ _ (tCallS (sp__law_many A K) _ _) from (pe_callS (ok__law_many T) (hr.mono (by decide)) rfl T.d__law_many.m T.d__law_many.F.kp T.d__law_many.b (fun σ => passAt (takes_of rfl rfl rfl rfl) σ) (pa_cons (pv 1) pa_nil))))) (pss_one (ps_ret pe_bl)) pss_nil)
      (pss_cons (ps_if (pt_cmpR op_gt (pe_callB (id := "len") (show CallR _ (.builtin "len") ((fun xs H Q => ∃ x n, xs = [x] ∧ LenV K x H n ∧ Q (.int n) H)) from call_len) (by rfl) T.z_len (by decide +kernel) (pa_cons (show PE _ _ (tCallS (sp__law_lots A K) _ _) from (pe_callS (ok__law_lots T) (hr.mono (by decide)) rfl T.d__law_lots.m T.d__law_lots.F.kp T.d__law_lots.b (fun σ => passAt (takes_of rfl rfl rfl rfl) σ) (pa_cons (pv 2) pa_nil))) pa_nil)) pe_int (nomark _)) (pss_cons (show PS _ _ (tTryA K 11 _ _ _) from ps_try_manyA (i := 11) rfl rfl sc_law.nd rfl rfl (takes_of rfl rfl rfl rfl) (fun W pn xe tk po => (pss_one (ps_expr (show PE _ _ (tCallS (sp_is_free A K) _ _) from (pe_callS (ok_is_free T) (hr.mono (by decide)) rfl T.d_is_free.m T.d_is_free.F.kp T.d_is_free.b (fun σ => passAt tk σ) (pa_cons (pv 8) pa_nil)))))) (.cons ⟨rfl, by decide, .inl T.n_InvalidSociety⟩ (fun a oe cls d pn hz hd => (pss_one (ps_ret (pe_cmpR op_eq (pe_byE T.e_InvalidSociety (by decide) hz hd (pv 11)) pe_str (nomark _))))) .nil))
      (pss_one (ps_ret pe_bl))) pss_nil)
      (pss_cons (ps_setLc (i := 12) (own := [("place", 13)]) (g := (gName 13)) (by rfl) sc_law.nd rfl rfl (sw_true rfl rfl rfl (by decide +kernel)) (pi_range1 (by rfl) T.z_range (pa_cons (show PE _ _ (tFld K _ _) from (pe_fld (pv 8) (by rfl))) pa_nil)) (blkOk_by (own := [("place", 13)]) (N := N_law) (sc := defScope s_law) (by decide +kernel)) (fun _ _ _ _ _ => (pg_name (i := 13) sc_law.nd rfl (by first | exact Or.inl rfl | exact Or.inr rfl))) (fun _ _ _ _ _ => pts_nil) (fun _ _ _ _ _ => (pe_callB (id := "len") (show CallR _ (.builtin "len") ((fun xs H Q => ∃ x n, xs = [x] ∧ LenV K x H n ∧ Q (.int n) H)) from call_len) (by rfl) T.z_len (by decide +kernel) (pa_cons (pe_lc (own := [("order", 14)]) (g := (gName 14)) (by rfl) sc_law.nd (show PI _ _ _ (iList K _) from (pi_list (pv 9))) (blkOk_by (own := [("order", 14)]) (N := N_law) (sc := _) (by with_unfolding_all rfl)) (fun _ _ _ _ _ => (pg_name (i := 14) sc_law.nd rfl (by first | exact Or.inl rfl | exact Or.inr rfl))) (fun _ _ _ _ _ => (pts_one (pt_cmpR op_eq (pe_ix (show IxR _ (rIxT K) from ix_tup) (pv 14) pe_int (fun _ _ => rfl)) (pv 13) (nomark _)))) (fun _ _ _ _ _ => pe_int)) pa_nil))))
      (pss_one (ps_ret (pe_cmpR op_eq (show PE _ _ (tCallS (sp_is_free A K) _ _) from (pe_callS (ok_is_free T) (hr.mono (by decide)) rfl T.d_is_free.m T.d_is_free.F.kp T.d_is_free.b (fun σ => passAt (takes_of rfl rfl rfl rfl) σ) (pa_cons (pv 8) pa_nil))) (pe_cmpR (show OpR _ (compareOp .Eq) (rEqD K) from (op_eqD hr.units)) (pv 12) (pe_op op_rep (pe_lst (pa_cons pe_int pa_nil)) (show PE _ _ (tFld K _ _) from (pe_fld (pv 8) (by rfl)))) (nomark _)) (nomark _))))))))))))))), fun B F0 a0 ns ds kk ex hx hp hk hex => ?_⟩
  obtain ⟨rfl, hns⟩ := hp
  have hk : ∀ cs', kk (.d (.bl true)) cs' := fun cs' => hk _ _ rfl
  have sl : (10000 : Nat) ≤ sizeLine := by decide
  show WS _ _ ⟨[.d (.lstS (ns.map .int)), .un, .un, .un, .un, .un, .un, .un, .un, .un, .un, .un, .un, .un, .un], []⟩ _
  -- the deck
  refine ws_seq (ws_asg (we_callG hx ?_))
  walk_at "kw"
  refine ⟨⟨ns, 60, 14, rfl, rfl, by omega, by decide, by decide, by decide⟩, fun av cs' ho => ?_, fun C fs cs' he => he.elim⟩
  obtain ⟨m, rfl, hm⟩ := ho
  refine .inr ⟨m, .deck, rfl, hm, trivial, trivial, ?_⟩
  refine wg_name ?_
  -- the pair
  refine ws_seq (ws_asg (we_deck ?_))
  walk_at "kw"
  refine ⟨rfl, 5, [.int (5 : Nat)], rfl, ⟨rfl, rfl, by decide, by decide⟩, fun d co' hd => ?_⟩
  obtain ⟨rfl, n, wv, ch, rfl, hn0, hn8, ow, oc⟩ := hd
  refine ⟨rfl, ?_⟩
  have hwl : wv.length = n := ow.len
  subst hwl
  have T2 := ow.two oc
  refine wg_name ?_
  refine ws_seq (ws_mono (fun st => ∃ (wv ch : List Nat) (a b c d e : AV) (rest : List CO), st = ⟨[.d (.lstS (ns.map .int)), .c 0, .d (.tup [.tup (natD wv), .tup (natD ch)]), a, b, c, d, e, .un, .un, .un, .un, .un, .un, .un], .deck :: rest⟩ ∧ (∀ m, ∀ co ∈ CO.deck :: rest, noRef m co) ∧ Ord wv wv.length ∧ Ord ch wv.length ∧ 1 ≤ wv.length ∧ wv.length ≤ 9 ∧ ∀ L, Made wv ch wv.length L → L.length ≤ 2000) ?_ ?_)
  · walk_at "kw"
    refine we_deck ?_
    walk_at "kw"
    refine ⟨rfl, 3, [.int (3 : Nat)], rfl, ⟨rfl, rfl, by decide⟩, fun d co' hd => ?_⟩
    obtain ⟨rfl, r0, rfl, _⟩ := hd
    refine ⟨rfl, ?_⟩
    walk_at "kw"
    refine ⟨fun _ => ?_, fun _ => ?_⟩
    · -- a ring
      walk_at "kw"
      refine we_deck ?_
      walk_at "kw"
      refine ⟨rfl, 3, [.int (3 : Nat)], rfl, ⟨rfl, rfl, by decide⟩, fun d co' hd => ?_⟩
      obtain ⟨rfl, r1, rfl, hr1⟩ := hd
      refine ⟨rfl, ?_⟩
      obtain ⟨n, hn, en⟩ : ∃ n, n = 1 + r1 ∧ (1 : Int) + (r1 : Int) = (n : Int) := ⟨1 + r1, rfl, by omega⟩
      walk_at "kw"
      rw [en]
      have hn3 : 1 ≤ n ∧ n ≤ 3 := by omega
      refine we_deck ?_
      walk_at "kw"
      refine ⟨rfl, 3, [.int (3 : Nat)], rfl, ⟨rfl, rfl, by decide⟩, fun d co' hd => ?_⟩
      obtain ⟨rfl, r2, rfl, hr2⟩ := hd
      refine ⟨rfl, ?_⟩
      obtain ⟨m, hm0, em⟩ : ∃ m, m = 1 + r2 ∧ (1 : Int) + (r2 : Int) = (m : Int) := ⟨1 + r2, rfl, by omega⟩
      walk_at "kw"
      rw [em]
      have hm3 : 1 ≤ m ∧ m ≤ 3 := by omega
      have hmn : m * n ≤ 9 := Nat.mul_le_mul hm3.2 hn3.2
      walk_at "kw"
      refine we_lstc ?_
      walk_at "kw"
      refine ws_for (wi_rng1 ?_)
      walk_at "kw"
      refine ⟨_, rfl, by omega, by omega, fun i st => ∃ y6, st = ⟨[.d (.lstS (ns.map .int)), .c 0, .d (.tup [.tup (natD wv), .tup (natD ch)]), .d (.int (n : Nat)), .d (.int (m : Nat)), .c 1, y6, .un, .un, .un, .un, .un, .un, .un, .un], [.deck, .lst (seatsR n (i * n))]⟩, ⟨_, by rw [Nat.zero_mul]; rfl⟩, fun i d s2 hd hi => ?_, fun s2 hi => ?_⟩
      · obtain ⟨y6, rfl⟩ := hi
        obtain ⟨him, rfl⟩ := rgD_get hd
        rw [Int.toNat_natCast] at him
        rw [Int.zero_add]
        have hin : (i + 1) * n ≤ m * n := Nat.mul_le_mul_right n him
        have hin1 : (i + 1) * n = i * n + n := Nat.succ_mul i n
        walk_at "kw"
        refine we_bm ?_
        walk_at "kw"
        refine ⟨ty_lc (n := 1) rfl, ?_⟩
        walk_at "kw"
        refine we_lcmap (own_name (by decide)) (wi_rng1 ?_)
        walk_at "kw"
        refine ⟨_, rfl, by omega, by omega, by rw [rgD_length, Int.toNat_natCast]; omega, fun co hco => ?_, fun d => .tup [.int (i : Nat), d], fun j d acc hd => ?_, ?_⟩
        · rcases List.mem_cons.mp hco with rfl | hco
          · trivial
          · rw [List.mem_singleton.mp hco]; trivial
        · obtain ⟨hjn, rfl⟩ := rgD_get hd
          rw [Int.zero_add]
          walk_at "kw"
          exact ⟨rfl, rfl⟩
        have e1 : (rgD 0 (n : Int).toNat).map (fun d => D.tup [.int (i : Nat), d]) = (List.range n).map (prR i) := by
          unfold rgD
          rw [Int.toNat_natCast, List.map_map]
          refine List.map_congr_left fun p _ => ?_
          show D.tup [.int (i : Nat), .int (0 + (p : Nat))] = _
          rw [Int.zero_add]
          rfl
        rw [e1]
        walk_at "kw"
        refine rm_extend (n := 1) (ds := seatsR n (i * n)) (es := (List.range n).map (prR i)) ?_ ?_ ?_
        · rfl
        · rw [seatsR_len, List.length_map, List.length_range]; omega
        refine ⟨.d (.int (i : Nat)), ?_⟩
        rw [← seatsR_step]
        rfl
      · obtain ⟨y6, rfl⟩ := hi
        rw [rgD_length, Int.toNat_natCast]
        refine ws_fr 1 rfl rfl ?_
        show WS _ _ ⟨[_, _, _, _, _, .d (.lst (seatsR n (m * n))), _, _, _, _, _, _, _, _, _], [.deck, .dead]⟩ _
        have nr : ∀ m, ∀ co ∈ [CO.deck, .dead], noRef m co := fun m co hco => by
          rcases List.mem_cons.mp hco with rfl | hco
          · trivial
          · rw [List.mem_singleton.mp hco]; trivial
        have fm : ∀ a b : Nat, 1 ≤ b → Int.fmod ((a : Int) + 1) (b : Int) = (((a + 1) % b : Nat) : Int) := fun a b hb => by
          rw [Int.fmod_eq_emod_of_nonneg _ (by omega), Int.natCast_emod]
          rfl
        walk_at "kw"
        refine we_thenTupD ?_
        refine we_lcmap (own_two (by decide) (by decide)) (wi_list ?_)
        walk_at "kw"
        refine ⟨_, rfl, by rw [seatsR_len]; omega, nr _, stepR (fun a b => a * n + (b + 1) % n), fun j d acc hd => ?_, ?_⟩
        · unfold seatsR at hd
          rw [List.getElem?_map] at hd
          obtain ⟨q, hq, rfl⟩ := Option.map_eq_some_iff.mp hd
          have hqm := List.mem_range.mp (List.mem_of_getElem? hq)
          have h1 : q / n < m := (Nat.div_lt_iff_lt_mul (by omega)).mpr hqm
          have h2 : q % n < n := Nat.mod_lt _ (by omega)
          show WG _ _ (.d (.tup [.int (q / n : Nat), .int (q % n : Nat)])) _ _
          generalize q / n = qa at h1 ⊢
          generalize q % n = qb at h2 ⊢
          walk_at "kw"
          refine we_bm ?_
          walk_at "kw"
          refine ⟨ty_l, ?_⟩
          walk_at "kw"
          refine ro_iC (by omega) ?_
          rw [fm qb n (by omega)]
          walk_at "kw"
          have h3 : (qb + 1) % n < n := Nat.mod_lt _ (by omega)
          refine rm_indexD (d := prR qa ((qb + 1) % n)) (j := qa * n + (qb + 1) % n) (z := prR qa ((qb + 1) % n)) (lay_seats _ _).cmp (lay_prR (n := 1) _ _).cmp (seat_at h1 h3) (by rw [prR_eqv]; exact decide_eq_true ⟨rfl, rfl⟩) (fun j z hj hz => seat_no h3 j z hj hz) ⟨rfl, rfl⟩
        rw [stepR_map]
        refine ⟨_, _, rfl, .inl rfl, ?_⟩
        show WG _ _ (.d (.tup (natD (ringW n m)))) _ _
        walk_at "kw"
        refine we_thenTupD ?_
        refine we_lcmap (own_two (by decide) (by decide)) (wi_list ?_)
        walk_at "kw"
        refine ⟨_, rfl, by rw [seatsR_len]; omega, nr _, stepR (fun a b => ((a + 1) % m) * n + b), fun j d acc hd => ?_, ?_⟩
        · unfold seatsR at hd
          rw [List.getElem?_map] at hd
          obtain ⟨q, hq, rfl⟩ := Option.map_eq_some_iff.mp hd
          have hqm := List.mem_range.mp (List.mem_of_getElem? hq)
          have h1 : q / n < m := (Nat.div_lt_iff_lt_mul (by omega)).mpr hqm
          have h2 : q % n < n := Nat.mod_lt _ (by omega)
          show WG _ _ (.d (.tup [.int (q / n : Nat), .int (q % n : Nat)])) _ _
          generalize q / n = qa at h1 ⊢
          generalize q % n = qb at h2 ⊢
          walk_at "kw"
          refine we_bm ?_
          walk_at "kw"
          refine ⟨ty_l, ?_⟩
          walk_at "kw"
          refine ro_iC (by omega) ?_
          rw [fm qa m (by omega)]
          walk_at "kw"
          have h3 : (qa + 1) % m < m := Nat.mod_lt _ (by omega)
          refine rm_indexD (d := prR ((qa + 1) % m) qb) (j := ((qa + 1) % m) * n + qb) (z := prR ((qa + 1) % m) qb) (lay_seats _ _).cmp (lay_prR (n := 1) _ _).cmp (seat_at h3 h2) (by rw [prR_eqv]; exact decide_eq_true ⟨rfl, rfl⟩) (fun j z hj hz => seat_no h2 j z hj hz) ⟨rfl, rfl⟩
        rw [stepR_map]
        refine ⟨_, _, rfl, .inl rfl, ?_⟩
        walk_at "kw"
        obtain ⟨k1, k2, k3, k4, k5⟩ := ring_ok hn3 hm3
        exact ⟨ringW n m, ringC n m, _, _, _, _, _, [.dead], rfl, nr, k1, k2, k3, k4, k5⟩
    · refine ws_next ⟨wv, ch, _, _, _, _, _, [], rfl, fun m co hco => ?_, ow, oc, by omega, by omega, fun L hL => ?_⟩
      · rw [List.mem_singleton.mp hco]; trivial
      · have := hL.few T2 hn8
        omega
  clear ow oc T2 hn0 hn8 wv ch
  rintro st ⟨wv, ch, y3, y4, y5, y6, y7, rest, rfl, nr, ow, oc, h1, h9, hM⟩
  have T2 := ow.two oc
  walk_at "kw"
  refine we_soc T hx ow oc h1 (by omega) ?_
  walk_at "kw"
  refine ⟨rfl, ?_⟩
  walk_at "kw"
  -- the elements that are due
  refine ⟨(wv, ch), ⟨rfl, ow, oc, (show wv.length ≤ 60 by omega), h1, hM⟩, fun d hd => ?_⟩
  obtain ⟨M, hMc, rfl⟩ := hd
  have hMc : Closed wv ch wv.length M := hMc
  have hMl := hM M hMc.toMade
  have rowM : ∀ o ∈ srtN M, RowN wv.length o := fun o ho => hMc.toMade.row T2 o ((srtN_perm M).mem_iff.mp ho)
  have pl : PlOk 10 (.lst ((srtN M).map tupN)) := pl_orders (fun o ho => by rw [(rowM o ho).1]; omega) (by rw [(srtN_perm M).length_eq]; exact hMl)
  have layM : Lay 3 (.lst ((srtN M).map tupN)) := .lst fun d hd => by
    obtain ⟨o, _, rfl⟩ := List.mem_map.mp hd
    exact lay_tupN o
  walk_at "kw"
  refine ⟨(wv, ch), ⟨rfl, ow, oc, (show wv.length ≤ 400 by omega), h1⟩, fun d hd => ?_, fun C fs he => ?_⟩
  rotate_left
  · exfalso
    obtain ⟨_, L, hL, h⟩ := he
    have := hM L hL
    omega
  obtain ⟨L, hLc, hLl, rfl⟩ := hd
  rw [srtN_eq (hLc.perm hMc)]
  walk_at "kw"
  refine ⟨.lst ((srtN M).map tupN), ⟨rfl, pl⟩, fun d hd => ?_⟩
  subst hd
  walk_at "kw"
  refine ⟨.lst ((srtN M).map tupN), ⟨rfl, pl⟩, fun d hd => ?_⟩
  subst hd
  refine ro_neD (lay_pl pl).cmp (lay_pl pl).cmp ?_
  rw [eqv_self (lay_pl pl)]
  walk_at "kw"
  -- a word
  refine we_deck ?_
  walk_at "kw"
  refine ⟨rfl, 8, [.int (8 : Nat)], rfl, ⟨rfl, rfl, by decide⟩, fun d co' hd => ?_⟩
  obtain ⟨rfl, z, rfl, hz1, hz2⟩ := hd
  refine ⟨rfl, ?_⟩
  have rgn : rgD 0 (wv.length : Int).toNat = natD (List.range wv.length) := by
    unfold rgD natD
    rw [Int.toNat_natCast]
    exact List.map_congr_left fun i _ => by rw [Int.zero_add]
  walk_at "kw"
  refine we_thenTupD ?_
  refine we_lcmap (own_name (by decide)) (wi_rng1 ?_)
  walk_at "kw"
  refine ⟨_, rfl, by omega, by omega, by rw [rgD_length, Int.toNat_natCast]; omega, nr _, fun d => .int (walkS wv ch (intD d).toNat z.cps.toList : Nat), fun j d acc hd => ?_, ?_⟩
  · obtain ⟨hjn, rfl⟩ := rgD_get hd
    rw [Int.toNat_natCast] at hjn
    rw [Int.zero_add]
    walk_at "kw"
    refine ⟨⟨wv, ch, j, z⟩, ⟨rfl, ow, oc, hjn, (show wv.length ≤ 1000 by omega), hz2⟩, fun d hd => ?_⟩
    subst hd
    exact ⟨rfl, rfl⟩
  rw [rgn, natD_map _ (fun p => walkS wv ch p z.cps.toList) _ (fun x _ => rfl)]
  refine ⟨_, _, rfl, .inl rfl, ?_⟩
  walk_at "kw"
  have hin : (List.range wv.length).map (fun p => walkS wv ch p z.cps.toList) ∈ srtN M := (srtN_perm M).mem_iff.mpr (word_mem hMc ow oc _ hz2 _ hMc.id)
  refine ro_notInD (d := tupN ((List.range wv.length).map fun p => walkS wv ch p z.cps.toList)) layM.cmp (lay_tupN (n := 0) _).cmp ?_
  rw [show ((srtN M).map tupN).any (fun z_1 => PyData.eqv (pyD z_1) (pyD (tupN ((List.range wv.length).map fun p => walkS wv ch p z.cps.toList)))) = true from List.any_eq_true.mpr ⟨_, List.mem_map.mpr ⟨_, hin, rfl⟩, eqv_self (lay_tupN (n := 0) _)⟩]
  walk_at "kw"
  -- too many
  refine we_deck ?_
  walk_at "kw"
  refine ⟨rfl, (), [], rfl, ⟨rfl, rfl⟩, fun d co' hd => ?_⟩
  obtain ⟨rfl, rfl⟩ := hd
  refine ⟨rfl, ?_⟩
  walk_at "kw"
  -- whole or not
  refine ⟨(wv, ch), ⟨rfl, ow, oc, (show wv.length ≤ 60 by omega)⟩, fun d hd => ?_⟩
  have hd : d = .lst ((parts wv ch).map tupN) := hd
  subst hd
  walk_at "kw"
  refine rc_lenLT (.inl rfl) ?_
  rw [List.length_map]
  walk_at "kw"
  refine ⟨fun h => ?_, fun h => ?_⟩
  · have h : 1 < (parts wv ch).length := by
      have := of_decide_eq_true h
      omega
    walk_at "kw"
    refine ws_tryA (Wx := fun _ _ _ => False) (fun _ _ _ _ _ _ _ _ h => h.elim) fun F1 W hW => ?_
    walk_at "kw"
    refine ⟨(wv, ch), ⟨rfl, ow, oc, (show wv.length ≤ 400 by omega), h1, hM⟩, fun d hd => ?_, fun C fs he => ?_⟩
    · exfalso
      obtain ⟨_, _, h2, _⟩ := hd
      have h2 : (parts wv ch).length = 1 := h2
      omega
    · obtain ⟨⟨rfl, rfl⟩, _⟩ := he
      refine ⟨true, T.e_InvalidSociety.te, fun _ F2 a2 d2 xr => ?_, (fun z => nomatch z)⟩
      walk_at "kw"
      refine we_byE xr rfl ?_
      walk_at "kw"
      refine ⟨rfl, ?_⟩
      walk_at "kw"
      exact hk _
  · have h : (parts wv ch).length ≤ 1 := by
      have := of_decide_eq_false h
      omega
    have hp := parts_pos (w := wv) (c := ch) h1
    have hone : (parts wv ch).length = 1 := by omega
    walk_at "kw"
    refine we_lcmap (own_name (by decide)) (wi_rng1 ?_)
    walk_at "kw"
    refine ⟨_, rfl, by omega, by omega, by rw [rgD_length, Int.toNat_natCast]; omega, nr _, fun d => .int (M.countP (fun o => decide (o.getD 0 0 = (intD d).toNat)) : Nat), fun j d acc hd => ?_, ?_⟩
    · obtain ⟨hjn, rfl⟩ := rgD_get hd
      rw [Int.toNat_natCast] at hjn
      rw [Int.zero_add]
      walk_at "kw"
      refine we_lcfil (own_name (by decide)) (wi_list ?_)
      walk_at "kw"
      refine ⟨_, rfl, by rw [List.length_map, (srtN_perm M).length_eq]; omega, fun co hco => ?_, fun d => decide (hdN d = j), fun _ => .int 1, fun i d acc2 hd => ?_, ?_⟩
      · rcases List.mem_append.mp hco with hco | hco
        · exact nr _ co hco
        · rw [List.mem_singleton.mp hco]; trivial
      · rw [List.getElem?_map] at hd
        obtain ⟨o, ho, rfl⟩ := Option.map_eq_some_iff.mp hd
        have ro := rowM o (List.mem_of_getElem? ho)
        have g := getD_get (l := o) (i := 0) (by rw [ro.1]; omega)
        walk_at "kw"
        refine ro_ixT (d := .int (o.getD 0 0 : Nat)) (atI_natN (i := 0) (by rw [natD_get, g]; rfl)) ?_
        walk_at "kw"
        refine ⟨?_, rfl, fun _ => ?_⟩
        · show decide (((o.getD 0 0 : Nat) : Int) = (j : Int)) = decide (hdN (tupN o) = j)
          rw [hdN_tup]
          by_cases h : o.getD 0 0 = j
          · rw [decide_eq_true h, decide_eq_true (by omega)]
          · rw [decide_eq_false h, decide_eq_false (by omega)]
        · walk_at "kw"
          exact ⟨rfl, rfl⟩
      walk_at "kw"
      refine rc_lenLT (.inl rfl) ?_
      rw [cnt_goal]
      exact ⟨rfl, rfl⟩
    rw [rgn, natD_map _ (fun p => M.countP fun o => decide (o.getD 0 0 = p)) _ (fun x _ => rfl)]
    show WG _ _ (.d (.lst (natD (goalsN wv.length M)))) _ _
    have hgl : (goalsN wv.length M).length = wv.length := by unfold goalsN; rw [List.length_map, List.length_range]
    walk_at "kw"
    refine ⟨(wv, ch), ⟨rfl, ow, oc, (show wv.length ≤ 400 by omega), h1, hM⟩, fun d hd => ?_, fun C fs he => ?_⟩
    rotate_left
    · exact absurd hone he.2
    obtain ⟨L2, hL2, _, rfl⟩ := hd
    have hL2 : Closed wv ch wv.length L2 := hL2
    show WE _ _ _ _
    rw [show decide (L2.length = (wv, ch).fst.length) = decide (goalsN wv.length M = List.replicate wv.length 1) from goals_iff hMc hL2 T2 h1 hone]
    walk_at "kw"
    refine we_lstd ?_
    walk_at "kw"
    refine ro_repD (by omega) (by omega) (by show 1 * _ ≤ sizeLine; omega) ?_
    rw [rep_ones]
    have layn : ∀ l : List Nat, Lay 2 (.lst (natD l)) := fun l => .lst fun d hd => by
      obtain ⟨i, _, rfl⟩ := List.mem_map.mp hd
      exact .int _
    refine ro_eqD (layn _).cmp (layn _).cmp ?_
    rw [eqv_nats]
    refine ro_eqb ?_
    rw [decide_eq_true rfl]
    exact hk _
end
end K71


namespace K71
abbrev spLaw (K : PySem.W.Frag) : Sp := spF (α := List Int) K (fun ns ds => ds = [.lstS (ns.map .int)] ∧ ns.length ≤ 63) (fun _ r => r = .bl true) (fun _ _ _ => False)
theorem law_start {K : PySem.W.Frag} {H : Hp} {a : Addr} {ns : List Int} (hl : ns.length ≤ 63) (hS : SqL K H a (ns.map V.int)) : spLaw K [.ref a] H (fun v _ => v = .bl true) fun _ _ _ => False := by
  refine ⟨fun _ => none, H, [], [.d (.lstS (ns.map .int))], [], ⟨.refl H, (fun _ _ h => nomatch h), fun p o h => .inl ⟨o, h⟩, rfl, List.nodup_nil, fun i a h => by simp at h, fun i a co h => by simp at h⟩, .cons (.lstS hS (.ints ns)) .nil, rfl, ns, _, rfl, ⟨rfl, hl⟩, fun d cs' hd v F' as' H' m e _ r => ?_, fun _ _ _ h => h.elim⟩
  subst hd
  exact Rep.bl_inv r
theorem law_out {P : Program} {w : World} {H : Hp} {s : Shared} {e : Value} {s' : Shared} (h : L2.CX P w [] H s (fun _ _ _ => False) e s') : False := by
  obtain ⟨_, _, _, _, _, _, _, _, _, _, _, _, h⟩ := h
  exact h
theorem all_mk {l : PySem.W.OpenLaw} {w : World} {K : PySem.W.Frag} {h : Heap} {mg : Str → Option Value} {fa : Addr}
    {C_Kin N_Kin : Addr} {nm_Kin q_Kin : Str} {bs_Kin bm_Kin su_Kin : List Value} {sn_Kin : List Str} {hd_Kin ab_Kin : Bool} {col_Kin : Option Bool} {dd_Kin : Option Addr} {k0_Kin k1_Kin k2_Kin k3_Kin k5_Kin : Option Value} {ni_Kin : String}
    {C_InvalidWord fI_InvalidWord cc_InvalidWord cda_InvalidWord N_InvalidWord : Addr} {nm_InvalidWord q_InvalidWord ql_InvalidWord : Str} {bs_InvalidWord bm_InvalidWord su_InvalidWord : List Value} {sn_InvalidWord : List Str} {ab_InvalidWord : Bool} {col_InvalidWord : Option Bool} {dd_InvalidWord od_InvalidWord d1_InvalidWord d2_InvalidWord an_InvalidWord : Option Addr} {k0_InvalidWord k1_InvalidWord k2_InvalidWord k3_InvalidWord k5_InvalidWord : Option Value} {oc_InvalidWord cl_InvalidWord cm_InvalidWord kV_InvalidWord doc_InvalidWord pm_InvalidWord ct_InvalidWord : Value} {osl_InvalidWord sl_InvalidWord sm_InvalidWord : Array (Option Value)} {vf_InvalidWord : Array Value} {file_InvalidWord : Str} {tf_InvalidWord : Tok}
    {p1_InvalidWord p2_InvalidWord q0_InvalidWord q1_InvalidWord q2_InvalidWord q3_InvalidWord q4_InvalidWord q5_InvalidWord r1_InvalidWord r2_InvalidWord r3_InvalidWord r4_InvalidWord : Pos}
    {C_InvalidSociety fI_InvalidSociety cc_InvalidSociety cda_InvalidSociety N_InvalidSociety : Addr} {nm_InvalidSociety q_InvalidSociety ql_InvalidSociety : Str} {bs_InvalidSociety bm_InvalidSociety su_InvalidSociety : List Value} {sn_InvalidSociety : List Str} {ab_InvalidSociety : Bool} {col_InvalidSociety : Option Bool} {dd_InvalidSociety od_InvalidSociety d1_InvalidSociety d2_InvalidSociety an_InvalidSociety : Option Addr} {k0_InvalidSociety k1_InvalidSociety k2_InvalidSociety k3_InvalidSociety k5_InvalidSociety : Option Value} {oc_InvalidSociety cl_InvalidSociety cm_InvalidSociety kV_InvalidSociety doc_InvalidSociety pm_InvalidSociety ct_InvalidSociety : Value} {osl_InvalidSociety sl_InvalidSociety sm_InvalidSociety : Array (Option Value)} {vf_InvalidSociety : Array Value} {file_InvalidSociety : Str} {tf_InvalidSociety : Tok}
    {p1_InvalidSociety p2_InvalidSociety q0_InvalidSociety q1_InvalidSociety q2_InvalidSociety q3_InvalidSociety q4_InvalidSociety q5_InvalidSociety r1_InvalidSociety r2_InvalidSociety r3_InvalidSociety r4_InvalidSociety : Pos}
    {C_TooMany fI_TooMany cc_TooMany cda_TooMany N_TooMany : Addr} {nm_TooMany q_TooMany ql_TooMany : Str} {bs_TooMany bm_TooMany su_TooMany : List Value} {sn_TooMany : List Str} {ab_TooMany : Bool} {col_TooMany : Option Bool} {dd_TooMany od_TooMany d1_TooMany d2_TooMany an_TooMany : Option Addr} {k0_TooMany k1_TooMany k2_TooMany k3_TooMany k5_TooMany : Option Value} {oc_TooMany cl_TooMany cm_TooMany kV_TooMany doc_TooMany pm_TooMany ct_TooMany : Value} {osl_TooMany sl_TooMany sm_TooMany : Array (Option Value)} {vf_TooMany : Array Value} {file_TooMany : Str} {tf_TooMany : Tok}
    {p1_TooMany p2_TooMany p3_TooMany q0_TooMany q1_TooMany q2_TooMany q3_TooMany q4_TooMany q5_TooMany r1_TooMany r2_TooMany r3_TooMany r4_TooMany u1_TooMany u2_TooMany u3_TooMany u4_TooMany : Pos}
    {C_Society : Addr}
    {f_is_class_word : Addr} {od_is_class_word an_is_class_word : Option Addr} {sl_is_class_word : Array (Option Value)} {oc_is_class_word kV_is_class_word dc_is_class_word pm_is_class_word cd_is_class_word ct_is_class_word : Value}
    {f_check_class_word : Addr} {od_check_class_word an_check_class_word : Option Addr} {sl_check_class_word : Array (Option Value)} {oc_check_class_word kV_check_class_word dc_check_class_word pm_check_class_word cd_check_class_word ct_check_class_word : Value}
    {f_is_order : Addr} {od_is_order an_is_order : Option Addr} {sl_is_order : Array (Option Value)} {oc_is_order kV_is_order dc_is_order pm_is_order cd_is_order ct_is_order : Value}
    {f_turned_back : Addr} {od_turned_back an_turned_back : Option Addr} {sl_turned_back : Array (Option Value)} {oc_turned_back kV_turned_back dc_turned_back pm_turned_back cd_turned_back ct_turned_back : Value}
    {f_Society_init : Addr} {od_Society_init an_Society_init : Option Addr} {sl_Society_init : Array (Option Value)} {oc_Society_init kV_Society_init dc_Society_init pm_Society_init cd_Society_init ct_Society_init : Value}
    {f_Society_led : Addr} {od_Society_led an_Society_led : Option Addr} {sl_Society_led : Array (Option Value)} {oc_Society_led kV_Society_led dc_Society_led pm_Society_led cd_Society_led ct_Society_led : Value}
    {f_Society_walked : Addr} {od_Society_walked an_Society_walked : Option Addr} {sl_Society_walked : Array (Option Value)} {oc_Society_walked kV_Society_walked dc_Society_walked pm_Society_walked cd_Society_walked ct_Society_walked : Value}
    {f_check_society : Addr} {od_check_society an_check_society : Option Addr} {sl_check_society : Array (Option Value)} {oc_check_society kV_check_society dc_check_society pm_check_society cd_check_society ct_check_society : Value}
    {f_check_class : Addr} {od_check_class an_check_class : Option Addr} {sl_check_class : Array (Option Value)} {oc_check_class kV_check_class dc_check_class pm_check_class cd_check_class ct_check_class : Value}
    {f_reached_from : Addr} {od_reached_from an_reached_from : Option Addr} {sl_reached_from : Array (Option Value)} {oc_reached_from kV_reached_from dc_reached_from pm_reached_from cd_reached_from ct_reached_from : Value}
    {f_parts_of : Addr} {od_parts_of an_parts_of : Option Addr} {sl_parts_of : Array (Option Value)} {oc_parts_of kV_parts_of dc_parts_of pm_parts_of cd_parts_of ct_parts_of : Value}
    {f_is_whole : Addr} {od_is_whole an_is_whole : Option Addr} {sl_is_whole : Array (Option Value)} {oc_is_whole kV_is_whole dc_is_whole pm_is_whole cd_is_whole ct_is_whole : Value}
    {f_check_whole : Addr} {od_check_whole an_check_whole : Option Addr} {sl_check_whole : Array (Option Value)} {oc_check_whole kV_check_whole dc_check_whole pm_check_whole cd_check_whole ct_check_whole : Value}
    {f_word_orders : Addr} {od_word_orders an_word_orders : Option Addr} {sl_word_orders : Array (Option Value)} {oc_word_orders kV_word_orders dc_word_orders pm_word_orders cd_word_orders ct_word_orders : Value}
    {f_is_free : Addr} {od_is_free an_is_free : Option Addr} {sl_is_free : Array (Option Value)} {oc_is_free kV_is_free dc_is_free pm_is_free cd_is_free ct_is_free : Value}
    {f__law_deck : Addr} {od__law_deck an__law_deck : Option Addr} {sl__law_deck : Array (Option Value)} {oc__law_deck kV__law_deck dc__law_deck pm__law_deck cd__law_deck ct__law_deck : Value}
    {f__law_take : Addr} {od__law_take an__law_take : Option Addr} {sl__law_take : Array (Option Value)} {oc__law_take kV__law_take dc__law_take pm__law_take cd__law_take ct__law_take : Value}
    {f__law_plain : Addr} {od__law_plain an__law_plain : Option Addr} {sl__law_plain : Array (Option Value)} {oc__law_plain kV__law_plain dc__law_plain pm__law_plain cd__law_plain ct__law_plain : Value}
    {f__law_order : Addr} {od__law_order an__law_order : Option Addr} {sl__law_order : Array (Option Value)} {oc__law_order kV__law_order dc__law_order pm__law_order cd__law_order ct__law_order : Value}
    {f__law_orders : Addr} {od__law_orders an__law_orders : Option Addr} {sl__law_orders : Array (Option Value)} {oc__law_orders kV__law_orders dc__law_orders pm__law_orders cd__law_orders ct__law_orders : Value}
    {f__law_led : Addr} {od__law_led an__law_led : Option Addr} {sl__law_led : Array (Option Value)} {oc__law_led kV__law_led dc__law_led pm__law_led cd__law_led ct__law_led : Value}
    {f__law_letters : Addr} {od__law_letters an__law_letters : Option Addr} {sl__law_letters : Array (Option Value)} {oc__law_letters kV__law_letters dc__law_letters pm__law_letters cd__law_letters ct__law_letters : Value}
    {f__law_lots : Addr} {od__law_lots an__law_lots : Option Addr} {sl__law_lots : Array (Option Value)} {oc__law_lots kV__law_lots dc__law_lots pm__law_lots cd__law_lots ct__law_lots : Value}
    {f__law_made : Addr} {od__law_made an__law_made : Option Addr} {sl__law_made : Array (Option Value)} {oc__law_made kV__law_made dc__law_made pm__law_made cd__law_made ct__law_made : Value}
    {f__law_many : Addr} {od__law_many an__law_many : Option Addr} {sl__law_many : Array (Option Value)} {oc__law_many kV__law_many dc__law_many pm__law_many cd__law_many ct__law_many : Value}
    {f_law : Addr} {od_law an_law : Option Addr} {sl_law : Array (Option Value)} {oc_law kV_law dc_law pm_law cd_law ct_law : Value}
    {t_LETTERS : Tok}
    {t_MOST_LETTERS : Tok}
    {t_MOST_CLASSES : Tok}
    {t_MOST_ELEMENTS : Tok}
    (X : K.In h) (G : h.Ns mainGlobals mg) (hfa : mg "law" = some (.ref fa))
    (n_Kin : PySem.W.nsIn K mainGlobals "KinError" = some (some (.ref C_Kin)))
    (cls_Kin : K.lookup C_Kin = some (excClassObj nm_Kin q_Kin C_Kin N_Kin bs_Kin bm_Kin hd_Kin sn_Kin su_Kin ab_Kin col_Kin dd_Kin k0_Kin k1_Kin k2_Kin k3_Kin k5_Kin ni_Kin))
    (f_Kin : PySem.W.findIn K (.ref C_Kin) "__init__" = some (some (.builtin "ValueError.__init__")))
    (n_InvalidWord : PySem.W.nsIn K mainGlobals "InvalidWord" = some (some (.ref C_InvalidWord)))
    (cls_InvalidWord : K.lookup C_InvalidWord = some (excClassObj nm_InvalidWord q_InvalidWord C_InvalidWord N_InvalidWord bs_InvalidWord bm_InvalidWord true sn_InvalidWord su_InvalidWord ab_InvalidWord col_InvalidWord dd_InvalidWord k0_InvalidWord k1_InvalidWord k2_InvalidWord k3_InvalidWord k5_InvalidWord "ValueError.__new__"))
    (rv_InvalidWord : PySem.HandSPX.refsVE bm_InvalidWord = true)
    (sa_InvalidWord : PySem.W.findIn K (.ref C_InvalidWord) "__setattr__" = some (some (.builtin "object.__setattr__")))
    (ga_InvalidWord : PySem.W.findIn K (.ref C_InvalidWord) "__getattribute__" = some (some (.builtin "BaseException.__getattribute__")))
    (gg_InvalidWord : PySem.W.findIn K (.ref C_InvalidWord) "__getattr__" = some none)
    (nW_InvalidWord : PySem.W.findIn K (.ref C_InvalidWord) "what" = some none)
    (nM_InvalidWord : PySem.W.findIn K (.ref C_InvalidWord) "many" = some none)
    (iC_InvalidWord : PySem.W.findIn K (.ref C_InvalidWord) "__init__" = some (some (.ref fI_InvalidWord)))
    (tC_InvalidWord : PySem.W.typeIn K (.ref fI_InvalidWord) = some (.type "function"))
    (kC_InvalidWord : PySem.W.keepIn K (.ref C_InvalidWord) = true)
    (exC_InvalidWord : PySem.W.subIn K (.ref C_InvalidWord) (.type "BaseException") = some true)
    (veC_InvalidWord : PySem.W.subIn K (.ref C_InvalidWord) (.type "ValueError") = some true)
    (tyC_InvalidWord : PySem.W.typeIn K (.ref C_InvalidWord) = some (.type "type"))
    (hdC_InvalidWord : PySem.W.hasDictIn K C_InvalidWord = true)
    (is_InvalidWord : PySem.W.isClsIn K C_InvalidWord = true)
    (ss_InvalidWord : PySem.W.subIn K (.ref C_InvalidWord) (.ref C_InvalidWord) = some true)
    (fn_InvalidWord : K.lookup fI_InvalidWord = some ⟨oc_InvalidWord, od_InvalidWord, .func (PySem.W.ksFn "__init__" ql_InvalidWord (PySem.KwX.a1 p1_InvalidWord p2_InvalidWord) [PySem.KwX.sup q0_InvalidWord q1_InvalidWord q2_InvalidWord q3_InvalidWord q4_InvalidWord q5_InvalidWord, PySem.KwX.fldS "what" r1_InvalidWord r2_InvalidWord r3_InvalidWord r4_InvalidWord] PySem.KwX.sc1 .none kV_InvalidWord doc_InvalidWord pm_InvalidWord an_InvalidWord (.ref cda_InvalidWord) ct_InvalidWord cc_InvalidWord), osl_InvalidWord⟩)
    (co_InvalidWord : PySem.W.codeIn K (.ref cda_InvalidWord) ql_InvalidWord = true)
    (code_InvalidWord : K.lookup cda_InvalidWord = some ⟨cl_InvalidWord, d1_InvalidWord, .fields vf_InvalidWord, sl_InvalidWord⟩)
    (v2_InvalidWord : vf_InvalidWord[2]? = some (.str file_InvalidWord tf_InvalidWord))
    (mf_InvalidWord : (l.prog.main.file == file_InvalidWord) = true)
    (cell_InvalidWord : K.lookup cc_InvalidWord = some ⟨cm_InvalidWord, d2_InvalidWord, .cell (some (.ref C_InvalidWord)), sm_InvalidWord⟩)
    (sm_InvalidWord_ : PySem.W.mroIn K C_InvalidWord (.ref C_InvalidWord) = some true)
    (hb_InvalidWord : bm_InvalidWord = .ref C_Kin :: bm_Kin)
    (hev_InvalidWord : ∀ L, PySem.KwX.EvS q0_InvalidWord q1_InvalidWord q2_InvalidWord q3_InvalidWord q4_InvalidWord q5_InvalidWord (PySem.W.ksEnv ql_InvalidWord PySem.KwX.sc1 L fI_InvalidWord (.ref cda_InvalidWord) cc_InvalidWord))
    (n_InvalidSociety : PySem.W.nsIn K mainGlobals "InvalidSociety" = some (some (.ref C_InvalidSociety)))
    (cls_InvalidSociety : K.lookup C_InvalidSociety = some (excClassObj nm_InvalidSociety q_InvalidSociety C_InvalidSociety N_InvalidSociety bs_InvalidSociety bm_InvalidSociety true sn_InvalidSociety su_InvalidSociety ab_InvalidSociety col_InvalidSociety dd_InvalidSociety k0_InvalidSociety k1_InvalidSociety k2_InvalidSociety k3_InvalidSociety k5_InvalidSociety "ValueError.__new__"))
    (rv_InvalidSociety : PySem.HandSPX.refsVE bm_InvalidSociety = true)
    (sa_InvalidSociety : PySem.W.findIn K (.ref C_InvalidSociety) "__setattr__" = some (some (.builtin "object.__setattr__")))
    (ga_InvalidSociety : PySem.W.findIn K (.ref C_InvalidSociety) "__getattribute__" = some (some (.builtin "BaseException.__getattribute__")))
    (gg_InvalidSociety : PySem.W.findIn K (.ref C_InvalidSociety) "__getattr__" = some none)
    (nW_InvalidSociety : PySem.W.findIn K (.ref C_InvalidSociety) "what" = some none)
    (nM_InvalidSociety : PySem.W.findIn K (.ref C_InvalidSociety) "many" = some none)
    (iC_InvalidSociety : PySem.W.findIn K (.ref C_InvalidSociety) "__init__" = some (some (.ref fI_InvalidSociety)))
    (tC_InvalidSociety : PySem.W.typeIn K (.ref fI_InvalidSociety) = some (.type "function"))
    (kC_InvalidSociety : PySem.W.keepIn K (.ref C_InvalidSociety) = true)
    (exC_InvalidSociety : PySem.W.subIn K (.ref C_InvalidSociety) (.type "BaseException") = some true)
    (veC_InvalidSociety : PySem.W.subIn K (.ref C_InvalidSociety) (.type "ValueError") = some true)
    (tyC_InvalidSociety : PySem.W.typeIn K (.ref C_InvalidSociety) = some (.type "type"))
    (hdC_InvalidSociety : PySem.W.hasDictIn K C_InvalidSociety = true)
    (is_InvalidSociety : PySem.W.isClsIn K C_InvalidSociety = true)
    (ss_InvalidSociety : PySem.W.subIn K (.ref C_InvalidSociety) (.ref C_InvalidSociety) = some true)
    (fn_InvalidSociety : K.lookup fI_InvalidSociety = some ⟨oc_InvalidSociety, od_InvalidSociety, .func (PySem.W.ksFn "__init__" ql_InvalidSociety (PySem.KwX.a1 p1_InvalidSociety p2_InvalidSociety) [PySem.KwX.sup q0_InvalidSociety q1_InvalidSociety q2_InvalidSociety q3_InvalidSociety q4_InvalidSociety q5_InvalidSociety, PySem.KwX.fldS "what" r1_InvalidSociety r2_InvalidSociety r3_InvalidSociety r4_InvalidSociety] PySem.KwX.sc1 .none kV_InvalidSociety doc_InvalidSociety pm_InvalidSociety an_InvalidSociety (.ref cda_InvalidSociety) ct_InvalidSociety cc_InvalidSociety), osl_InvalidSociety⟩)
    (co_InvalidSociety : PySem.W.codeIn K (.ref cda_InvalidSociety) ql_InvalidSociety = true)
    (code_InvalidSociety : K.lookup cda_InvalidSociety = some ⟨cl_InvalidSociety, d1_InvalidSociety, .fields vf_InvalidSociety, sl_InvalidSociety⟩)
    (v2_InvalidSociety : vf_InvalidSociety[2]? = some (.str file_InvalidSociety tf_InvalidSociety))
    (mf_InvalidSociety : (l.prog.main.file == file_InvalidSociety) = true)
    (cell_InvalidSociety : K.lookup cc_InvalidSociety = some ⟨cm_InvalidSociety, d2_InvalidSociety, .cell (some (.ref C_InvalidSociety)), sm_InvalidSociety⟩)
    (sm_InvalidSociety_ : PySem.W.mroIn K C_InvalidSociety (.ref C_InvalidSociety) = some true)
    (hb_InvalidSociety : bm_InvalidSociety = .ref C_Kin :: bm_Kin)
    (hev_InvalidSociety : ∀ L, PySem.KwX.EvS q0_InvalidSociety q1_InvalidSociety q2_InvalidSociety q3_InvalidSociety q4_InvalidSociety q5_InvalidSociety (PySem.W.ksEnv ql_InvalidSociety PySem.KwX.sc1 L fI_InvalidSociety (.ref cda_InvalidSociety) cc_InvalidSociety))
    (n_TooMany : PySem.W.nsIn K mainGlobals "TooMany" = some (some (.ref C_TooMany)))
    (cls_TooMany : K.lookup C_TooMany = some (excClassObj nm_TooMany q_TooMany C_TooMany N_TooMany bs_TooMany bm_TooMany true sn_TooMany su_TooMany ab_TooMany col_TooMany dd_TooMany k0_TooMany k1_TooMany k2_TooMany k3_TooMany k5_TooMany "ValueError.__new__"))
    (rv_TooMany : PySem.HandSPX.refsVE bm_TooMany = true)
    (sa_TooMany : PySem.W.findIn K (.ref C_TooMany) "__setattr__" = some (some (.builtin "object.__setattr__")))
    (ga_TooMany : PySem.W.findIn K (.ref C_TooMany) "__getattribute__" = some (some (.builtin "BaseException.__getattribute__")))
    (gg_TooMany : PySem.W.findIn K (.ref C_TooMany) "__getattr__" = some none)
    (nW_TooMany : PySem.W.findIn K (.ref C_TooMany) "what" = some none)
    (nM_TooMany : PySem.W.findIn K (.ref C_TooMany) "many" = some none)
    (iC_TooMany : PySem.W.findIn K (.ref C_TooMany) "__init__" = some (some (.ref fI_TooMany)))
    (tC_TooMany : PySem.W.typeIn K (.ref fI_TooMany) = some (.type "function"))
    (kC_TooMany : PySem.W.keepIn K (.ref C_TooMany) = true)
    (exC_TooMany : PySem.W.subIn K (.ref C_TooMany) (.type "BaseException") = some true)
    (veC_TooMany : PySem.W.subIn K (.ref C_TooMany) (.type "ValueError") = some true)
    (tyC_TooMany : PySem.W.typeIn K (.ref C_TooMany) = some (.type "type"))
    (hdC_TooMany : PySem.W.hasDictIn K C_TooMany = true)
    (is_TooMany : PySem.W.isClsIn K C_TooMany = true)
    (ss_TooMany : PySem.W.subIn K (.ref C_TooMany) (.ref C_TooMany) = some true)
    (fn_TooMany : K.lookup fI_TooMany = some ⟨oc_TooMany, od_TooMany, .func (PySem.W.ksFn "__init__" ql_TooMany (PySem.KwX.a2 p1_TooMany p2_TooMany p3_TooMany) [PySem.KwX.sup q0_TooMany q1_TooMany q2_TooMany q3_TooMany q4_TooMany q5_TooMany, PySem.KwX.fldS "what" r1_TooMany r2_TooMany r3_TooMany r4_TooMany, PySem.KwX.fldS "many" u1_TooMany u2_TooMany u3_TooMany u4_TooMany] PySem.KwX.sc2 .none kV_TooMany doc_TooMany pm_TooMany an_TooMany (.ref cda_TooMany) ct_TooMany cc_TooMany), osl_TooMany⟩)
    (co_TooMany : PySem.W.codeIn K (.ref cda_TooMany) ql_TooMany = true)
    (code_TooMany : K.lookup cda_TooMany = some ⟨cl_TooMany, d1_TooMany, .fields vf_TooMany, sl_TooMany⟩)
    (v2_TooMany : vf_TooMany[2]? = some (.str file_TooMany tf_TooMany))
    (mf_TooMany : (l.prog.main.file == file_TooMany) = true)
    (cell_TooMany : K.lookup cc_TooMany = some ⟨cm_TooMany, d2_TooMany, .cell (some (.ref C_TooMany)), sm_TooMany⟩)
    (sm_TooMany_ : PySem.W.mroIn K C_TooMany (.ref C_TooMany) = some true)
    (hb_TooMany : bm_TooMany = .ref C_Kin :: bm_Kin)
    (hev_TooMany : ∀ L, PySem.KwX.EvS q0_TooMany q1_TooMany q2_TooMany q3_TooMany q4_TooMany q5_TooMany (PySem.W.ksEnv ql_TooMany PySem.KwX.sc2 L fI_TooMany (.ref cda_TooMany) cc_TooMany))
    (z_super : PySem.W.nsIn K mainGlobals "super" = some none)
    (mt : PySem.W.nsIn K cStatics "thirdparty.any" = some none)
    (htop : (l.prog.main.scope.names.lookup ("super" : Str)).isSome = false)
    (n_Society : PySem.W.nsIn K mainGlobals "Society" = some (some (.ref C_Society)))
    (pg_Society : PySem.W.plainGet K C_Society Str.empty = true)
    (hd_Society : PySem.W.hasDictIn K C_Society = true)
    (po_Society : PySem.W.plainOver K C_Society = true)
    (sa_Society : PySem.W.findIn K (.ref C_Society) "__setattr__" = some (some (.builtin "object.__setattr__")))
    (mk_Society : PySem.W.makesIn K C_Society = true)
    (kc_Society : PySem.W.keepIn K (.ref C_Society) = true)
    (a_Society_size : PySem.W.findIn K (.ref C_Society) "size" = some none)
    (a_Society_wives : PySem.W.findIn K (.ref C_Society) "wives" = some none)
    (a_Society_children : PySem.W.findIn K (.ref C_Society) "children" = some none)
    (a_Society_moves : PySem.W.findIn K (.ref C_Society) "moves" = some none)
    (ik_Society : PySem.W.findIn K (.ref C_Society) "__class__" = some (some (.builtin "object.__class__")))
    (ig_Society : PySem.W.specialIn K (.builtin "object.__class__") "__get__" = some (some (.builtin "getset_descriptor.__get__")))
    (it_Society : PySem.W.takesIn K (.builtin "object.__class__") = some true)
    (io_Society : PySem.W.mroIn K C_Society (.type "object") = some true)
    (a_is_class_word : PySem.W.nsIn K mainGlobals "is_class_word" = some (some (.ref f_is_class_word)))
    (l_is_class_word : K.lookup f_is_class_word = some ⟨oc_is_class_word, od_is_class_word, .func (PySem.W.fnOf "is_class_word" "is_class_word" (defArgs s_is_class_word) (defBody s_is_class_word) (defScope s_is_class_word) .none kV_is_class_word dc_is_class_word pm_is_class_word an_is_class_word cd_is_class_word ct_is_class_word), sl_is_class_word⟩)
    (c_is_class_word : PySem.W.codeIn K cd_is_class_word "is_class_word" = true)
    (k_is_class_word : PySem.W.keepIn K (.ref f_is_class_word) = true)
    (a_check_class_word : PySem.W.nsIn K mainGlobals "check_class_word" = some (some (.ref f_check_class_word)))
    (l_check_class_word : K.lookup f_check_class_word = some ⟨oc_check_class_word, od_check_class_word, .func (PySem.W.fnOf "check_class_word" "check_class_word" (defArgs s_check_class_word) (defBody s_check_class_word) (defScope s_check_class_word) .none kV_check_class_word dc_check_class_word pm_check_class_word an_check_class_word cd_check_class_word ct_check_class_word), sl_check_class_word⟩)
    (c_check_class_word : PySem.W.codeIn K cd_check_class_word "check_class_word" = true)
    (k_check_class_word : PySem.W.keepIn K (.ref f_check_class_word) = true)
    (a_is_order : PySem.W.nsIn K mainGlobals "is_order" = some (some (.ref f_is_order)))
    (l_is_order : K.lookup f_is_order = some ⟨oc_is_order, od_is_order, .func (PySem.W.fnOf "is_order" "is_order" (defArgs s_is_order) (defBody s_is_order) (defScope s_is_order) .none kV_is_order dc_is_order pm_is_order an_is_order cd_is_order ct_is_order), sl_is_order⟩)
    (c_is_order : PySem.W.codeIn K cd_is_order "is_order" = true)
    (k_is_order : PySem.W.keepIn K (.ref f_is_order) = true)
    (a_turned_back : PySem.W.nsIn K mainGlobals "turned_back" = some (some (.ref f_turned_back)))
    (l_turned_back : K.lookup f_turned_back = some ⟨oc_turned_back, od_turned_back, .func (PySem.W.fnOf "turned_back" "turned_back" (defArgs s_turned_back) (defBody s_turned_back) (defScope s_turned_back) .none kV_turned_back dc_turned_back pm_turned_back an_turned_back cd_turned_back ct_turned_back), sl_turned_back⟩)
    (c_turned_back : PySem.W.codeIn K cd_turned_back "turned_back" = true)
    (k_turned_back : PySem.W.keepIn K (.ref f_turned_back) = true)
    (a_Society_init : PySem.W.findIn K (.ref C_Society) "__init__" = some (some (.ref f_Society_init)))
    (i_Society_init : PySem.W.isFn K (.ref f_Society_init) = true)
    (l_Society_init : K.lookup f_Society_init = some ⟨oc_Society_init, od_Society_init, .func (PySem.W.fnOf "__init__" "Society.__init__" (defArgs s_Society_init) (defBody s_Society_init) (defScope s_Society_init) .none kV_Society_init dc_Society_init pm_Society_init an_Society_init cd_Society_init ct_Society_init), sl_Society_init⟩)
    (c_Society_init : PySem.W.codeIn K cd_Society_init "Society.__init__" = true)
    (k_Society_init : PySem.W.keepIn K (.ref f_Society_init) = true)
    (a_Society_led : PySem.W.findIn K (.ref C_Society) "led" = some (some (.ref f_Society_led)))
    (i_Society_led : PySem.W.isFn K (.ref f_Society_led) = true)
    (l_Society_led : K.lookup f_Society_led = some ⟨oc_Society_led, od_Society_led, .func (PySem.W.fnOf "led" "Society.led" (defArgs s_Society_led) (defBody s_Society_led) (defScope s_Society_led) .none kV_Society_led dc_Society_led pm_Society_led an_Society_led cd_Society_led ct_Society_led), sl_Society_led⟩)
    (c_Society_led : PySem.W.codeIn K cd_Society_led "Society.led" = true)
    (k_Society_led : PySem.W.keepIn K (.ref f_Society_led) = true)
    (a_Society_walked : PySem.W.findIn K (.ref C_Society) "walked" = some (some (.ref f_Society_walked)))
    (i_Society_walked : PySem.W.isFn K (.ref f_Society_walked) = true)
    (l_Society_walked : K.lookup f_Society_walked = some ⟨oc_Society_walked, od_Society_walked, .func (PySem.W.fnOf "walked" "Society.walked" (defArgs s_Society_walked) (defBody s_Society_walked) (defScope s_Society_walked) .none kV_Society_walked dc_Society_walked pm_Society_walked an_Society_walked cd_Society_walked ct_Society_walked), sl_Society_walked⟩)
    (c_Society_walked : PySem.W.codeIn K cd_Society_walked "Society.walked" = true)
    (k_Society_walked : PySem.W.keepIn K (.ref f_Society_walked) = true)
    (a_check_society : PySem.W.nsIn K mainGlobals "check_society" = some (some (.ref f_check_society)))
    (l_check_society : K.lookup f_check_society = some ⟨oc_check_society, od_check_society, .func (PySem.W.fnOf "check_society" "check_society" (defArgs s_check_society) (defBody s_check_society) (defScope s_check_society) .none kV_check_society dc_check_society pm_check_society an_check_society cd_check_society ct_check_society), sl_check_society⟩)
    (c_check_society : PySem.W.codeIn K cd_check_society "check_society" = true)
    (k_check_society : PySem.W.keepIn K (.ref f_check_society) = true)
    (a_check_class : PySem.W.nsIn K mainGlobals "check_class" = some (some (.ref f_check_class)))
    (l_check_class : K.lookup f_check_class = some ⟨oc_check_class, od_check_class, .func (PySem.W.fnOf "check_class" "check_class" (defArgs s_check_class) (defBody s_check_class) (defScope s_check_class) .none kV_check_class dc_check_class pm_check_class an_check_class cd_check_class ct_check_class), sl_check_class⟩)
    (c_check_class : PySem.W.codeIn K cd_check_class "check_class" = true)
    (k_check_class : PySem.W.keepIn K (.ref f_check_class) = true)
    (a_reached_from : PySem.W.nsIn K mainGlobals "reached_from" = some (some (.ref f_reached_from)))
    (l_reached_from : K.lookup f_reached_from = some ⟨oc_reached_from, od_reached_from, .func (PySem.W.fnOf "reached_from" "reached_from" (defArgs s_reached_from) (defBody s_reached_from) (defScope s_reached_from) .none kV_reached_from dc_reached_from pm_reached_from an_reached_from cd_reached_from ct_reached_from), sl_reached_from⟩)
    (c_reached_from : PySem.W.codeIn K cd_reached_from "reached_from" = true)
    (k_reached_from : PySem.W.keepIn K (.ref f_reached_from) = true)
    (a_parts_of : PySem.W.nsIn K mainGlobals "parts_of" = some (some (.ref f_parts_of)))
    (l_parts_of : K.lookup f_parts_of = some ⟨oc_parts_of, od_parts_of, .func (PySem.W.fnOf "parts_of" "parts_of" (defArgs s_parts_of) (defBody s_parts_of) (defScope s_parts_of) .none kV_parts_of dc_parts_of pm_parts_of an_parts_of cd_parts_of ct_parts_of), sl_parts_of⟩)
    (c_parts_of : PySem.W.codeIn K cd_parts_of "parts_of" = true)
    (k_parts_of : PySem.W.keepIn K (.ref f_parts_of) = true)
    (a_is_whole : PySem.W.nsIn K mainGlobals "is_whole" = some (some (.ref f_is_whole)))
    (l_is_whole : K.lookup f_is_whole = some ⟨oc_is_whole, od_is_whole, .func (PySem.W.fnOf "is_whole" "is_whole" (defArgs s_is_whole) (defBody s_is_whole) (defScope s_is_whole) .none kV_is_whole dc_is_whole pm_is_whole an_is_whole cd_is_whole ct_is_whole), sl_is_whole⟩)
    (c_is_whole : PySem.W.codeIn K cd_is_whole "is_whole" = true)
    (k_is_whole : PySem.W.keepIn K (.ref f_is_whole) = true)
    (a_check_whole : PySem.W.nsIn K mainGlobals "check_whole" = some (some (.ref f_check_whole)))
    (l_check_whole : K.lookup f_check_whole = some ⟨oc_check_whole, od_check_whole, .func (PySem.W.fnOf "check_whole" "check_whole" (defArgs s_check_whole) (defBody s_check_whole) (defScope s_check_whole) .none kV_check_whole dc_check_whole pm_check_whole an_check_whole cd_check_whole ct_check_whole), sl_check_whole⟩)
    (c_check_whole : PySem.W.codeIn K cd_check_whole "check_whole" = true)
    (k_check_whole : PySem.W.keepIn K (.ref f_check_whole) = true)
    (a_word_orders : PySem.W.nsIn K mainGlobals "word_orders" = some (some (.ref f_word_orders)))
    (l_word_orders : K.lookup f_word_orders = some ⟨oc_word_orders, od_word_orders, .func (PySem.W.fnOf "word_orders" "word_orders" (defArgs s_word_orders) (defBody s_word_orders) (defScope s_word_orders) .none kV_word_orders dc_word_orders pm_word_orders an_word_orders cd_word_orders ct_word_orders), sl_word_orders⟩)
    (c_word_orders : PySem.W.codeIn K cd_word_orders "word_orders" = true)
    (k_word_orders : PySem.W.keepIn K (.ref f_word_orders) = true)
    (a_is_free : PySem.W.nsIn K mainGlobals "is_free" = some (some (.ref f_is_free)))
    (l_is_free : K.lookup f_is_free = some ⟨oc_is_free, od_is_free, .func (PySem.W.fnOf "is_free" "is_free" (defArgs s_is_free) (defBody s_is_free) (defScope s_is_free) .none kV_is_free dc_is_free pm_is_free an_is_free cd_is_free ct_is_free), sl_is_free⟩)
    (c_is_free : PySem.W.codeIn K cd_is_free "is_free" = true)
    (k_is_free : PySem.W.keepIn K (.ref f_is_free) = true)
    (a__law_deck : PySem.W.nsIn K mainGlobals "_law_deck" = some (some (.ref f__law_deck)))
    (l__law_deck : K.lookup f__law_deck = some ⟨oc__law_deck, od__law_deck, .func (PySem.W.fnOf "_law_deck" "_law_deck" (defArgs s__law_deck) (defBody s__law_deck) (defScope s__law_deck) .none kV__law_deck dc__law_deck pm__law_deck an__law_deck cd__law_deck ct__law_deck), sl__law_deck⟩)
    (c__law_deck : PySem.W.codeIn K cd__law_deck "_law_deck" = true)
    (k__law_deck : PySem.W.keepIn K (.ref f__law_deck) = true)
    (a__law_take : PySem.W.nsIn K mainGlobals "_law_take" = some (some (.ref f__law_take)))
    (l__law_take : K.lookup f__law_take = some ⟨oc__law_take, od__law_take, .func (PySem.W.fnOf "_law_take" "_law_take" (defArgs s__law_take) (defBody s__law_take) (defScope s__law_take) .none kV__law_take dc__law_take pm__law_take an__law_take cd__law_take ct__law_take), sl__law_take⟩)
    (c__law_take : PySem.W.codeIn K cd__law_take "_law_take" = true)
    (k__law_take : PySem.W.keepIn K (.ref f__law_take) = true)
    (a__law_plain : PySem.W.nsIn K mainGlobals "_law_plain" = some (some (.ref f__law_plain)))
    (l__law_plain : K.lookup f__law_plain = some ⟨oc__law_plain, od__law_plain, .func (PySem.W.fnOf "_law_plain" "_law_plain" (defArgs s__law_plain) (defBody s__law_plain) (defScope s__law_plain) .none kV__law_plain dc__law_plain pm__law_plain an__law_plain cd__law_plain ct__law_plain), sl__law_plain⟩)
    (c__law_plain : PySem.W.codeIn K cd__law_plain "_law_plain" = true)
    (k__law_plain : PySem.W.keepIn K (.ref f__law_plain) = true)
    (a__law_order : PySem.W.nsIn K mainGlobals "_law_order" = some (some (.ref f__law_order)))
    (l__law_order : K.lookup f__law_order = some ⟨oc__law_order, od__law_order, .func (PySem.W.fnOf "_law_order" "_law_order" (defArgs s__law_order) (defBody s__law_order) (defScope s__law_order) .none kV__law_order dc__law_order pm__law_order an__law_order cd__law_order ct__law_order), sl__law_order⟩)
    (c__law_order : PySem.W.codeIn K cd__law_order "_law_order" = true)
    (k__law_order : PySem.W.keepIn K (.ref f__law_order) = true)
    (a__law_orders : PySem.W.nsIn K mainGlobals "_law_orders" = some (some (.ref f__law_orders)))
    (l__law_orders : K.lookup f__law_orders = some ⟨oc__law_orders, od__law_orders, .func (PySem.W.fnOf "_law_orders" "_law_orders" (defArgs s__law_orders) (defBody s__law_orders) (defScope s__law_orders) .none kV__law_orders dc__law_orders pm__law_orders an__law_orders cd__law_orders ct__law_orders), sl__law_orders⟩)
    (c__law_orders : PySem.W.codeIn K cd__law_orders "_law_orders" = true)
    (k__law_orders : PySem.W.keepIn K (.ref f__law_orders) = true)
    (a__law_led : PySem.W.nsIn K mainGlobals "_law_led" = some (some (.ref f__law_led)))
    (l__law_led : K.lookup f__law_led = some ⟨oc__law_led, od__law_led, .func (PySem.W.fnOf "_law_led" "_law_led" (defArgs s__law_led) (defBody s__law_led) (defScope s__law_led) .none kV__law_led dc__law_led pm__law_led an__law_led cd__law_led ct__law_led), sl__law_led⟩)
    (c__law_led : PySem.W.codeIn K cd__law_led "_law_led" = true)
    (k__law_led : PySem.W.keepIn K (.ref f__law_led) = true)
    (a__law_letters : PySem.W.nsIn K mainGlobals "_law_letters" = some (some (.ref f__law_letters)))
    (l__law_letters : K.lookup f__law_letters = some ⟨oc__law_letters, od__law_letters, .func (PySem.W.fnOf "_law_letters" "_law_letters" (defArgs s__law_letters) (defBody s__law_letters) (defScope s__law_letters) .none kV__law_letters dc__law_letters pm__law_letters an__law_letters cd__law_letters ct__law_letters), sl__law_letters⟩)
    (c__law_letters : PySem.W.codeIn K cd__law_letters "_law_letters" = true)
    (k__law_letters : PySem.W.keepIn K (.ref f__law_letters) = true)
    (a__law_lots : PySem.W.nsIn K mainGlobals "_law_lots" = some (some (.ref f__law_lots)))
    (l__law_lots : K.lookup f__law_lots = some ⟨oc__law_lots, od__law_lots, .func (PySem.W.fnOf "_law_lots" "_law_lots" (defArgs s__law_lots) (defBody s__law_lots) (defScope s__law_lots) .none kV__law_lots dc__law_lots pm__law_lots an__law_lots cd__law_lots ct__law_lots), sl__law_lots⟩)
    (c__law_lots : PySem.W.codeIn K cd__law_lots "_law_lots" = true)
    (k__law_lots : PySem.W.keepIn K (.ref f__law_lots) = true)
    (a__law_made : PySem.W.nsIn K mainGlobals "_law_made" = some (some (.ref f__law_made)))
    (l__law_made : K.lookup f__law_made = some ⟨oc__law_made, od__law_made, .func (PySem.W.fnOf "_law_made" "_law_made" (defArgs s__law_made) (defBody s__law_made) (defScope s__law_made) .none kV__law_made dc__law_made pm__law_made an__law_made cd__law_made ct__law_made), sl__law_made⟩)
    (c__law_made : PySem.W.codeIn K cd__law_made "_law_made" = true)
    (k__law_made : PySem.W.keepIn K (.ref f__law_made) = true)
    (a__law_many : PySem.W.nsIn K mainGlobals "_law_many" = some (some (.ref f__law_many)))
    (l__law_many : K.lookup f__law_many = some ⟨oc__law_many, od__law_many, .func (PySem.W.fnOf "_law_many" "_law_many" (defArgs s__law_many) (defBody s__law_many) (defScope s__law_many) .none kV__law_many dc__law_many pm__law_many an__law_many cd__law_many ct__law_many), sl__law_many⟩)
    (c__law_many : PySem.W.codeIn K cd__law_many "_law_many" = true)
    (k__law_many : PySem.W.keepIn K (.ref f__law_many) = true)
    (a_law : PySem.W.nsIn K mainGlobals "law" = some (some (.ref f_law)))
    (l_law : K.lookup f_law = some ⟨oc_law, od_law, .func (PySem.W.fnOf "law" "law" (defArgs s_law) (defBody s_law) (defScope s_law) .none kV_law dc_law pm_law an_law cd_law ct_law), sl_law⟩)
    (c_law : PySem.W.codeIn K cd_law "law" = true)
    (k_law : PySem.W.keepIn K (.ref f_law) = true)
    (z_abs : PySem.W.nsIn K mainGlobals "abs" = some none)
    (z_all : PySem.W.nsIn K mainGlobals "all" = some none)
    (z_bool : PySem.W.nsIn K mainGlobals "bool" = some none)
    (z_enumerate : PySem.W.nsIn K mainGlobals "enumerate" = some none)
    (z_int : PySem.W.nsIn K mainGlobals "int" = some none)
    (z_isinstance : PySem.W.nsIn K mainGlobals "isinstance" = some none)
    (z_len : PySem.W.nsIn K mainGlobals "len" = some none)
    (z_list : PySem.W.nsIn K mainGlobals "list" = some none)
    (z_min : PySem.W.nsIn K mainGlobals "min" = some none)
    (z_range : PySem.W.nsIn K mainGlobals "range" = some none)
    (z_set : PySem.W.nsIn K mainGlobals "set" = some none)
    (z_sorted : PySem.W.nsIn K mainGlobals "sorted" = some none)
    (z_str : PySem.W.nsIn K mainGlobals "str" = some none)
    (z_tuple : PySem.W.nsIn K mainGlobals "tuple" = some none)
    (g_LETTERS : PySem.W.nsIn K mainGlobals "LETTERS" = some (some (.str "ABab" t_LETTERS)))
    (g_MOST_LETTERS : PySem.W.nsIn K mainGlobals "MOST_LETTERS" = some (some (.int 1000 t_MOST_LETTERS)))
    (g_MOST_CLASSES : PySem.W.nsIn K mainGlobals "MOST_CLASSES" = some (some (.int 400 t_MOST_CLASSES)))
    (g_MOST_ELEMENTS : PySem.W.nsIn K mainGlobals "MOST_ELEMENTS" = some (some (.int 2000 t_MOST_ELEMENTS))) :
    ∃ fd : FuncData, (∀ (s : Shared) (v : Value), BindsTo s fd ⟨[v], []⟩ [("script", v)]) ∧ ∀ base : Heap, K.In base → base.Ns mainGlobals mg → FnOk l.prog w K mg base (L2.CX l.prog w) 12 fa fd ["script"] (spLaw K) := by
  have e := hfa.symm.trans (PySem.W.mg_of X G a_law)
  cases e
  have F_is_class_word := fun_mk (st := s_is_class_word) l_is_class_word c_is_class_word k_is_class_word
  have b_is_class_word := F_is_class_word.binds (ps := ["value"]) fun _ _ _ _ _ _ us hl => match us, hl with | [_], _ => rfl
  have F_check_class_word := fun_mk (st := s_check_class_word) l_check_class_word c_check_class_word k_check_class_word
  have b_check_class_word := F_check_class_word.binds (ps := ["text"]) fun _ _ _ _ _ _ us hl => match us, hl with | [_], _ => rfl
  have F_is_order := fun_mk (st := s_is_order) l_is_order c_is_order k_is_order
  have b_is_order := F_is_order.binds (ps := ["value", "size"]) fun _ _ _ _ _ _ us hl => match us, hl with | [_, _], _ => rfl
  have F_turned_back := fun_mk (st := s_turned_back) l_turned_back c_turned_back k_turned_back
  have b_turned_back := F_turned_back.binds (ps := ["order"]) fun _ _ _ _ _ _ us hl => match us, hl with | [_], _ => rfl
  have F_Society_init := fun_mk (st := s_Society_init) l_Society_init c_Society_init k_Society_init
  have b_Society_init := F_Society_init.binds (ps := ["self", "wives", "children"]) fun _ _ _ _ _ _ us hl => match us, hl with | [_, _, _], _ => rfl
  have F_Society_led := fun_mk (st := s_Society_led) l_Society_led c_Society_led k_Society_led
  have b_Society_led := F_Society_led.binds (ps := ["self", "place", "text"]) fun _ _ _ _ _ _ us hl => match us, hl with | [_, _, _], _ => rfl
  have F_Society_walked := fun_mk (st := s_Society_walked) l_Society_walked c_Society_walked k_Society_walked
  have b_Society_walked := F_Society_walked.binds (ps := ["self", "place", "text"]) fun _ _ _ _ _ _ us hl => match us, hl with | [_, _, _], _ => rfl
  have F_check_society := fun_mk (st := s_check_society) l_check_society c_check_society k_check_society
  have b_check_society := F_check_society.binds (ps := ["society"]) fun _ _ _ _ _ _ us hl => match us, hl with | [_], _ => rfl
  have F_check_class := fun_mk (st := s_check_class) l_check_class c_check_class k_check_class
  have b_check_class := F_check_class.binds (ps := ["society", "place"]) fun _ _ _ _ _ _ us hl => match us, hl with | [_, _], _ => rfl
  have F_reached_from := fun_mk (st := s_reached_from) l_reached_from c_reached_from k_reached_from
  have b_reached_from := F_reached_from.binds (ps := ["society", "first"]) fun _ _ _ _ _ _ us hl => match us, hl with | [_, _], _ => rfl
  have F_parts_of := fun_mk (st := s_parts_of) l_parts_of c_parts_of k_parts_of
  have b_parts_of := F_parts_of.binds (ps := ["society"]) fun _ _ _ _ _ _ us hl => match us, hl with | [_], _ => rfl
  have F_is_whole := fun_mk (st := s_is_whole) l_is_whole c_is_whole k_is_whole
  have b_is_whole := F_is_whole.binds (ps := ["society"]) fun _ _ _ _ _ _ us hl => match us, hl with | [_], _ => rfl
  have F_check_whole := fun_mk (st := s_check_whole) l_check_whole c_check_whole k_check_whole
  have b_check_whole := F_check_whole.binds (ps := ["society"]) fun _ _ _ _ _ _ us hl => match us, hl with | [_], _ => rfl
  have F_word_orders := fun_mk (st := s_word_orders) l_word_orders c_word_orders k_word_orders
  have b_word_orders := F_word_orders.binds (ps := ["society"]) fun _ _ _ _ _ _ us hl => match us, hl with | [_], _ => rfl
  have F_is_free := fun_mk (st := s_is_free) l_is_free c_is_free k_is_free
  have b_is_free := F_is_free.binds (ps := ["society"]) fun _ _ _ _ _ _ us hl => match us, hl with | [_], _ => rfl
  have F__law_deck := fun_mk (st := s__law_deck) l__law_deck c__law_deck k__law_deck
  have b__law_deck := F__law_deck.binds (ps := ["script", "cells", "each"]) fun _ _ _ _ _ _ us hl => match us, hl with | [_, _, _], _ => rfl
  have F__law_take := fun_mk (st := s__law_take) l__law_take c__law_take k__law_take
  have b__law_take := F__law_take.binds (ps := ["deck", "many"]) fun _ _ _ _ _ _ us hl => match us, hl with | [_, _], _ => rfl
  have F__law_plain := fun_mk (st := s__law_plain) l__law_plain c__law_plain k__law_plain
  have b__law_plain := F__law_plain.binds (ps := ["value"]) fun _ _ _ _ _ _ us hl => match us, hl with | [_], _ => rfl
  have F__law_order := fun_mk (st := s__law_order) l__law_order c__law_order k__law_order
  have b__law_order := F__law_order.binds (ps := ["deck", "size"]) fun _ _ _ _ _ _ us hl => match us, hl with | [_, _], _ => rfl
  have F__law_orders := fun_mk (st := s__law_orders) l__law_orders c__law_orders k__law_orders
  have b__law_orders := F__law_orders.binds (ps := ["deck", "most"]) fun _ _ _ _ _ _ us hl => match us, hl with | [_, _], _ => rfl
  have F__law_led := fun_mk (st := s__law_led) l__law_led c__law_led k__law_led
  have b__law_led := F__law_led.binds (ps := ["pair", "place", "text"]) fun _ _ _ _ _ _ us hl => match us, hl with | [_, _, _], _ => rfl
  have F__law_letters := fun_mk (st := s__law_letters) l__law_letters c__law_letters k__law_letters
  have b__law_letters := F__law_letters.binds (ps := ["deck", "most"]) fun _ _ _ _ _ _ us hl => match us, hl with | [_, _], _ => rfl
  have F__law_lots := fun_mk (st := s__law_lots) l__law_lots c__law_lots k__law_lots
  have b__law_lots := F__law_lots.binds (ps := ["pair"]) fun _ _ _ _ _ _ us hl => match us, hl with | [_], _ => rfl
  have F__law_made := fun_mk (st := s__law_made) l__law_made c__law_made k__law_made
  have b__law_made := F__law_made.binds (ps := ["pair"]) fun _ _ _ _ _ _ us hl => match us, hl with | [_], _ => rfl
  have F__law_many := fun_mk (st := s__law_many) l__law_many c__law_many k__law_many
  have b__law_many := F__law_many.binds (ps := ["deck"]) fun _ _ _ _ _ _ us hl => match us, hl with | [_], _ => rfl
  have F_law := fun_mk (st := s_law) l_law c_law k_law
  have b_law := F_law.binds (ps := ["script"]) fun _ _ _ _ _ _ us hl => match us, hl with | [_], _ => rfl
  let A : AD := ⟨f_is_class_word, PySem.W.fnOf "is_class_word" "is_class_word" (defArgs s_is_class_word) (defBody s_is_class_word) (defScope s_is_class_word) .none kV_is_class_word dc_is_class_word pm_is_class_word an_is_class_word cd_is_class_word ct_is_class_word, f_check_class_word, PySem.W.fnOf "check_class_word" "check_class_word" (defArgs s_check_class_word) (defBody s_check_class_word) (defScope s_check_class_word) .none kV_check_class_word dc_check_class_word pm_check_class_word an_check_class_word cd_check_class_word ct_check_class_word, f_is_order, PySem.W.fnOf "is_order" "is_order" (defArgs s_is_order) (defBody s_is_order) (defScope s_is_order) .none kV_is_order dc_is_order pm_is_order an_is_order cd_is_order ct_is_order, f_turned_back, PySem.W.fnOf "turned_back" "turned_back" (defArgs s_turned_back) (defBody s_turned_back) (defScope s_turned_back) .none kV_turned_back dc_turned_back pm_turned_back an_turned_back cd_turned_back ct_turned_back, f_Society_init, PySem.W.fnOf "__init__" "Society.__init__" (defArgs s_Society_init) (defBody s_Society_init) (defScope s_Society_init) .none kV_Society_init dc_Society_init pm_Society_init an_Society_init cd_Society_init ct_Society_init, f_Society_led, PySem.W.fnOf "led" "Society.led" (defArgs s_Society_led) (defBody s_Society_led) (defScope s_Society_led) .none kV_Society_led dc_Society_led pm_Society_led an_Society_led cd_Society_led ct_Society_led, f_Society_walked, PySem.W.fnOf "walked" "Society.walked" (defArgs s_Society_walked) (defBody s_Society_walked) (defScope s_Society_walked) .none kV_Society_walked dc_Society_walked pm_Society_walked an_Society_walked cd_Society_walked ct_Society_walked, f_check_society, PySem.W.fnOf "check_society" "check_society" (defArgs s_check_society) (defBody s_check_society) (defScope s_check_society) .none kV_check_society dc_check_society pm_check_society an_check_society cd_check_society ct_check_society, f_check_class, PySem.W.fnOf "check_class" "check_class" (defArgs s_check_class) (defBody s_check_class) (defScope s_check_class) .none kV_check_class dc_check_class pm_check_class an_check_class cd_check_class ct_check_class, f_reached_from, PySem.W.fnOf "reached_from" "reached_from" (defArgs s_reached_from) (defBody s_reached_from) (defScope s_reached_from) .none kV_reached_from dc_reached_from pm_reached_from an_reached_from cd_reached_from ct_reached_from, f_parts_of, PySem.W.fnOf "parts_of" "parts_of" (defArgs s_parts_of) (defBody s_parts_of) (defScope s_parts_of) .none kV_parts_of dc_parts_of pm_parts_of an_parts_of cd_parts_of ct_parts_of, f_is_whole, PySem.W.fnOf "is_whole" "is_whole" (defArgs s_is_whole) (defBody s_is_whole) (defScope s_is_whole) .none kV_is_whole dc_is_whole pm_is_whole an_is_whole cd_is_whole ct_is_whole, f_check_whole, PySem.W.fnOf "check_whole" "check_whole" (defArgs s_check_whole) (defBody s_check_whole) (defScope s_check_whole) .none kV_check_whole dc_check_whole pm_check_whole an_check_whole cd_check_whole ct_check_whole, f_word_orders, PySem.W.fnOf "word_orders" "word_orders" (defArgs s_word_orders) (defBody s_word_orders) (defScope s_word_orders) .none kV_word_orders dc_word_orders pm_word_orders an_word_orders cd_word_orders ct_word_orders, f_is_free, PySem.W.fnOf "is_free" "is_free" (defArgs s_is_free) (defBody s_is_free) (defScope s_is_free) .none kV_is_free dc_is_free pm_is_free an_is_free cd_is_free ct_is_free, f__law_deck, PySem.W.fnOf "_law_deck" "_law_deck" (defArgs s__law_deck) (defBody s__law_deck) (defScope s__law_deck) .none kV__law_deck dc__law_deck pm__law_deck an__law_deck cd__law_deck ct__law_deck, f__law_take, PySem.W.fnOf "_law_take" "_law_take" (defArgs s__law_take) (defBody s__law_take) (defScope s__law_take) .none kV__law_take dc__law_take pm__law_take an__law_take cd__law_take ct__law_take, f__law_plain, PySem.W.fnOf "_law_plain" "_law_plain" (defArgs s__law_plain) (defBody s__law_plain) (defScope s__law_plain) .none kV__law_plain dc__law_plain pm__law_plain an__law_plain cd__law_plain ct__law_plain, f__law_order, PySem.W.fnOf "_law_order" "_law_order" (defArgs s__law_order) (defBody s__law_order) (defScope s__law_order) .none kV__law_order dc__law_order pm__law_order an__law_order cd__law_order ct__law_order, f__law_orders, PySem.W.fnOf "_law_orders" "_law_orders" (defArgs s__law_orders) (defBody s__law_orders) (defScope s__law_orders) .none kV__law_orders dc__law_orders pm__law_orders an__law_orders cd__law_orders ct__law_orders, f__law_led, PySem.W.fnOf "_law_led" "_law_led" (defArgs s__law_led) (defBody s__law_led) (defScope s__law_led) .none kV__law_led dc__law_led pm__law_led an__law_led cd__law_led ct__law_led, f__law_letters, PySem.W.fnOf "_law_letters" "_law_letters" (defArgs s__law_letters) (defBody s__law_letters) (defScope s__law_letters) .none kV__law_letters dc__law_letters pm__law_letters an__law_letters cd__law_letters ct__law_letters, f__law_lots, PySem.W.fnOf "_law_lots" "_law_lots" (defArgs s__law_lots) (defBody s__law_lots) (defScope s__law_lots) .none kV__law_lots dc__law_lots pm__law_lots an__law_lots cd__law_lots ct__law_lots, f__law_made, PySem.W.fnOf "_law_made" "_law_made" (defArgs s__law_made) (defBody s__law_made) (defScope s__law_made) .none kV__law_made dc__law_made pm__law_made an__law_made cd__law_made ct__law_made, f__law_many, PySem.W.fnOf "_law_many" "_law_many" (defArgs s__law_many) (defBody s__law_many) (defScope s__law_many) .none kV__law_many dc__law_many pm__law_many an__law_many cd__law_many ct__law_many, fa, PySem.W.fnOf "law" "law" (defArgs s_law) (defBody s_law) (defScope s_law) .none kV_law dc_law pm_law an_law cd_law ct_law, C_InvalidWord, C_InvalidSociety, C_TooMany, C_Society⟩
  have T : Txt l.prog w A K mg := {
    d_is_class_word := ⟨PySem.W.mg_of X G a_is_class_word, F_is_class_word, b_is_class_word⟩,
    d_check_class_word := ⟨PySem.W.mg_of X G a_check_class_word, F_check_class_word, b_check_class_word⟩,
    d_is_order := ⟨PySem.W.mg_of X G a_is_order, F_is_order, b_is_order⟩,
    d_turned_back := ⟨PySem.W.mg_of X G a_turned_back, F_turned_back, b_turned_back⟩,
    d_Society_init := ⟨F_Society_init, b_Society_init⟩,
    d_Society_led := ⟨F_Society_led, b_Society_led⟩,
    d_Society_walked := ⟨F_Society_walked, b_Society_walked⟩,
    d_check_society := ⟨PySem.W.mg_of X G a_check_society, F_check_society, b_check_society⟩,
    d_check_class := ⟨PySem.W.mg_of X G a_check_class, F_check_class, b_check_class⟩,
    d_reached_from := ⟨PySem.W.mg_of X G a_reached_from, F_reached_from, b_reached_from⟩,
    d_parts_of := ⟨PySem.W.mg_of X G a_parts_of, F_parts_of, b_parts_of⟩,
    d_is_whole := ⟨PySem.W.mg_of X G a_is_whole, F_is_whole, b_is_whole⟩,
    d_check_whole := ⟨PySem.W.mg_of X G a_check_whole, F_check_whole, b_check_whole⟩,
    d_word_orders := ⟨PySem.W.mg_of X G a_word_orders, F_word_orders, b_word_orders⟩,
    d_is_free := ⟨PySem.W.mg_of X G a_is_free, F_is_free, b_is_free⟩,
    d__law_deck := ⟨PySem.W.mg_of X G a__law_deck, F__law_deck, b__law_deck⟩,
    d__law_take := ⟨PySem.W.mg_of X G a__law_take, F__law_take, b__law_take⟩,
    d__law_plain := ⟨PySem.W.mg_of X G a__law_plain, F__law_plain, b__law_plain⟩,
    d__law_order := ⟨PySem.W.mg_of X G a__law_order, F__law_order, b__law_order⟩,
    d__law_orders := ⟨PySem.W.mg_of X G a__law_orders, F__law_orders, b__law_orders⟩,
    d__law_led := ⟨PySem.W.mg_of X G a__law_led, F__law_led, b__law_led⟩,
    d__law_letters := ⟨PySem.W.mg_of X G a__law_letters, F__law_letters, b__law_letters⟩,
    d__law_lots := ⟨PySem.W.mg_of X G a__law_lots, F__law_lots, b__law_lots⟩,
    d__law_made := ⟨PySem.W.mg_of X G a__law_made, F__law_made, b__law_made⟩,
    d__law_many := ⟨PySem.W.mg_of X G a__law_many, F__law_many, b__law_many⟩,
    d_law := ⟨PySem.W.mg_of X G a_law, F_law, b_law⟩,
    z_abs := PySem.W.mg_none_of X G z_abs,
    z_all := PySem.W.mg_none_of X G z_all,
    z_bool := PySem.W.mg_none_of X G z_bool,
    z_enumerate := PySem.W.mg_none_of X G z_enumerate,
    z_int := PySem.W.mg_none_of X G z_int,
    z_isinstance := PySem.W.mg_none_of X G z_isinstance,
    z_len := PySem.W.mg_none_of X G z_len,
    z_list := PySem.W.mg_none_of X G z_list,
    z_min := PySem.W.mg_none_of X G z_min,
    z_range := PySem.W.mg_none_of X G z_range,
    z_set := PySem.W.mg_none_of X G z_set,
    z_sorted := PySem.W.mg_none_of X G z_sorted,
    z_str := PySem.W.mg_none_of X G z_str,
    z_tuple := PySem.W.mg_none_of X G z_tuple,
    g_LETTERS := ⟨t_LETTERS, PySem.W.mg_of X G g_LETTERS⟩,
    g_MOST_LETTERS := ⟨t_MOST_LETTERS, PySem.W.mg_of X G g_MOST_LETTERS⟩,
    g_MOST_CLASSES := ⟨t_MOST_CLASSES, PySem.W.mg_of X G g_MOST_CLASSES⟩,
    g_MOST_ELEMENTS := ⟨t_MOST_ELEMENTS, PySem.W.mg_of X G g_MOST_ELEMENTS⟩,
    n_InvalidWord := PySem.W.mg_of X G n_InvalidWord,
    e_InvalidWord := KW.errK1F cls_InvalidWord rv_InvalidWord sa_InvalidWord ga_InvalidWord gg_InvalidWord nW_InvalidWord nM_InvalidWord iC_InvalidWord tC_InvalidWord kC_InvalidWord exC_InvalidWord veC_InvalidWord tyC_InvalidWord hdC_InvalidWord (KW.exm_in exC_InvalidWord is_InvalidWord tyC_InvalidWord ss_InvalidWord) fn_InvalidWord co_InvalidWord code_InvalidWord v2_InvalidWord mf_InvalidWord cell_InvalidWord sm_InvalidWord_ (KW.su_of cls_InvalidWord cls_Kin hb_InvalidWord f_Kin) (PySem.W.mg_none_of X G z_super) mt hev_InvalidWord htop,
    n_InvalidSociety := PySem.W.mg_of X G n_InvalidSociety,
    e_InvalidSociety := KW.errK1F cls_InvalidSociety rv_InvalidSociety sa_InvalidSociety ga_InvalidSociety gg_InvalidSociety nW_InvalidSociety nM_InvalidSociety iC_InvalidSociety tC_InvalidSociety kC_InvalidSociety exC_InvalidSociety veC_InvalidSociety tyC_InvalidSociety hdC_InvalidSociety (KW.exm_in exC_InvalidSociety is_InvalidSociety tyC_InvalidSociety ss_InvalidSociety) fn_InvalidSociety co_InvalidSociety code_InvalidSociety v2_InvalidSociety mf_InvalidSociety cell_InvalidSociety sm_InvalidSociety_ (KW.su_of cls_InvalidSociety cls_Kin hb_InvalidSociety f_Kin) (PySem.W.mg_none_of X G z_super) mt hev_InvalidSociety htop,
    n_TooMany := PySem.W.mg_of X G n_TooMany,
    e_TooMany := KW.errK2F cls_TooMany rv_TooMany sa_TooMany ga_TooMany gg_TooMany nW_TooMany nM_TooMany iC_TooMany tC_TooMany kC_TooMany exC_TooMany veC_TooMany tyC_TooMany hdC_TooMany (KW.exm_in exC_TooMany is_TooMany tyC_TooMany ss_TooMany) fn_TooMany co_TooMany code_TooMany v2_TooMany mf_TooMany cell_TooMany sm_TooMany_ (KW.su_of cls_TooMany cls_Kin hb_TooMany f_Kin) (PySem.W.mg_none_of X G z_super) mt hev_TooMany htop,
    n_Society := PySem.W.mg_of X G n_Society,
    c_Society := ⟨pg_Society, hd_Society, po_Society, sa_Society⟩,
    k_Society := ⟨mk_Society, a_Society_init, i_Society_init, kc_Society⟩,
    m_Society_led := ⟨a_Society_led, i_Society_led, k_Society_led⟩,
    m_Society_walked := ⟨a_Society_walked, i_Society_walked, k_Society_walked⟩,
    a_Society_size := a_Society_size,
    a_Society_wives := a_Society_wives,
    a_Society_children := a_Society_children,
    a_Society_moves := a_Society_moves,
    i_Society := ⟨⟨pg_Society, hd_Society, po_Society, sa_Society⟩, ik_Society, ig_Society, it_Society, io_Society⟩ }
  exact ⟨PySem.W.fnOf "law" "law" (defArgs s_law) (defBody s_law) (defScope s_law) .none kV_law dc_law pm_law an_law cd_law ct_law, fun s v => .of_eq rfl, fun base _ _ => ok_law T⟩
end K71


open PySem PySem.W PyProof.Rows
set_option maxHeartbeats 0 in
theorem PySem.Challenge.cw_kinwork_k71_whole_elements_holds : PySem.Challenge.rw_kinwork_k71_whole_elements.Holds := by
  w_on; o_law; k_head; (case hw => w_witness2)
  k_fill
  refine L2.walk_of (l := PySem.Challenge.rw_kinwork_k71_whole_elements) (n := 63) (k := 12) (x := "script") (CX := fun w => L2.CX PySem.Challenge.rw_kinwork_k71_whole_elements.prog w) (sp := fun w => K71.spLaw _) rfl (by decide) rfl ⟨rfl, by decide, by decide⟩ (fun w h Y => PySem.W.kIn_of Y) ?F (fun _ _ _ _ hl _ hS => K71.law_start hl hS) (fun w H s e s' h => K71.law_out h)
  case F =>
    intro w mg fa h KX G hmg
    refine' K71.all_mk KX G hmg ?n_Kin ?cls_Kin ?f_Kin ?n_InvalidWord ?cls_InvalidWord ?rv_InvalidWord ?sa_InvalidWord ?ga_InvalidWord ?gg_InvalidWord ?nW_InvalidWord ?nM_InvalidWord ?iC_InvalidWord ?tC_InvalidWord ?kC_InvalidWord ?exC_InvalidWord ?veC_InvalidWord ?tyC_InvalidWord ?hdC_InvalidWord ?is_InvalidWord ?ss_InvalidWord ?fn_InvalidWord ?co_InvalidWord ?code_InvalidWord ?v2_InvalidWord ?mf_InvalidWord ?cell_InvalidWord ?sm_InvalidWord_ ?hb_InvalidWord ?hev_InvalidWord ?n_InvalidSociety ?cls_InvalidSociety ?rv_InvalidSociety ?sa_InvalidSociety ?ga_InvalidSociety ?gg_InvalidSociety ?nW_InvalidSociety ?nM_InvalidSociety ?iC_InvalidSociety ?tC_InvalidSociety ?kC_InvalidSociety ?exC_InvalidSociety ?veC_InvalidSociety ?tyC_InvalidSociety ?hdC_InvalidSociety ?is_InvalidSociety ?ss_InvalidSociety ?fn_InvalidSociety ?co_InvalidSociety ?code_InvalidSociety ?v2_InvalidSociety ?mf_InvalidSociety ?cell_InvalidSociety ?sm_InvalidSociety_ ?hb_InvalidSociety ?hev_InvalidSociety ?n_TooMany ?cls_TooMany ?rv_TooMany ?sa_TooMany ?ga_TooMany ?gg_TooMany ?nW_TooMany ?nM_TooMany ?iC_TooMany ?tC_TooMany ?kC_TooMany ?exC_TooMany ?veC_TooMany ?tyC_TooMany ?hdC_TooMany ?is_TooMany ?ss_TooMany ?fn_TooMany ?co_TooMany ?code_TooMany ?v2_TooMany ?mf_TooMany ?cell_TooMany ?sm_TooMany_ ?hb_TooMany ?hev_TooMany ?z_super ?mt ?htop ?n_Society ?pg_Society ?hd_Society ?po_Society ?sa_Society ?mk_Society ?kc_Society ?a_Society_size ?a_Society_wives ?a_Society_children ?a_Society_moves ?ik_Society ?ig_Society ?it_Society ?io_Society ?a_is_class_word ?l_is_class_word ?c_is_class_word ?k_is_class_word ?a_check_class_word ?l_check_class_word ?c_check_class_word ?k_check_class_word ?a_is_order ?l_is_order ?c_is_order ?k_is_order ?a_turned_back ?l_turned_back ?c_turned_back ?k_turned_back ?a_Society_init ?i_Society_init ?l_Society_init ?c_Society_init ?k_Society_init ?a_Society_led ?i_Society_led ?l_Society_led ?c_Society_led ?k_Society_led ?a_Society_walked ?i_Society_walked ?l_Society_walked ?c_Society_walked ?k_Society_walked ?a_check_society ?l_check_society ?c_check_society ?k_check_society ?a_check_class ?l_check_class ?c_check_class ?k_check_class ?a_reached_from ?l_reached_from ?c_reached_from ?k_reached_from ?a_parts_of ?l_parts_of ?c_parts_of ?k_parts_of ?a_is_whole ?l_is_whole ?c_is_whole ?k_is_whole ?a_check_whole ?l_check_whole ?c_check_whole ?k_check_whole ?a_word_orders ?l_word_orders ?c_word_orders ?k_word_orders ?a_is_free ?l_is_free ?c_is_free ?k_is_free ?a__law_deck ?l__law_deck ?c__law_deck ?k__law_deck ?a__law_take ?l__law_take ?c__law_take ?k__law_take ?a__law_plain ?l__law_plain ?c__law_plain ?k__law_plain ?a__law_order ?l__law_order ?c__law_order ?k__law_order ?a__law_orders ?l__law_orders ?c__law_orders ?k__law_orders ?a__law_led ?l__law_led ?c__law_led ?k__law_led ?a__law_letters ?l__law_letters ?c__law_letters ?k__law_letters ?a__law_lots ?l__law_lots ?c__law_lots ?k__law_lots ?a__law_made ?l__law_made ?c__law_made ?k__law_made ?a__law_many ?l__law_many ?c__law_many ?k__law_many ?a_law ?l_law ?c_law ?k_law ?z_abs ?z_all ?z_bool ?z_enumerate ?z_int ?z_isinstance ?z_len ?z_list ?z_min ?z_range ?z_set ?z_sorted ?z_str ?z_tuple ?g_LETTERS ?g_MOST_LETTERS ?g_MOST_CLASSES ?g_MOST_ELEMENTS
    (case n_Kin => k_is)
    (case cls_Kin => k_is)
    (case f_Kin => k_is)
    (case n_InvalidWord => k_is)
    (case cls_InvalidWord => k_is)
    (case rv_InvalidWord => first | rfl | decide +kernel)
    (case sa_InvalidWord => k_is)
    (case ga_InvalidWord => k_is)
    (case gg_InvalidWord => k_is)
    (case nW_InvalidWord => k_is)
    (case nM_InvalidWord => k_is)
    (case iC_InvalidWord => k_is)
    (case tC_InvalidWord => k_is)
    (case kC_InvalidWord => k_is)
    (case exC_InvalidWord => k_is)
    (case veC_InvalidWord => k_is)
    (case tyC_InvalidWord => k_is)
    (case hdC_InvalidWord => k_is)
    (case is_InvalidWord => k_is)
    (case ss_InvalidWord => k_is)
    (case fn_InvalidWord => k_is)
    (case co_InvalidWord => k_is)
    (case code_InvalidWord => k_is)
    (case v2_InvalidWord => rfl)
    (case mf_InvalidWord => first | rfl | decide +kernel)
    (case cell_InvalidWord => k_is)
    (case sm_InvalidWord_ => k_is)
    (case hb_InvalidWord => rfl)
    (case hev_InvalidWord => intro L; exact ⟨⟨_, by rfl⟩, by rfl⟩)
    (case n_InvalidSociety => k_is)
    (case cls_InvalidSociety => k_is)
    (case rv_InvalidSociety => first | rfl | decide +kernel)
    (case sa_InvalidSociety => k_is)
    (case ga_InvalidSociety => k_is)
    (case gg_InvalidSociety => k_is)
    (case nW_InvalidSociety => k_is)
    (case nM_InvalidSociety => k_is)
    (case iC_InvalidSociety => k_is)
    (case tC_InvalidSociety => k_is)
    (case kC_InvalidSociety => k_is)
    (case exC_InvalidSociety => k_is)
    (case veC_InvalidSociety => k_is)
    (case tyC_InvalidSociety => k_is)
    (case hdC_InvalidSociety => k_is)
    (case is_InvalidSociety => k_is)
    (case ss_InvalidSociety => k_is)
    (case fn_InvalidSociety => k_is)
    (case co_InvalidSociety => k_is)
    (case code_InvalidSociety => k_is)
    (case v2_InvalidSociety => rfl)
    (case mf_InvalidSociety => first | rfl | decide +kernel)
    (case cell_InvalidSociety => k_is)
    (case sm_InvalidSociety_ => k_is)
    (case hb_InvalidSociety => rfl)
    (case hev_InvalidSociety => intro L; exact ⟨⟨_, by rfl⟩, by rfl⟩)
    (case n_TooMany => k_is)
    (case cls_TooMany => k_is)
    (case rv_TooMany => first | rfl | decide +kernel)
    (case sa_TooMany => k_is)
    (case ga_TooMany => k_is)
    (case gg_TooMany => k_is)
    (case nW_TooMany => k_is)
    (case nM_TooMany => k_is)
    (case iC_TooMany => k_is)
    (case tC_TooMany => k_is)
    (case kC_TooMany => k_is)
    (case exC_TooMany => k_is)
    (case veC_TooMany => k_is)
    (case tyC_TooMany => k_is)
    (case hdC_TooMany => k_is)
    (case is_TooMany => k_is)
    (case ss_TooMany => k_is)
    (case fn_TooMany => k_is)
    (case co_TooMany => k_is)
    (case code_TooMany => k_is)
    (case v2_TooMany => rfl)
    (case mf_TooMany => first | rfl | decide +kernel)
    (case cell_TooMany => k_is)
    (case sm_TooMany_ => k_is)
    (case hb_TooMany => rfl)
    (case hev_TooMany => intro L; exact ⟨⟨_, by rfl⟩, by rfl⟩)
    (case z_super => k_is)
    (case mt => k_is)
    (case htop => first | rfl | decide +kernel)
    (case n_Society => k_is)
    (case pg_Society => k_is)
    (case hd_Society => k_is)
    (case po_Society => k_is)
    (case sa_Society => k_is)
    (case mk_Society => k_is)
    (case kc_Society => k_is)
    (case a_Society_size => k_is)
    (case a_Society_wives => k_is)
    (case a_Society_children => k_is)
    (case a_Society_moves => k_is)
    (case ik_Society => k_is)
    (case ig_Society => k_is)
    (case it_Society => k_is)
    (case io_Society => k_is)
    (case a_is_class_word => k_is)
    (case l_is_class_word => k_is)
    (case c_is_class_word => k_is)
    (case k_is_class_word => k_is)
    (case a_check_class_word => k_is)
    (case l_check_class_word => k_is)
    (case c_check_class_word => k_is)
    (case k_check_class_word => k_is)
    (case a_is_order => k_is)
    (case l_is_order => k_is)
    (case c_is_order => k_is)
    (case k_is_order => k_is)
    (case a_turned_back => k_is)
    (case l_turned_back => k_is)
    (case c_turned_back => k_is)
    (case k_turned_back => k_is)
    (case a_Society_init => k_is)
    (case i_Society_init => k_is)
    (case l_Society_init => k_is)
    (case c_Society_init => k_is)
    (case k_Society_init => k_is)
    (case a_Society_led => k_is)
    (case i_Society_led => k_is)
    (case l_Society_led => k_is)
    (case c_Society_led => k_is)
    (case k_Society_led => k_is)
    (case a_Society_walked => k_is)
    (case i_Society_walked => k_is)
    (case l_Society_walked => k_is)
    (case c_Society_walked => k_is)
    (case k_Society_walked => k_is)
    (case a_check_society => k_is)
    (case l_check_society => k_is)
    (case c_check_society => k_is)
    (case k_check_society => k_is)
    (case a_check_class => k_is)
    (case l_check_class => k_is)
    (case c_check_class => k_is)
    (case k_check_class => k_is)
    (case a_reached_from => k_is)
    (case l_reached_from => k_is)
    (case c_reached_from => k_is)
    (case k_reached_from => k_is)
    (case a_parts_of => k_is)
    (case l_parts_of => k_is)
    (case c_parts_of => k_is)
    (case k_parts_of => k_is)
    (case a_is_whole => k_is)
    (case l_is_whole => k_is)
    (case c_is_whole => k_is)
    (case k_is_whole => k_is)
    (case a_check_whole => k_is)
    (case l_check_whole => k_is)
    (case c_check_whole => k_is)
    (case k_check_whole => k_is)
    (case a_word_orders => k_is)
    (case l_word_orders => k_is)
    (case c_word_orders => k_is)
    (case k_word_orders => k_is)
    (case a_is_free => k_is)
    (case l_is_free => k_is)
    (case c_is_free => k_is)
    (case k_is_free => k_is)
    (case a__law_deck => k_is)
    (case l__law_deck => k_is)
    (case c__law_deck => k_is)
    (case k__law_deck => k_is)
    (case a__law_take => k_is)
    (case l__law_take => k_is)
    (case c__law_take => k_is)
    (case k__law_take => k_is)
    (case a__law_plain => k_is)
    (case l__law_plain => k_is)
    (case c__law_plain => k_is)
    (case k__law_plain => k_is)
    (case a__law_order => k_is)
    (case l__law_order => k_is)
    (case c__law_order => k_is)
    (case k__law_order => k_is)
    (case a__law_orders => k_is)
    (case l__law_orders => k_is)
    (case c__law_orders => k_is)
    (case k__law_orders => k_is)
    (case a__law_led => k_is)
    (case l__law_led => k_is)
    (case c__law_led => k_is)
    (case k__law_led => k_is)
    (case a__law_letters => k_is)
    (case l__law_letters => k_is)
    (case c__law_letters => k_is)
    (case k__law_letters => k_is)
    (case a__law_lots => k_is)
    (case l__law_lots => k_is)
    (case c__law_lots => k_is)
    (case k__law_lots => k_is)
    (case a__law_made => k_is)
    (case l__law_made => k_is)
    (case c__law_made => k_is)
    (case k__law_made => k_is)
    (case a__law_many => k_is)
    (case l__law_many => k_is)
    (case c__law_many => k_is)
    (case k__law_many => k_is)
    (case a_law => k_is)
    (case l_law => k_is)
    (case c_law => k_is)
    (case k_law => k_is)
    (case z_abs => k_is)
    (case z_all => k_is)
    (case z_bool => k_is)
    (case z_enumerate => k_is)
    (case z_int => k_is)
    (case z_isinstance => k_is)
    (case z_len => k_is)
    (case z_list => k_is)
    (case z_min => k_is)
    (case z_range => k_is)
    (case z_set => k_is)
    (case z_sorted => k_is)
    (case z_str => k_is)
    (case z_tuple => k_is)
    (case g_LETTERS => k_is)
    (case g_MOST_LETTERS => k_is)
    (case g_MOST_CLASSES => k_is)
    (case g_MOST_ELEMENTS => k_is)


