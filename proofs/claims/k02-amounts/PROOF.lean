import PyProof.Rows.All
import Wide.All
import OpenK.AllK
import Wide.FinOn
import KE.KStateDown
import HandS.ForMost
import HandS.Exc
import HandS.ExcInit
import HandS.WordsExc
import HandS.Defaults
import HandS.Flow
import HandS.Wide
import HandS.SlotsOwn
import HandS.Property
import HandS.ClsMeth
import HandS.OwnEq
import HandS.IsInst
import PyProof.ReprRoads
import HandS.RaiseMore
import HandS.Text
import HandS.Style
import HandS.HeadHook2
import HandS.HeadEnd
import HandS.Head0
import HandS.Head1
import HandS.Head2
import PyProof.ReprLen
import HandS.Words
import PySem.Challenge.RW_gangruns_k02_amounts_put_together
set_option Elab.async false
set_option linter.all false
set_option maxRecDepth 100000
set_option maxHeartbeats 4000000
/-! # Trees of data over the abstract heap -/
namespace PyD
open PySem PySem.Spec PyProof.Rows L2

/-- data as a tree: what never changes; `loc` points to a thing that does -/
inductive D where
  | non | bl (b : Bool) | int (i : Int) | str (x : Str)
  | tup (xs : List D) | lst (xs : List D) | dct (kvs : List (Key × D))
  | obj (c : Nat) (fs : List (Nat × D))
  | loc (a : Addr) | cls (c : Nat) | ty (n : String)

/-- a thing that changes -/
inductive MO where
  | inst (c : Nat) (fs : List (Nat × D)) | lst (xs : List D) | dct (kvs : List (Key × D))

abbrev Mst := Addr → Option MO
def updM (M : Mst) (a : Addr) (o : MO) : Mst := fun b => if b = a then some o else M b
def delM (M : Mst) (a : Addr) : Mst := fun b => if b = a then none else M b
theorem updM_same {M : Mst} {a : Addr} {o : MO} : updM M a o a = some o := if_pos rfl
theorem updM_ne {M : Mst} {a b : Addr} {o : MO} (h : b ≠ a) : updM M a o b = M b := if_neg h
theorem updM_updM {M : Mst} {a : Addr} {o u : MO} : updM (updM M a o) a u = updM M a u := by
  funext b; unfold updM; split <;> rfl
theorem delM_same {M : Mst} {a : Addr} : delM M a a = none := if_pos rfl
theorem delM_ne {M : Mst} {a b : Addr} (h : b ≠ a) : delM M a b = M b := if_neg h
theorem delM_updM {M : Mst} {a : Addr} {o : MO} (h : M a = none) : delM (updM M a o) a = M := by
  funext b
  unfold delM updM
  by_cases e : b = a
  · subst e; rw [if_pos rfl, h]
  · rw [if_neg e, if_neg e]
theorem updM_self {M : Mst} {a : Addr} {o : MO} (h : M a = some o) : updM M a o = M := by
  funext b
  unfold updM
  by_cases e : b = a
  · subst e; rw [if_pos rfl, h]
  · rw [if_neg e]
theorem updM_comm {M : Mst} {a b : Addr} {o u : MO} (h : a ≠ b) : updM (updM M a o) b u = updM (updM M b u) a o := by
  funext c
  unfold updM
  by_cases e : c = a
  · subst e; rw [if_neg h, if_pos rfl, if_pos rfl]
  · by_cases e2 : c = b
    · subst e2; rw [if_pos rfl, if_neg e, if_pos rfl]
    · rw [if_neg e2, if_neg e, if_neg e, if_neg e2]

/-- types of data -/
inductive Ty where
  | b (n : String) | c (c : Nat)
  deriving DecidableEq
/-- what the text's numbers stand for: classes, names, callables -/
structure Gam where
  cl : Nat → Addr
  nm : Nat → Str
  inj : ∀ i j, nm i = nm j → i = j
  /-- a class and a field of its instances -/
  fld : Nat → Nat → Bool
  /-- a class and a name: the def that stands there; as a property; with these keywords as a method, a static method, a class method -/
  dn : Nat → Nat → Option Nat
  pr : Nat → Nat → Option Nat
  dm : Nat → Nat → List Str → Option Nat
  sm : Nat → Nat → List Str → Option Nat
  cm : Nat → Nat → List Str → Option Nat
  /-- a callable: where it stands, the keywords of the call, its global name -/
  adr : Nat → Addr
  ks : Nat → List Str
  gn : Nat → Option Str
  /-- a class's global name; the module's constants -/
  cn : Nat → Option Str
  kon : Nat → Option (Str × D)
  ist : Ty → Ty → Option Bool
  /-- a callable that is a class -/
  isC : Nat → Bool

section
variable (K : PySem.W.Frag) (G : Gam) (I : Hp)
mutual
/-- v is the datum, by what never changes -/
def Rep : D → V → Prop
  | .non, v => v = .non
  | .bl b, v => v = .bl b
  | .int i, v => v = .int i
  | .str x, v => v = .str x
  | .tup ds, v => ∃ a vs, v = .ref a ∧ SqT K I a vs ∧ Reps ds vs
  | .lst ds, v => ∃ a vs, v = .ref a ∧ SqL K I a vs ∧ Reps ds vs
  | .dct kds, v => ∃ a kvs, v = .ref a ∧ I a = some (.dK kvs) ∧ RepK kds kvs
  | .obj c fs, v => ∃ a dx vfs, v = .ref a ∧ I a = some (.ins (G.cl c) dx vfs) ∧ RepF fs vfs
  | .loc a, v => v = .ref a
  | .cls c, v => v = .ref (G.cl c)
  | .ty n, v => v = .ty n
def Reps : List D → List V → Prop
  | [], vs => vs = []
  | d :: ds, vs => ∃ v r, vs = v :: r ∧ Rep d v ∧ Reps ds r
def RepK : List (Key × D) → List (Key × V) → Prop
  | [], vs => vs = []
  | (k, d) :: ds, vs => ∃ v r, vs = (k, v) :: r ∧ Rep d v ∧ RepK ds r
def RepF : List (Nat × D) → List (Str × V) → Prop
  | [], vs => vs = []
  | (k, d) :: ds, vs => ∃ v r, vs = (G.nm k, v) :: r ∧ Rep d v ∧ RepF ds r
end
/-- a changing thing, as it stands -/
def MRep : MO → HO → Prop
  | .inst c fs, o => ∃ dx vfs, o = .ins (G.cl c) dx vfs ∧ RepF K G I fs vfs
  | .lst ds, o => ∃ vs, o = .lst vs ∧ Reps K G I ds vs
  | .dct kds, o => ∃ kvs, o = .dK kvs ∧ RepK K G I kds kvs
end

def Ext (I I' : Hp) : Prop := ∀ a o, I a = some o → I' a = some o
theorem Ext.refl (I : Hp) : Ext I I := fun _ _ h => h
theorem Ext.trans {I J L : Hp} (a : Ext I J) (b : Ext J L) : Ext I L := fun c o h => b c o (a c o h)
theorem Ext.rd {I J : Hp} (e : Ext I J) {a : Addr} {u : HO} (h : Rd I a u) : Rd J a u := by
  rcases h with h | ⟨o, h⟩
  · exact .inl (e _ _ h)
  · exact .inr ⟨o, e _ _ h⟩
theorem Ext.sql {K : PySem.W.Frag} {I J : Hp} (e : Ext I J) {a : Addr} {xs : List V} (h : SqL K I a xs) : SqL K J a xs := h.imp e.rd id
theorem Ext.sqt {K : PySem.W.Frag} {I J : Hp} (e : Ext I J) {a : Addr} {xs : List V} (h : SqT K I a xs) : SqT K J a xs := h.imp e.rd id

section
variable {K : PySem.W.Frag} {G : Gam} {I I' : Hp}
mutual
theorem Rep.ext (e : Ext I I') : ∀ {d : D} {v : V}, Rep K G I d v → Rep K G I' d v
  | .non, _, h => h
  | .bl _, _, h => h
  | .int _, _, h => h
  | .str _, _, h => h
  | .tup ds, _, ⟨a, vs, h1, h2, h3⟩ => ⟨a, vs, h1, e.sqt h2, Reps.ext e h3⟩
  | .lst ds, _, ⟨a, vs, h1, h2, h3⟩ => ⟨a, vs, h1, e.sql h2, Reps.ext e h3⟩
  | .dct kds, _, ⟨a, kvs, h1, h2, h3⟩ => ⟨a, kvs, h1, e _ _ h2, RepK.ext e h3⟩
  | .obj c fs, _, ⟨a, dx, vfs, h1, h2, h3⟩ => ⟨a, dx, vfs, h1, e _ _ h2, RepF.ext e h3⟩
  | .loc _, _, h => h
  | .cls _, _, h => h
  | .ty _, _, h => h
theorem Reps.ext (e : Ext I I') : ∀ {ds : List D} {vs : List V}, Reps K G I ds vs → Reps K G I' ds vs
  | [], _, h => h
  | d :: ds, _, ⟨v, r, h1, h2, h3⟩ => ⟨v, r, h1, Rep.ext e h2, Reps.ext e h3⟩
theorem RepK.ext (e : Ext I I') : ∀ {ds : List (Key × D)} {vs : List (Key × V)}, RepK K G I ds vs → RepK K G I' ds vs
  | [], _, h => h
  | (k, d) :: ds, _, ⟨v, r, h1, h2, h3⟩ => ⟨v, r, h1, Rep.ext e h2, RepK.ext e h3⟩
theorem RepF.ext (e : Ext I I') : ∀ {ds : List (Nat × D)} {vs : List (Str × V)}, RepF K G I ds vs → RepF K G I' ds vs
  | [], _, h => h
  | (k, d) :: ds, _, ⟨v, r, h1, h2, h3⟩ => ⟨v, r, h1, Rep.ext e h2, RepF.ext e h3⟩
end
theorem MRep.ext (e : Ext I I') {m : MO} {o : HO} (h : MRep K G I m o) : MRep K G I' m o := by
  cases m with
  | inst c fs => obtain ⟨dx, vfs, h1, h2⟩ := h; exact ⟨dx, vfs, h1, h2.ext e⟩
  | lst ds => obtain ⟨vs, h1, h2⟩ := h; exact ⟨vs, h1, h2.ext e⟩
  | dct kds => obtain ⟨kvs, h1, h2⟩ := h; exact ⟨kvs, h1, h2.ext e⟩
theorem Reps.nil : Reps K G I [] [] := by unfold Reps; rfl
theorem Reps.cons {d : D} {v : V} {ds : List D} {vs : List V} (h : Rep K G I d v) (t : Reps K G I ds vs) : Reps K G I (d :: ds) (v :: vs) := by
  unfold Reps; exact ⟨v, vs, rfl, h, t⟩
theorem Reps.length : ∀ {ds : List D} {vs : List V}, Reps K G I ds vs → vs.length = ds.length
  | [], vs, h => by unfold Reps at h; subst h; rfl
  | d :: ds, vs, h => by
    unfold Reps at h
    obtain ⟨v, r, rfl, _, t⟩ := h
    simp [Reps.length t]
theorem RepK.length : ∀ {ds : List (Key × D)} {vs : List (Key × V)}, RepK K G I ds vs → vs.length = ds.length
  | [], vs, h => by unfold RepK at h; subst h; rfl
  | (k, d) :: ds, vs, h => by
    unfold RepK at h
    obtain ⟨v, r, rfl, _, t⟩ := h
    simp [RepK.length t]
theorem Reps.get : ∀ {ds : List D} {vs : List V} {i : Nat} {d : D}, Reps K G I ds vs → ds[i]? = some d → ∃ v, vs[i]? = some v ∧ Rep K G I d v
  | [], _, _, _, _, e => by simp at e
  | d :: ds, vs, i, x, h, e => by
    unfold Reps at h
    obtain ⟨v, r, rfl, hv, t⟩ := h
    cases i with
    | zero => simp at e; subst e; exact ⟨v, rfl, hv⟩
    | succ i => simpa using Reps.get (i := i) t (by simpa using e)
theorem Reps.get' : ∀ {ds : List D} {vs : List V} {i : Nat} {v : V}, Reps K G I ds vs → vs[i]? = some v → ∃ d, ds[i]? = some d ∧ Rep K G I d v
  | [], vs, _, _, h, e => by unfold Reps at h; subst h; simp at e
  | d :: ds, vs, i, x, h, e => by
    unfold Reps at h
    obtain ⟨v, r, rfl, hv, t⟩ := h
    cases i with
    | zero => simp at e; subst e; exact ⟨d, rfl, hv⟩
    | succ i => simpa using Reps.get' (i := i) t (by simpa using e)
theorem Reps.append : ∀ {ds es : List D} {vs ws : List V}, Reps K G I ds vs → Reps K G I es ws → Reps K G I (ds ++ es) (vs ++ ws)
  | [], _, vs, _, h, t => by unfold Reps at h; subst h; exact t
  | d :: ds, _, vs, _, h, t => by
    unfold Reps at h
    obtain ⟨v, r, rfl, hv, q⟩ := h
    exact .cons hv (q.append t)
theorem Reps.set : ∀ {ds : List D} {vs : List V} {d : D} {v : V} (i : Nat), Rep K G I d v → Reps K G I ds vs → Reps K G I (ds.set i d) (vs.set i v)
  | [], vs, _, _, _, _, h => by unfold Reps at h; subst h; exact .nil
  | x :: ds, vs, d, v, i, hr, h => by
    unfold Reps at h
    obtain ⟨y, r, rfl, hv, q⟩ := h
    cases i with
    | zero => exact .cons hr q
    | succ i => exact .cons hv (q.set i hr)
theorem Reps.take : ∀ {ds : List D} {vs : List V} (n : Nat), Reps K G I ds vs → Reps K G I (ds.take n) (vs.take n)
  | _, _, 0, _ => .nil
  | [], vs, n + 1, h => by unfold Reps at h; subst h; exact .nil
  | x :: ds, vs, n + 1, h => by
    unfold Reps at h
    obtain ⟨y, r, rfl, hv, q⟩ := h
    exact .cons hv (q.take n)
theorem Reps.drop : ∀ {ds : List D} {vs : List V} (n : Nat), Reps K G I ds vs → Reps K G I (ds.drop n) (vs.drop n)
  | _, _, 0, h => h
  | [], vs, n + 1, h => by unfold Reps at h; subst h; exact .nil
  | x :: ds, vs, n + 1, h => by
    unfold Reps at h
    obtain ⟨y, r, rfl, hv, q⟩ := h
    exact q.drop n
theorem Reps.ints : ∀ (ns : List Int), Reps K G I (ns.map D.int) (ns.map V.int)
  | [] => .nil
  | n :: ns => .cons (by unfold Rep; rfl) (Reps.ints ns)
end

/-- what stands in I stands in H; a dict may be locked there -/
def Sub (I H : Hp) : Prop := ∀ a o, I a = some o → H a = some o ∨ ∃ kvs ob, o = .dK kvs ∧ H a = some (.frz ob o)
section
variable {K : PySem.W.Frag} {I H : Hp} {a : Addr}
theorem Sub.rd (s : Sub I H) {u : HO} (h : Rd I a u) : Rd H a u := by
  rcases h with h | ⟨o, h⟩
  · rcases s _ _ h with h | ⟨kvs, ob, rfl, h⟩
    · exact .inl h
    · exact .inr ⟨ob, h⟩
  · rcases s _ _ h with h | ⟨kvs, ob, e, h⟩
    · exact .inr ⟨o, h⟩
    · cases e
theorem Sub.sql (s : Sub I H) {xs : List V} (h : SqL K I a xs) : SqL K H a xs := h.imp s.rd id
theorem Sub.sqt (s : Sub I H) {xs : List V} (h : SqT K I a xs) : SqT K H a xs := h.imp s.rd id
theorem Sub.ins (s : Sub I H) {C dx : Addr} {fs : List (Str × V)} (h : I a = some (.ins C dx fs)) : H a = some (.ins C dx fs) := by
  rcases s _ _ h with h | ⟨kvs, ob, e, h⟩
  · exact h
  · cases e
theorem Sub.dK (s : Sub I H) {kvs : List (Key × V)} (h : I a = some (.dK kvs)) : Rd H a (.dK kvs) := s.rd (.inl h)
end

/-- the three heaps go together -/
structure Good (K : PySem.W.Frag) (G : Gam) (I : Hp) (M : Mst) (H : Hp) : Prop where
  sub : Sub I H
  mst : ∀ a mo, M a = some mo → I a = none ∧ ∃ o, H a = some o ∧ MRep K G I mo o
  inI : ∀ a o, I a = some o → (∃ xs, o = .lst xs) ∨ (∃ xs, o = .tup xs) ∨ (∃ xs, o = .dK xs) ∨ (∃ C dx fs, o = .ins C dx fs) ∨ ∃ ob u, o = .frz ob u

/-- from one state to a later one; what neither may change stands (at Lk: dicts that are locked meanwhile) -/
structure Frm (I : Hp) (M : Mst) (H : Hp) (I' : Hp) (M' : Mst) (H' : Hp) : Prop where
  ext : Ext I I'
  kept : ∀ a o, H a = some o → M a = none → H' a = some o
  apart : ∀ a o, H a = some o → I a = none → M a = none → I' a = none ∧ M' a = none
  there : ∀ a o, H a = some o → ∃ o', H' a = some o'
theorem Frm.refl {I : Hp} {M : Mst} {H : Hp} : Frm I M H I M H := ⟨.refl I, fun _ _ h _ => h, fun _ _ _ h h' => ⟨h, h'⟩, fun a o h => ⟨o, h⟩⟩
theorem Frm.trans {K : PySem.W.Frag} {G : Gam} {I I1 I2 : Hp} {M M1 M2 : Mst} {H H1 H2 : Hp} (g : Good K G I1 M1 H1) (a : Frm I M H I1 M1 H1) (b : Frm I1 M1 H1 I2 M2 H2) : Frm I M H I2 M2 H2 := by
  refine ⟨a.ext.trans b.ext, fun c o h1 h2 => ?_, fun c o h1 h2 h3 => ?_, fun c o h => ?_⟩
  · have hM : M1 c = none := by
      cases e : I c with
      | none => exact (a.apart c o h1 e h2).2
      | some u =>
        cases q : M1 c with
        | none => rfl
        | some mo =>
          have := (g.mst c mo q).1
          rw [a.ext c u e] at this
          cases this
    exact b.kept c o (a.kept c o h1 h2) hM
  · obtain ⟨e1, e2⟩ := a.apart c o h1 h2 h3
    obtain ⟨o', e3⟩ := a.there c o h1
    exact b.apart c o' e3 e1 e2
  · obtain ⟨o', e⟩ := a.there c o h
    exact b.there c o' e

section
variable {K : PySem.W.Frag} {G : Gam} {I : Hp} {M : Mst} {H : Hp} {p : Addr} {o : HO}
theorem Good.freeI (g : Good K G I M H) (n : H p = none) : I p = none := by
  cases e : I p with
  | none => rfl
  | some u =>
    rcases g.sub p u e with h | ⟨_, _, _, h⟩ <;> rw [n] at h <;> cases h
theorem Good.freeM (g : Good K G I M H) (n : H p = none) : M p = none := by
  cases e : M p with
  | none => rfl
  | some u =>
    obtain ⟨_, o, h, _⟩ := g.mst p u e
    rw [n] at h; cases h
/-- a new thing that never changes -/
theorem Good.addI (g : Good K G I M H) (n : H p = none) (ok : (∃ xs, o = .lst xs) ∨ (∃ xs, o = .tup xs) ∨ (∃ xs, o = .dK xs) ∨ (∃ C dx fs, o = .ins C dx fs) ∨ ∃ ob u, o = .frz ob u) : Good K G (upd I p o) M (upd H p o) := by
  have nI := g.freeI n
  have ex : Ext I (upd I p o) := fun a u h => by rw [upd_ne (ne_of_none h nI)]; exact h
  refine ⟨fun a u h => ?_, fun a mo h => ?_, fun a u h => ?_⟩
  · by_cases e : a = p
    · subst e; rw [upd_same] at h; cases h; exact .inl upd_same
    · rw [upd_ne e] at h ⊢; exact g.sub a u h
  · obtain ⟨h1, u, h2, h3⟩ := g.mst a mo h
    have e : a ≠ p := ne_of_none h2 n
    exact ⟨by rw [upd_ne e]; exact h1, u, by rw [upd_ne e]; exact h2, h3.ext ex⟩
  · by_cases e : a = p
    · subst e; rw [upd_same] at h; cases h; exact ok
    · rw [upd_ne e] at h; exact g.inI a u h
theorem Good.addI_frm (g : Good K G I M H) (n : H p = none) : Frm I M H (upd I p o) M (upd H p o) := by
  have nI := g.freeI n
  refine ⟨fun a u h => by rw [upd_ne (ne_of_none h nI)]; exact h, fun a u h _ => ?_, fun a u h h1 h2 => ⟨?_, h2⟩, fun a u h => ⟨u, ?_⟩⟩
  · rw [upd_ne (ne_of_none h n)]; exact h
  · rw [upd_ne (ne_of_none h n)]; exact h1
  · rw [upd_ne (ne_of_none h n)]; exact h
/-- a thing of H alone, untracked by I and M -/
theorem Good.addH (g : Good K G I M H) (n : H p = none) : Good K G I M (upd H p o) := by
  refine ⟨fun a u h => ?_, fun a mo h => ?_, g.inI⟩
  · have e : a ≠ p := ne_of_none h (g.freeI n)
    rw [upd_ne e]; exact g.sub a u h
  · obtain ⟨h1, u, h2, h3⟩ := g.mst a mo h
    exact ⟨h1, u, by rw [upd_ne (ne_of_none h2 n)]; exact h2, h3⟩
theorem Good.addH_frm (g : Good K G I M H) (n : H p = none) : Frm I M H I M (upd H p o) :=
  ⟨.refl I, fun a u h _ => (by rw [upd_ne (ne_of_none h n)]; exact h), fun a u h h1 h2 => ⟨h1, h2⟩, fun a u h => ⟨u, by rw [upd_ne (ne_of_none h n)]; exact h⟩⟩
/-- a new thing that changes -/
theorem Good.addM {mo : MO} (g : Good K G I M H) (n : H p = none) (r : MRep K G I mo o) : Good K G I (updM M p mo) (upd H p o) := by
  refine ⟨fun a u h => ?_, fun a m h => ?_, g.inI⟩
  · have e : a ≠ p := ne_of_none h (g.freeI n)
    rw [upd_ne e]; exact g.sub a u h
  · by_cases e : a = p
    · subst e; rw [updM_same] at h; cases h; exact ⟨g.freeI n, o, upd_same, r⟩
    · rw [updM_ne e] at h
      obtain ⟨h1, u, h2, h3⟩ := g.mst a m h
      exact ⟨h1, u, by rw [upd_ne e]; exact h2, h3⟩
theorem Good.addM_frm {mo : MO} (g : Good K G I M H) (n : H p = none) : Frm I M H I (updM M p mo) (upd H p o) :=
  ⟨.refl I, fun a u h _ => (by rw [upd_ne (ne_of_none h n)]; exact h), fun a u h h1 h2 => ⟨h1, by rw [updM_ne (ne_of_none h n)]; exact h2⟩, fun a u h => ⟨u, by rw [upd_ne (ne_of_none h n)]; exact h⟩⟩
/-- a changing thing is changed -/
theorem Good.setM {mo mo' : MO} (g : Good K G I M H) (h : M p = some mo) (r : MRep K G I mo' o) : Good K G I (updM M p mo') (upd H p o) := by
  have nI := (g.mst p mo h).1
  refine ⟨fun a u h => ?_, fun a m h => ?_, g.inI⟩
  · have e : a ≠ p := ne_of_none h nI
    rw [upd_ne e]; exact g.sub a u h
  · by_cases e : a = p
    · subst e; rw [updM_same] at h; cases h; exact ⟨nI, o, upd_same, r⟩
    · rw [updM_ne e] at h
      obtain ⟨h1, u, h2, h3⟩ := g.mst a m h
      exact ⟨h1, u, by rw [upd_ne e]; exact h2, h3⟩
theorem Good.setM_frm {mo mo' : MO} (g : Good K G I M H) (h : M p = some mo) : Frm I M H I (updM M p mo') (upd H p o) := by
  refine ⟨.refl I, fun a u h1 h2 => ?_, fun a u h1 h2 h3 => ⟨h2, ?_⟩, fun a u h1 => ?_⟩
  · have e : a ≠ p := fun z => by subst z; rw [h] at h2; cases h2
    rw [upd_ne e]; exact h1
  · have e : a ≠ p := fun z => by subst z; rw [h] at h3; cases h3
    rw [updM_ne e]; exact h3
  · by_cases e : a = p
    · subst e; exact ⟨o, upd_same⟩
    · exact ⟨u, by rw [upd_ne e]; exact h1⟩
/-- from here on it never changes -/
theorem Good.freeze {mo : MO} (g : Good K G I M H) (h : M p = some mo) : ∃ o, H p = some o ∧ MRep K G I mo o ∧ Good K G (upd I p o) (delM M p) H ∧ Frm I M H (upd I p o) (delM M p) H := by
  obtain ⟨nI, o, ho, r⟩ := g.mst p mo h
  have ex : Ext I (upd I p o) := fun a u h => by rw [upd_ne (ne_of_none h nI)]; exact h
  refine ⟨o, ho, r, ⟨fun a u h => ?_, fun a m h => ?_, fun a u h => ?_⟩, ex, fun a u h _ => h, fun a u h1 h2 h3 => ?_, fun a u h => ⟨u, h⟩⟩
  · by_cases e : a = p
    · subst e; rw [upd_same] at h; cases h; exact .inl ho
    · rw [upd_ne e] at h; exact g.sub a u h
  · have e : a ≠ p := fun z => by subst z; rw [delM_same] at h; cases h
    rw [delM_ne e] at h
    obtain ⟨h1, u, h2, h3⟩ := g.mst a m h
    exact ⟨by rw [upd_ne e]; exact h1, u, h2, h3.ext ex⟩
  · by_cases e : a = p
    · subst e; rw [upd_same] at h; cases h
      cases mo with
      | inst c fs => obtain ⟨dx, vfs, e, _⟩ := r; exact .inr (.inr (.inr (.inl ⟨_, _, _, e⟩)))
      | lst ds => obtain ⟨vs, e, _⟩ := r; exact .inl ⟨_, e⟩
      | dct kds => obtain ⟨kvs, e, _⟩ := r; exact .inr (.inr (.inl ⟨_, e⟩))
    · rw [upd_ne e] at h; exact g.inI a u h
  · have e : a ≠ p := fun z => by subst z; rw [h] at h3; cases h3
    exact ⟨by rw [upd_ne e]; exact h2, by rw [delM_ne e]; exact h3⟩
end
end PyD
set_option Elab.async false
set_option linter.all false
set_option maxRecDepth 100000
set_option maxHeartbeats 4000000
/-! # Readings over trees, and their soundness: the general part -/
namespace PyD
open PySem PySem.Spec L2

abbrev KD := D → Mst → Prop
abbrev ED := Nat → List (Nat × D) → Mst → Prop
abbrev SpD := List D → Mst → KD → ED → Prop
abbrev Slots := List (Option D)
/-- an expression's meaning over trees -/
abbrev TD := Slots → Mst → KD → ED → Prop
/-- an argument list's -/
abbrev TDs := Slots → Mst → (List D → Mst → Prop) → ED → Prop

/-- where a def was entered -/
structure Bs where
  I : Hp
  M : Mst
  H : Hp

section
variable (K : PySem.W.Frag) (G : Gam)
def EnvRep (I : Hp) (σ : St) (ρ : Slots) : Prop := ρ.length = σ.length ∧ ∀ (i : Nat) (d : D), ρ[i]? = some (some d) → ∃ v, σ[i]? = some (some v) ∧ Rep K G I d v
structure SR (B : Bs) (σ : St) (H : Hp) (ρ : Slots) (M : Mst) (I : Hp) : Prop where
  env : EnvRep K G I σ ρ
  good : Good K G I M H
  frm : Frm B.I B.M B.H I M H
/-- an exception: its class, the dict of its fields -/
def ERep (I H : Hp) (c : Nat) (fs : List (Nat × D)) (cls : Value) (dx : Option Addr) : Prop :=
  cls = .ref (G.cl c) ∧ ((fs = [] ∧ dx = none) ∨ ∃ d vfs, dx = some d ∧ H d = some (.xd vfs) ∧ RepF K G I fs vfs)
def OkC (B : Bs) (σ : St) (ρ : Slots) (I : Hp) (K1 : KD) (Q : VK) : Prop :=
  ∀ d M' v H' I', K1 d M' → Ext I I' → SR K G B σ H' ρ M' I' → Rep K G I' d v → Q v H'
def OkCs (B : Bs) (σ : St) (ρ : Slots) (I : Hp) (K1 : List D → Mst → Prop) (Q : List V → Hp → Prop) : Prop :=
  ∀ ds M' vs H' I', K1 ds M' → Ext I I' → SR K G B σ H' ρ M' I' → Reps K G I' ds vs → Q vs H'
def ErC (B : Bs) (W : WX) (σ : St) (ρ : Slots) (E1 : ED) : Prop :=
  ∀ c fs M' cls dx H' I', E1 c fs M' → SR K G B σ H' ρ M' I' → ERep K G I' H' c fs cls dx → W cls dx σ H'
def TEx (B : Bs) (W : WX) (t : TD) : TE := fun σ H Q => ∃ ρ M I K1 E1, SR K G B σ H ρ M I ∧ t ρ M K1 E1 ∧ OkC K G B σ ρ I K1 Q ∧ ErC K G B W σ ρ E1
def TAx (B : Bs) (W : WX) (t : TDs) : TA := fun σ H Q => ∃ ρ M I K1 E1, SR K G B σ H ρ M I ∧ t ρ M K1 E1 ∧ OkCs K G B σ ρ I K1 Q ∧ ErC K G B W σ ρ E1
/-- a test -/
def TTx (B : Bs) (W : WX) (t : TD) : TT := fun σ H Q => ∃ ρ M I K1 E1, SR K G B σ H ρ M I ∧ t ρ M K1 E1 ∧
  (∀ d M' H' I', K1 d M' → Ext I I' → SR K G B σ H' ρ M' I' → ∃ b, d = .bl b ∧ Q b H') ∧ ErC K G B W σ ρ E1
/-- behind a value -/
def TEd (B : Bs) (W : WX) (t : D → TD) (x : V) : St → Hp → VK → Prop := fun σ H Q => ∃ ρ M I K1 E1 d, SR K G B σ H ρ M I ∧ Rep K G I d x ∧ t d ρ M K1 E1 ∧ OkC K G B σ ρ I K1 Q ∧ ErC K G B W σ ρ E1
def TEd2 (B : Bs) (W : WX) (t : D → D → TD) (x y : V) : St → Hp → VK → Prop := fun σ H Q => ∃ ρ M I K1 E1 d e, SR K G B σ H ρ M I ∧ Rep K G I d x ∧ Rep K G I e y ∧ t d e ρ M K1 E1 ∧ OkC K G B σ ρ I K1 Q ∧ ErC K G B W σ ρ E1
def TEds (B : Bs) (W : WX) (t : List D → TD) (xs : List V) : St → Hp → VK → Prop := fun σ H Q => ∃ ρ M I K1 E1 ds, SR K G B σ H ρ M I ∧ Reps K G I ds xs ∧ t ds ρ M K1 E1 ∧ OkC K G B σ ρ I K1 Q ∧ ErC K G B W σ ρ E1
end
/-- one behind another -/
def bindD (a : TD) (f : D → TD) : TD := fun ρ M K E => a ρ M (fun d M1 => f d ρ M1 K E) E
def bind2 (a b : TD) (f : D → D → TD) : TD := bindD a fun d => bindD b fun e => f d e
def bindDs (a : TDs) (f : List D → TD) : TD := fun ρ M K E => a ρ M (fun ds M1 => f ds ρ M1 K E) E
def consD (a : TD) (b : TDs) : TDs := fun ρ M K E => a ρ M (fun d M1 => b ρ M1 (fun ds M2 => K (d :: ds) M2) E) E
def nilD : TDs := fun _ M K _ => K [] M

section
variable {K : PySem.W.Frag} {G : Gam} {B : Bs} {W : WX} {σ : St} {H : Hp} {ρ : Slots} {M : Mst} {I I' : Hp} {K1 : KD} {E1 : ED} {Q : VK}
theorem OkC.mono (h : OkC K G B σ ρ I K1 Q) (e : Ext I I') : OkC K G B σ ρ I' K1 Q := fun d M' v H' J k x s r => h d M' v H' J k (e.trans x) s r
theorem SR.set (s : SR K G B σ H ρ M I) {i : Nat} {d : D} {v : V} (r : Rep K G I d v) : SR K G B (σ.set i (some v)) H (ρ.set i (some d)) M I := by
  obtain ⟨⟨l, e⟩, g, f⟩ := s
  refine ⟨⟨by simp [l], fun j x h => ?_⟩, g, f⟩
  by_cases c : j = i
  · subst c
    have lt : j < ρ.length := by
      have := List.getElem?_eq_some_iff.mp h
      obtain ⟨q, _⟩ := this
      simpa using q
    rw [List.getElem?_set_self lt] at h
    cases h
    exact ⟨v, by rw [List.getElem?_set_self (by omega)], r⟩
  · rw [List.getElem?_set_ne (Ne.symm c)] at h ⊢
    exact e j x h
theorem SR.step (s : SR K G B σ H ρ M I) {H' : Hp} {M' : Mst} (g : Good K G I' M' H') (f : Frm I M H I' M' H') : SR K G B σ H' ρ M' I' := by
  obtain ⟨⟨l, e⟩, g0, f0⟩ := s
  exact ⟨⟨l, fun j x h => let ⟨v, a, b⟩ := e j x h; ⟨v, a, b.ext f.ext⟩⟩, g, f0.trans g0 f⟩
theorem tex_bind {a : TD} {f : D → TD} (h : TEx K G B W (bindD a f) σ H Q) : TEx K G B W a σ H fun x H1 => TEd K G B W f x σ H1 Q := by
  obtain ⟨ρ, M, I, K1, E1, s, t, ok, er⟩ := h
  exact ⟨ρ, M, I, _, E1, s, t, fun d M' v H' I' k e s' r => ⟨ρ, M', I', K1, E1, d, s', r, k, ok.mono e, er⟩, er⟩
theorem tex_bind2 {a b : TD} {f : D → D → TD} (h : TEx K G B W (bind2 a b f) σ H Q) : TEx K G B W a σ H fun x H1 => TEx K G B W b σ H1 fun y H2 => TEd2 K G B W f x y σ H2 Q := by
  obtain ⟨ρ, M, I, K1, E1, s, t, ok, er⟩ := h
  exact ⟨ρ, M, I, _, E1, s, t, fun d M' v H' I' k e s' r => ⟨ρ, M', I', _, E1, s', k, fun d2 M2 v2 H2 I2 k2 e2 s2 r2 => ⟨ρ, M2, I2, K1, E1, d, d2, s2, r.ext e2, r2, k2, ok.mono (e.trans e2), er⟩, er⟩, er⟩
theorem tex_binds {a : TDs} {f : List D → TD} (h : TEx K G B W (bindDs a f) σ H Q) : TAx K G B W a σ H fun xs H1 => TEds K G B W f xs σ H1 Q := by
  obtain ⟨ρ, M, I, K1, E1, s, t, ok, er⟩ := h
  exact ⟨ρ, M, I, _, E1, s, t, fun ds M' vs H' I' k e s' r => ⟨ρ, M', I', K1, E1, ds, s', r, k, ok.mono e, er⟩, er⟩
end

/-- operations by values -/
def Op1 (X : Cx) (G : Gam) (B : Bs) (W : WX) (f : Value → Sem Value) (t : D → TD) : Prop :=
  ∀ pins s σ H Q x v, Inv X pins σ H s → RelV x v → TEd X.K G B W t x σ H Q → wpAny (model X.prog X.w) X.A (f v) (EP X pins σ Q) X.xe s
def Op2 (X : Cx) (G : Gam) (B : Bs) (W : WX) (f : Value → Value → Sem Value) (t : D → D → TD) : Prop :=
  ∀ pins s σ H Q x y v u, Inv X pins σ H s → RelV x v → RelV y u → TEd2 X.K G B W t x y σ H Q → wpAny (model X.prog X.w) X.A (f v u) (EP X pins σ Q) X.xe s
def OpN (X : Cx) (G : Gam) (B : Bs) (W : WX) (f : List Value → Sem Value) (t : List D → TD) : Prop :=
  ∀ pins s σ H Q xs us, Inv X pins σ H s → Vals xs us → TEds X.K G B W t xs σ H Q → wpAny (model X.prog X.w) X.A (f us) (EP X pins σ Q) X.xe s
section
variable {X : Cx} {G : Gam} {B : Bs} {W : WX}
theorem PE.imp {e : Expr} {t t' : TE} (h : PE X e t) (k : ∀ σ H Q, t' σ H Q → t σ H Q) : PE X e t' := ⟨fun pins s σ H Q I q => h.run pins s σ H Q I (k σ H Q q)⟩
theorem PT.imp {e : Expr} {t t' : TT} (h : PT X e t) (k : ∀ σ H Q, t' σ H Q → t σ H Q) : PT X e t' := ⟨fun pins s σ H Q I q => h.run pins s σ H Q I (k σ H Q q)⟩
theorem PA.imp {e : List Expr} {t t' : TA} (h : PA X e t) (k : ∀ σ H Q, t' σ H Q → t σ H Q) : PA X e t' := ⟨fun pos pins s σ H Q I q => h.run pos pins s σ H Q I (k σ H Q q)⟩
theorem pd_bin {a b : Expr} {ta tb : TD} {f : D → D → TD} {op : Operator} {pos : Pos} (ha : PE X a (TEx X.K G B W ta)) (hb : PE X b (TEx X.K G B W tb)) (ho : Op2 X G B W (binaryOp op) f) :
    PE X (.BinOp a op b pos) (TEx X.K G B W (bind2 ta tb f)) := by
  refine ⟨fun pins s σ H Q I h => wpAny_BinOp (L2.bin ha hb I (tex_bind2 h) fun v u s2 x y H2 I2 rx ry q => ?_)⟩
  exact ho pins s2 σ H2 Q x y v u I2 rx ry q
theorem pd_cmp {a b : Expr} {ta tb : TD} {f : D → D → TD} {op : CmpOp} {pos : Pos} (ha : PE X a (TEx X.K G B W ta)) (hb : PE X b (TEx X.K G B W tb)) (ho : Op2 X G B W (compareOp op) f) (hm : behindInMarks op b = false) :
    PE X (.Compare a [op] [b] pos) (TEx X.K G B W (bind2 ta tb f)) := by
  refine ⟨fun pins s σ H Q I h => wpAny_Compare1 (L2.bin ha hb I (tex_bind2 h) fun v u s2 x y H2 I2 rx ry q => ?_) hm⟩
  exact ho pins s2 σ H2 Q x y v u I2 rx ry q
theorem pd_nil : PA X [] (TAx X.K G B W nilD) := by
  refine PA.imp pa_nil fun σ H Q h => ?_
  obtain ⟨ρ, M, I, K1, E1, s, t, ok, er⟩ := h
  exact ok [] M [] H I t (.refl I) s .nil
theorem pd_cons {e : Expr} {es : List Expr} {te : TD} {t : TDs} (ha : PE X e (TEx X.K G B W te)) (hr : PA X es (TAx X.K G B W t)) (hs : starEach (e :: es) X.env = (false, eval e X.env) :: starEach es X.env) :
    PA X (e :: es) (TAx X.K G B W (consD te t)) := by
  refine PA.imp (pa_cons ha hr hs) fun σ H Q h => ?_
  obtain ⟨ρ, M, I, K1, E1, s, q, ok, er⟩ := h
  exact ⟨ρ, M, I, _, E1, s, q, fun d M' v H' I' k e s' r => ⟨ρ, M', I', _, E1, s', k, fun ds M2 vs H2 I2 k2 e2 s2 r2 => ok _ _ _ _ _ k2 (e.trans e2) s2 (.cons (r.ext e2) r2), er⟩, er⟩
/-! names, constants -/
def varD (i : Nat) : TD := fun ρ M K _ => match ρ[i]? with
  | some (some d) => K d M
  | _ => False
def conD (d : D) : TD := fun _ M K _ => K d M
theorem pd_var {i : Nat} {x : Str} {pos : Pos} (h : PE X (.Name x pos) (tVar i)) : PE X (.Name x pos) (TEx X.K G B W (varD i)) := by
  refine PE.imp h fun σ H Q h => ?_
  obtain ⟨ρ, M, I, K1, E1, s, q, ok, er⟩ := h
  unfold varD at q
  split at q
  · rename_i d e
    obtain ⟨v, h1, h2⟩ := s.env.2 i d e
    exact ⟨v, h1, ok d M v H I q (.refl I) s h2⟩
  · exact q.elim
theorem pd_con {e : Expr} {d : D} {v : V} (h : PE X e (tC v)) (r : ∀ I, Rep X.K G I d v) : PE X e (TEx X.K G B W (conD d)) := by
  refine PE.imp h fun σ H Q h => ?_
  obtain ⟨ρ, M, I, K1, E1, s, q, ok, er⟩ := h
  exact ok d M v H I q (.refl I) s (r I)
/-! displays -/
def tupD (ds : List D) : TD := fun _ M K _ => ds.length ≤ 1000000 ∧ K (.tup ds) M
def lstD (ds : List D) : TD := fun _ M K _ => ds.length ≤ 1000000 ∧ K (.lst ds) M
/-- a list that will change -/
def mlstD (ds : List D) : TD := fun _ M K _ => ds.length ≤ 1000000 ∧ ∀ a, M a = none → K (.loc a) (updM M a (.lst ds))
theorem line_le {n : Nat} (h : n ≤ 1000000) : n ≤ sizeLine := by rw [sizeLine_eq]; omega
theorem pd_tup {es : List Expr} {t : TDs} {x1 pos} (h : PA X es (TAx X.K G B W t)) : PE X (.Tuple es x1 pos) (TEx X.K G B W (bindDs t tupD)) := by
  refine PE.imp (pe_tup h) fun σ H Q h => ?_
  obtain ⟨ρ, M, I, K1, E1, s, q, ok, er⟩ := h
  refine ⟨ρ, M, I, _, E1, s, q, fun ds M' vs H' I' k e s' r => ⟨?_, fun p np => ?_⟩, er⟩
  · rw [r.length]; exact line_le k.1
  · have n := s'.good.freeI np
    exact ok _ _ _ _ (upd I' p (.tup vs)) k.2 (e.trans (s'.good.addI_frm np).ext) (s'.step (s'.good.addI np (.inr (.inl ⟨_, rfl⟩))) (s'.good.addI_frm np)) (by
      unfold Rep; exact ⟨p, vs, rfl, .of upd_same, r.ext (s'.good.addI_frm (o := .tup vs) np).ext⟩)
theorem pd_lst {es : List Expr} {t : TDs} {pos} (h : PA X es (TAx X.K G B W t)) : PE X (.List es pos) (TEx X.K G B W (bindDs t lstD)) := by
  refine PE.imp (pe_lst h) fun σ H Q h => ?_
  obtain ⟨ρ, M, I, K1, E1, s, q, ok, er⟩ := h
  refine ⟨ρ, M, I, _, E1, s, q, fun ds M' vs H' I' k e s' r => ⟨?_, fun p np => ?_⟩, er⟩
  · rw [r.length]; exact line_le k.1
  · exact ok _ _ _ _ (upd I' p (.lst vs)) k.2 (e.trans (s'.good.addI_frm np).ext) (s'.step (s'.good.addI np (.inl ⟨_, rfl⟩)) (s'.good.addI_frm np)) (by
      unfold Rep; exact ⟨p, vs, rfl, .of upd_same, r.ext (s'.good.addI_frm (o := .lst vs) np).ext⟩)
theorem pd_mlst {es : List Expr} {t : TDs} {pos} (h : PA X es (TAx X.K G B W t)) : PE X (.List es pos) (TEx X.K G B W (bindDs t mlstD)) := by
  refine PE.imp (pe_lst h) fun σ H Q h => ?_
  obtain ⟨ρ, M, I, K1, E1, s, q, ok, er⟩ := h
  refine ⟨ρ, M, I, _, E1, s, q, fun ds M' vs H' I' k e s' r => ⟨?_, fun p np => ?_⟩, er⟩
  · rw [r.length]; exact line_le k.1
  · refine ok _ _ _ _ I' (k.2 p (s'.good.freeM np)) e (s'.step (s'.good.addM np ?_) (s'.good.addM_frm np)) ?_
    · unfold MRep; exact ⟨vs, rfl, r⟩
    · unfold Rep; rfl
end
end PyD
set_option Elab.async false
set_option linter.all false
set_option autoImplicit false
set_option maxRecDepth 100000
set_option maxHeartbeats 4000000
/-! # Defs and statements over trees -/
namespace PyD
open PySem PySem.Spec L2

def spT (sd : SpD) : List D → TD := fun ds _ M K E => sd ds M K E
/-- what is at f keeps sd: called with so many positional values and the keywords ks -/
structure FnD (P : Program) (w : World) (K : PySem.W.Frag) (mg : Str → Option Value) (base : Heap) (G : Gam) (k : Nat) (f : Value) (ks : List Str) (sd : SpD) : Prop where
  run : ∀ (A : Around) (outer : List Env) (s : Shared) (H : Hp) (us ws : List Value) (vs : List V) (ds : List D) (M : Mst) (I : Hp) (K1 : KD) (E1 : ED) (Q : VK) (E : XK),
    Room k A → A.guards = some [] → Env0 P w K mg base A outer s H → Vals vs (us ++ ws) → ws.length = ks.length → Good K G I M H → Reps K G I ds vs → sd ds M K1 E1 →
    (∀ d M' v H' I', K1 d M' → Good K G I' M' H' → Frm I M H I' M' H' → Rep K G I' d v → Q v H') →
    (∀ c fs M' cls dx H' I', E1 c fs M' → Good K G I' M' H' → Frm I M H I' M' H' → ERep K G I' H' c fs cls dx → E cls dx H') →
    codeAny (model P w) A (.call f ⟨us, ks.zip ws⟩) (CR (CX P w) outer P w H s Q E) s
section
variable {P : Program} {w : World} {K : PySem.W.Frag} {mg : Str → Option Value} {base : Heap} {G : Gam} {k j : Nat} {f : Value} {ks : List Str} {sd sd' : SpD}
theorem FnD.mono (F : FnD P w K mg base G j f ks sd) (h : j ≤ k) : FnD P w K mg base G k f ks sd :=
  ⟨fun A outer s H us ws vs ds M I K1 E1 Q E hr => F.run A outer s H us ws vs ds M I K1 E1 Q E (hr.mono h)⟩
theorem FnD.imp (F : FnD P w K mg base G k f ks sd) (h : ∀ ds M K1 E1, sd' ds M K1 E1 → sd ds M K1 E1) : FnD P w K mg base G k f ks sd' :=
  ⟨fun A outer s H us ws vs ds M I K1 E1 Q E hr hg e0 r hl g r2 hs => F.run A outer s H us ws vs ds M I K1 E1 Q E hr hg e0 r hl g r2 (h _ _ _ _ hs)⟩
end
section
variable {X : Cx} {G : Gam} {B : Bs} {W : WX} {k : Nat} {f : Value} {ks : List Str} {sd : SpD}
/-- it is called, anywhere within the body -/
theorem FnD.call {A : Around} {pins : List (Addr × Obj)} {s : Shared} {σ : L2.St} {H : Hp} {Q : VK} {xs : List V} {us ws : List Value} (F : FnD X.prog X.w X.K X.mg X.base G k f ks sd) (hr : Room k A) (hg : A.guards = some []) (hf : A.frames = some X.stack)
    (tk : Takes X W) (I : L2.Inv X pins σ H s) (r : Vals xs (us ++ ws)) (hl : ws.length = ks.length) (t : TEds X.K G B W (spT sd) xs σ H Q) : wpAny (model X.prog X.w) A (PySem.call f us (ks.zip ws)) (EP X pins σ Q) X.xe s := by
  obtain ⟨ρ, M, J, K1, E1, ds, sr, r2, t, ok, er⟩ := t
  have e0 := I.env0
  have e1 : Env0 X.prog X.w X.K X.mg X.base A X.stack s H := ⟨hf, e0.mod, e0.bs, e0.bsz, e0.funs, e0.frf, e0.hok, e0.bare⟩
  refine wpAny_call (codeAny_mono (F.run A X.stack s H us ws xs ds M J K1 E1 Q (fun cls dx H' => W cls dx σ H') hr hg e1 r hl sr.good r2 t (fun d M' v H' I' h g fr q => ok d M' v H' I' h fr.ext (sr.step g fr) q)
    (fun c fs M' cls dx H' I' h g fr q => er c fs M' cls dx H' I' h (sr.step g fr) q)) fun z s' hq => ?_)
  cases z with
  | error e => exact tk e s' (XE.of_call I (fun _ _ _ h => h) hq)
  | ok fl =>
    cases fl with
    | ret u => exact I.after hq
    | next => exact False.elim hq
    | brk => exact False.elim hq
    | cont => exact False.elim hq
end

/-! ## statements -/
structure EndD where
  nx : Slots → Mst → Prop
  rt : KD
  bk : Slots → Mst → Prop := fun _ _ => False
  ct : Slots → Mst → Prop := fun _ _ => False
  er : Nat → List (Nat × D) → Slots → Mst → Prop := fun _ _ _ _ => False
abbrev TSd := Slots → Mst → EndD → Prop
section
variable (K : PySem.W.Frag) (G : Gam)
structure EndOk (B : Bs) (W : WX) (En : EndD) (D : Ends) : Prop where
  nx : ∀ ρ M σ H I, En.nx ρ M → SR K G B σ H ρ M I → D.nx σ H
  bk : ∀ ρ M σ H I, En.bk ρ M → SR K G B σ H ρ M I → D.bk σ H
  ct : ∀ ρ M σ H I, En.ct ρ M → SR K G B σ H ρ M I → D.ct σ H
  rt : ∀ d ρ M σ H I v, En.rt d M → SR K G B σ H ρ M I → Rep K G I d v → D.rt v H
  er : ∀ c fs ρ M σ H I cls dx, En.er c fs ρ M → SR K G B σ H ρ M I → ERep K G I H c fs cls dx → W cls dx σ H
def TSx (B : Bs) (W : WX) (t : TSd) : TS := fun D σ H => ∃ ρ M I En, SR K G B σ H ρ M I ∧ t ρ M En ∧ EndOk K G B W En D
end
def nextS : TSd := fun ρ M En => En.nx ρ M
def seqS (t u : TSd) : TSd := fun ρ M En => t ρ M { En with nx := fun ρ' M' => u ρ' M' En }
def erE (En : EndD) (ρ : Slots) : ED := fun c fs M => En.er c fs ρ M
def asgS (i : Nat) (t : TD) : TSd := fun ρ M En => t ρ M (fun d M' => En.nx (ρ.set i (some d)) M') (erE En ρ)
def retS (t : TD) : TSd := fun ρ M En => t ρ M En.rt (erE En ρ)
def retnS : TSd := fun _ M En => En.rt .non M
def dropS (t : TD) : TSd := fun ρ M En => t ρ M (fun _ M' => En.nx ρ M') (erE En ρ)
/-- on, by a truth -/
def brb (b : Bool) (P Q : Prop) : Prop := match b with
  | true => P
  | false => Q
def br (d : D) (P Q : Prop) : Prop := match d with
  | .bl b => brb b P Q
  | _ => False
theorem br_ok {d : D} {P Q : Prop} (h : br d P Q) : ∃ b, d = .bl b ∧ brb b P Q := by
  unfold br at h
  split at h
  · exact ⟨_, rfl, h⟩
  · exact h.elim
def iteS (c : TD) (t u : TSd) : TSd := fun ρ M En => c ρ M (fun d M' => br d (t ρ M' En) (u ρ M' En)) (erE En ρ)
/-- a while, by so many turns -/
def whlS (c : TD) (t : TSd) : Nat → TSd
  | 0 => fun _ _ _ => False
  | n + 1 => fun ρ M En => c ρ M (fun d M' => br d (t ρ M' { En with nx := fun ρ2 M2 => whlS c t n ρ2 M2 En, ct := fun ρ2 M2 => whlS c t n ρ2 M2 En, bk := En.nx }) (En.nx ρ M')) (erE En ρ)
/-- a for, over items -/
def forS (g : D → Slots → Option Slots) (t : TSd) : List D → TSd
  | [] => fun ρ M En => En.nx ρ M
  | d :: ds => fun ρ M En => match g d ρ with
    | some ρ1 => t ρ1 M { En with nx := fun ρ2 M2 => forS g t ds ρ2 M2 En, ct := fun ρ2 M2 => forS g t ds ρ2 M2 En, bk := En.nx }
    | none => False
section
variable {X : Cx} {G : Gam} {B : Bs} {W : WX}
theorem PS.imp {st : Stmt} {t t' : TS} (h : PS X st t) (k : ∀ D σ H, t' D σ H → t D σ H) : PS X st t' := ⟨fun pins s σ H D I q => h.run pins s σ H D I (k D σ H q)⟩
theorem PSs.imp {st : List Stmt} {t t' : TS} (h : PSs X st t) (k : ∀ D σ H, t' D σ H → t D σ H) : PSs X st t' := ⟨fun pins s σ H D I q => h.run pins s σ H D I (k D σ H q)⟩
theorem erC {K : PySem.W.Frag} {En : EndD} {D : Ends} {σ : L2.St} {ρ : Slots} (h : EndOk K G B W En D) : ErC K G B W σ ρ (erE En ρ) := fun c fs M' cls dx H' I' e s r => h.er c fs ρ M' σ H' I' cls dx e s r
theorem pds_nil : PSs X [] (TSx X.K G B W nextS) := PSs.imp pss_nil fun D σ H ⟨ρ, M, I, En, s, t, ok⟩ => ok.nx _ _ _ _ _ t s
theorem pds_cons {st : Stmt} {rest : List Stmt} {t u : TSd} (h1 : PS X st (TSx X.K G B W t)) (h2 : PSs X rest (TSx X.K G B W u)) : PSs X (st :: rest) (TSx X.K G B W (seqS t u)) := by
  refine PSs.imp (pss_cons h1 h2) fun D σ H ⟨ρ, M, I, En, s, t, ok⟩ => ?_
  exact ⟨ρ, M, I, _, s, t, ⟨fun ρ' M' σ' H' I' h s' => ⟨ρ', M', I', En, s', h, ok⟩, ok.bk, ok.ct, ok.rt, ok.er⟩⟩
theorem pds_never {st : Stmt} : PS X st (TSx X.K G B W fun _ _ _ => False) := ⟨fun _ _ _ _ _ _ ⟨_, _, _, _, _, h, _⟩ => h.elim⟩
theorem pds_pass {pos : Pos} : PS X (.Pass pos) (TSx X.K G B W nextS) := PS.imp ps_pass fun D σ H ⟨ρ, M, I, En, s, t, ok⟩ => ok.nx _ _ _ _ _ t s
theorem pds_break {pos : Pos} : PS X (.Break pos) (TSx X.K G B W fun ρ M En => En.bk ρ M) := PS.imp ps_break fun D σ H ⟨ρ, M, I, En, s, t, ok⟩ => ok.bk _ _ _ _ _ t s
theorem pds_asg {i : Nat} {x : Str} {e : Expr} {t : TD} {pos pos' : Pos} (hN : X.N.Nodup) (hi : X.N[i]? = some x) (hx : Loc X.env.scope x) (he : PE X e (TEx X.K G B W t)) (hs : swapsWith e (some (.Name x pos')) pos.line X.env = pure false)
    (hf : X.fn x = true ∨ X.env.scope.names.lookup x = some .local) : PS X (.Assign [.Name x pos'] e pos) (TSx X.K G B W (asgS i t)) := by
  refine PS.imp (ps_set hN hi hx he hs hf) fun D σ H ⟨ρ, M, I, En, s, t, ok⟩ => ?_
  exact ⟨ρ, M, I, _, _, s, t, fun d M' v H' I' k e s' r => ok.nx _ _ _ _ I' k (s'.set r), erC ok⟩
theorem pds_ret {e : Expr} {t : TD} {pos : Pos} (he : PE X e (TEx X.K G B W t)) : PS X (.Return (some e) pos) (TSx X.K G B W (retS t)) := by
  refine PS.imp (ps_ret he) fun D σ H ⟨ρ, M, I, En, s, t, ok⟩ => ?_
  exact ⟨ρ, M, I, _, _, s, t, fun d M' v H' I' k e s' r => ok.rt d ρ M' σ H' I' v k s' r, erC ok⟩
theorem pds_retn {pos : Pos} : PS X (.Return none pos) (TSx X.K G B W retnS) := PS.imp ps_retN fun D σ H ⟨ρ, M, I, En, s, t, ok⟩ => ok.rt .non ρ M σ H I _ t s (by unfold Rep; rfl)
theorem pds_drop {e : Expr} {t : TD} {pos : Pos} (he : PE X e (TEx X.K G B W t)) (hs : swapsWith e none pos.line X.env = pure false) : PS X (.Expr e pos) (TSx X.K G B W (dropS t)) := by
  refine PS.imp (ps_expr he hs) fun D σ H ⟨ρ, M, I, En, s, t, ok⟩ => ?_
  exact ⟨ρ, M, I, _, _, s, t, fun d M' v H' I' k e s' r => ok.nx _ _ _ _ I' k s', erC ok⟩
theorem pds_if {c : Expr} {a b : List Stmt} {tc : TD} {t u : TSd} {pos : Pos} (hc : PT X c (TTx X.K G B W tc)) (ha : PSs X a (TSx X.K G B W t)) (hb : PSs X b (TSx X.K G B W u)) : PS X (.If c a b pos) (TSx X.K G B W (iteS tc t u)) := by
  refine PS.imp (ps_if hc ha hb) fun D σ H ⟨ρ, M, I, En, s, t, ok⟩ => ?_
  refine ⟨ρ, M, I, _, _, s, t, fun d M' H' I' k e s' => ?_, erC ok⟩
  obtain ⟨b, rfl, k⟩ := br_ok k
  cases b with
  | true => exact ⟨true, rfl, iteT ⟨ρ, M', I', En, s', k, ok⟩⟩
  | false => exact ⟨false, rfl, iteF ⟨ρ, M', I', En, s', k, ok⟩⟩
theorem pds_while {c : Expr} {b : List Stmt} {tc : TD} {t : TSd} {pos : Pos} (hp : PassesOwn (model X.prog X.w) X.A X.env X.xe) (hc : PT X c (TTx X.K G B W tc)) (hb : PSs X b (TSx X.K G B W t)) :
    PS X (.While c b [] pos) (TSx X.K G B W fun ρ M En => ∃ n, whlS tc t n ρ M En) := by
  refine PS.imp (ps_while hp hc hb) fun D σ H ⟨ρ, M, I, En, s, ⟨n, h⟩, ok⟩ => ?_
  refine ⟨fun m σ1 H1 => ∃ ρ1 M1 I1, SR X.K G B σ1 H1 ρ1 M1 I1 ∧ whlS tc t m ρ1 M1 En, ⟨n, ρ, M, I, s, h⟩, ?_⟩
  rintro m σ1 H1 ⟨ρ1, M1, I1, s1, h1⟩
  cases m with
  | zero => exact h1.elim
  | succ m =>
    refine ⟨ρ1, M1, I1, _, _, s1, h1, fun d M' H' I' k e s' => ?_, erC ok⟩
    obtain ⟨b, rfl, k⟩ := br_ok k
    cases b with
    | true =>
      refine ⟨true, rfl, ?_⟩
      refine iteT ⟨fun σ2 H2 => ∃ ρ2 M2 I2, SR X.K G B σ2 H2 ρ2 M2 I2 ∧ whlS tc t m ρ2 M2 En, fun σ2 H2 q => ⟨m, Nat.lt_succ_self m, q⟩, ρ1, M', I', _, s', k, ?_⟩
      exact ⟨fun ρ2 M2 σ2 H2 I2 q s2 => ⟨ρ2, M2, I2, s2, q⟩, fun ρ2 M2 σ2 H2 I2 q s2 => ok.nx _ _ _ _ _ q s2, fun ρ2 M2 σ2 H2 I2 q s2 => ⟨ρ2, M2, I2, s2, q⟩, ok.rt, ok.er⟩
    | false => exact ⟨false, rfl, iteF (ok.nx _ _ _ _ I' k s')⟩
end
end PyD
set_option Elab.async false
set_option linter.all false
set_option autoImplicit false
set_option maxRecDepth 100000
set_option maxHeartbeats 4000000
/-! # A def by its body; loops; stores -/
namespace PyD
open PySem PySem.Spec L2

def startD (N : List Str) (ds : List D) : Slots := ds.map some ++ List.replicate (N.length - ds.length) none
theorem startD_ok {K : PySem.W.Frag} {G : Gam} {I : Hp} {N : List Str} {ds : List D} {vs : List V} (r : Reps K G I ds vs) : EnvRep K G I (L2.start N vs) (startD N ds) := by
  have l := r.length
  refine ⟨by simp [startD, L2.start, l], fun i d h => ?_⟩
  unfold startD at h
  unfold L2.start
  by_cases hi : i < ds.length
  · rw [List.getElem?_append_left (by simpa using hi), List.getElem?_map] at h
    rw [List.getElem?_append_left (by simpa [l] using hi), List.getElem?_map]
    cases e : ds[i]? with
    | none => rw [e] at h; cases h
    | some x =>
      rw [e] at h
      cases h
      obtain ⟨v, h1, h2⟩ := r.get e
      exact ⟨v, by rw [h1]; rfl, h2⟩
  · rw [List.getElem?_append_right (by simpa using hi), List.getElem?_replicate] at h
    split at h <;> cases h
/-- how the values of a call come to the parameters -/
def ArgOk (K : PySem.W.Frag) (G : Gam) (fd : FuncData) (ps ks : List Str) (n : Nat) (gD : List D → List D) : Prop :=
  ∀ (s : Shared) (us ws : List Value) (vs : List V) (ds : List D) (I : Hp), K.In s.heap → us.length = n → ws.length = ks.length → Vals vs (us ++ ws) → Reps K G I ds vs →
    ∃ bs vbs, BindsTo s fd ⟨us, ks.zip ws⟩ (ps.zip bs) ∧ Vals vbs bs ∧ vbs.length = ps.length ∧ Reps K G I (gD ds) vbs
theorem argOk_pos {K : PySem.W.Frag} {G : Gam} {fd : FuncData} {ps : List Str} (b : Binds K fd ps []) : ArgOk K G fd ps [] ps.length id := by
  intro s us ws vs ds I hK hu hw r r2
  have e : ws = [] := List.length_eq_zero_iff.mp hw
  subst e
  rw [List.append_nil] at r
  refine ⟨us, vs, ?_, r, by rw [r.length, hu], r2⟩
  have := b s us hK (by rw [List.append_nil]; exact hu)
  rw [List.append_nil] at this
  exact this
section
variable {P : Program} {w : World} {K : PySem.W.Frag} {mg : Str → Option Value} {base : Heap} {G : Gam}
theorem fnd_of {name qual : Str} {params : Arguments} {body : List Stmt} {scope : Scope} {dvs : List V} {kws : List (Str × V)} {f : Addr} {fd : FuncData} {N ps ks : List Str} {k n : Nat} {gD : List D → List D} {sd : SpD} {tb : TSd}
    (F : FunD K name qual params body scope dvs kws f fd) (S : FnScope N ps scope) (bind : ArgOk K G fd ps ks n gD) (len : ∀ ds M K1 E1, sd ds M K1 E1 → ds.length = n + ks.length)
    (hbody : ∀ (cdv : Value) (A : Around) (outer : List Env) (s : Shared) (H : Hp) (E : XK) (B : Bs), Room k (A.deeper (PyProof.Rows.envOfC qual scope s.heap.objs.size f cdv)) → (A.deeper (PyProof.Rows.envOfC qual scope s.heap.objs.size f cdv)).guards = some [] →
      PSs (cxOf (CX P w) P w K mg base N qual scope f cdv A outer s H E) body (TSx K G B (fun cls dx _ H => E cls dx H) tb))
    (hsp : ∀ ds M K1 E1, sd ds M K1 E1 → tb (startD N (gD ds)) M { nx := fun _ M' => K1 .non M', rt := K1, er := fun c fs _ M' => E1 c fs M' }) :
    FnD P w K mg base G (k + 1) (.ref f) ks sd := by
  obtain ⟨oc, od, dV, kV, doc, pm, an, cdv, ct, osl, hfd, lk, hcd, _, _⟩ := F.ex
  refine ⟨fun A outer s H us ws vs ds M I K1 E1 Q E hr hg e0 r hl g r2 hs hK hE => ?_⟩
  have KX : K.In s.heap := e0.mod.kin.keeps fun b o e => (e0.bs b o e).1
  have lim : s.heap.NoLimit := e0.mod.nolimit.keeps fun b o e => (e0.bs b o e).1
  have hlen := len _ _ _ _ hs
  have hn : us.length = n := by
    have h1 := r.length
    have h2 := r2.length
    rw [List.length_append] at h1
    omega
  obtain ⟨bs, vbs, hbind, rb, hvl, rd⟩ := bind s us ws vs ds I KX hn hl r r2
  have kinds : ∀ y ∈ ps.zip bs, scope.names.lookup y.1 = some .local ∨ (scope.names.lookup y.1 = some .cell ∧ ((cellsFrom (s.heap.objs.size + 1) scope.names []).lookup y.1).isSome = true) := fun ⟨m, v⟩ hy => by
    rcases S.par m (List.of_mem_zip hy).1 with q | q
    · exact .inl q
    · exact .inr ⟨q, PySem.W.cellsFrom_some _ _ _ (.inl q)⟩
  subst hfd
  refine codeAny_call_function hr.depth (KX _ _ lk) rfl S.co S.gen rfl (PySem.W.codeRec_of KX hcd) (hbind _ _ _ _ ?_)
  refine wpAny_newFunctionEnv_cells S.kind kinds fun env he s1 x => ?_
  subst he
  refine ⟨lim.keeps x.toInCall.keep, codeAny_func ?_⟩
  have hb := hbody cdv A outer s H E ⟨I, M, H⟩ (hr.deeper _) hg
  have J : L2.Inv (cxOf (CX P w) P w K mg base N qual scope f cdv A outer s H E) [] (L2.start N vbs) H s1 := inv_start S hr.hd e0 hvl rb x
  have fin : ∀ {σ' : L2.St} {H' : Hp} {v : V} {u : Value} {s' : Shared}, L2.Inv (cxOf (CX P w) P w K mg base N qual scope f cdv A outer s H E) [] σ' H' s' → RelV v u → Q v H' → CE outer P w H s Q u s' :=
    fun {σ' H' v u s'} J' rv q => ⟨v, H', J'.os, J'.bare, J'.base, J'.hok, rv, q⟩
  have start_ok : TSx K G ⟨I, M, H⟩ (fun cls dx _ H => E cls dx H) tb { nx := fun _ H' => Q .non H', rt := Q } (L2.start N vbs) H := by
    refine ⟨startD N (gD ds), M, I, _, ⟨startD_ok rd, g, .refl⟩, hsp ds M K1 E1 hs, ⟨fun ρ M' σ H' I' h s' => ?_, fun _ _ _ _ _ h _ => h.elim, fun _ _ _ _ _ h _ => h.elim, fun d ρ M' σ H' I' v h s' q => ?_, fun c fs ρ M' σ H' I' cls dx h s' q => ?_⟩⟩
    · exact hK _ _ _ _ _ h s'.good s'.frm (by unfold Rep; rfl)
    · exact hK _ _ _ _ _ h s'.good s'.frm q
    · exact hE _ _ _ _ _ _ _ h s'.good s'.frm q
  refine wpAny_mono (hb.run [] s1 (L2.start N vbs) H _ J start_ok) (fun fl s' hq => ?_) fun e s' hq => hq
  cases fl with
  | ret u =>
    obtain ⟨v, σ', H', J', rv, q⟩ := hq
    exact fin J' rv q
  | next =>
    obtain ⟨σ', H', J', q⟩ := hq
    exact fin (v := V.non) (u := Value.none) J' rfl q
  | brk =>
    obtain ⟨_, _, _, q⟩ := hq
    exact False.elim q
  | cont =>
    obtain ⟨_, _, _, q⟩ := hq
    exact False.elim q
/-- a def's own wish about exceptions -/
theorem takes_cx {N : List Str} {qual : Str} {scope : Scope} {f : Addr} {cdv : Value} {A : Around} {outer : List Env} {s : Shared} {H : Hp} {E : XK} :
    Takes (cxOf (CX P w) P w K mg base N qual scope f cdv A outer s H E) (fun cls dx _ H => E cls dx H) := takes_of rfl rfl rfl rfl
theorem passes_cx {N : List Str} {qual : Str} {scope : Scope} {f : Addr} {cdv : Value} {A : Around} {outer : List Env} {s : Shared} {H : Hp} {E : XK} :
    PassesOwn (model P w) (cxOf (CX P w) P w K mg base N qual scope f cdv A outer s H E).A (cxOf (CX P w) P w K mg base N qual scope f cdv A outer s H E).env (cxOf (CX P w) P w K mg base N qual scope f cdv A outer s H E).xe :=
  passes_of (X := cxOf (CX P w) P w K mg base N qual scope f cdv A outer s H E) (K := fun e s'' => CX P w outer H s E e s'') rfl
end

/-! ## loops -/
section
variable {X : Cx} {G : Gam} {B : Bs} {W : WX}
/-- what is walked, over trees: these items come one by one -/
structure Walk (K : PySem.W.Frag) (G : Gam) (I : Hp) (ds : List D) (J : It) : Prop where
  go : ∀ i d Hn I2 M2, ds[i]? = some d → Good K G I2 M2 Hn → Ext I I2 → J.go i Hn
  yld : ∀ i d Hn y Hn' I2 M2, ds[i]? = some d → Good K G I2 M2 Hn → Ext I I2 → J.yld i Hn y Hn' → ∃ I3, Good K G I3 M2 Hn' ∧ Frm I2 M2 Hn I3 M2 Hn' ∧ Rep K G I3 d y
  stop : ∀ Hn I2 M2, Good K G I2 M2 Hn → Ext I I2 → J.stop ds.length Hn
def PId (X : Cx) (G : Gam) (B : Bs) (W : WX) (tg iter : Expr) (ti : TDs) : Prop :=
  ∃ wi, PI X tg iter wi ∧ ∀ σ H ρ M I K1 E1 (R : It → Hp → Prop), SR X.K G B σ H ρ M I → ti ρ M K1 E1 → ErC X.K G B W σ ρ E1 →
    (∀ ds M' H' I' J, K1 ds M' → Ext I I' → SR X.K G B σ H' ρ M' I' → Walk X.K G I' ds J → R J H') → wi σ H R
/-- the base moved to where one is -/
theorem SR.here {K : PySem.W.Frag} {G : Gam} {B : Bs} {σ : L2.St} {H : Hp} {ρ : Slots} {M : Mst} {I : Hp} (s : SR K G B σ H ρ M I) : SR K G ⟨I, M, H⟩ σ H ρ M I := ⟨s.env, s.good, .refl⟩
theorem SR.back {K : PySem.W.Frag} {G : Gam} {B : Bs} {σ σ' : L2.St} {H H' : Hp} {ρ ρ' : Slots} {M M' : Mst} {I I' : Hp} (s : SR K G B σ H ρ M I) (s' : SR K G ⟨I, M, H⟩ σ' H' ρ' M' I') : SR K G B σ' H' ρ' M' I' := ⟨s'.env, s'.good, s.frm.trans s.good s'.frm⟩
/-- a target -/
def PGd (X : Cx) (G : Gam) (B : Bs) (tg : Expr) (g : D → Slots → Option Slots) (gv : TG) : Prop :=
  PG X tg gv ∧ ∀ (d : D) (v : V) (σ : L2.St) (H : Hp) (ρ ρ1 : Slots) (M : Mst) (I : Hp) (Q : L2.St → Hp → Prop), SR X.K G B σ H ρ M I → Rep X.K G I d v → g d ρ = some ρ1 → (∀ σ1, SR X.K G B σ1 H ρ1 M I → Q σ1 H) → gv v σ H Q
def set1 (i : Nat) : D → Slots → Option Slots := fun d ρ => some (ρ.set i (some d))
/-- several names, from a tuple -/
def setAll : List Nat → List D → Slots → Option Slots
  | [], [], ρ => some ρ
  | i :: is, d :: ds, ρ => setAll is ds (ρ.set i (some d))
  | _, _, _ => none
def setT (is : List Nat) : D → Slots → Option Slots := fun d ρ => match d with
  | .tup ds => setAll is ds ρ
  | _ => none
theorem pgd_name {i : Nat} {x : Str} {pos : Pos} (h : PG X (.Name x pos) (gName i)) : PGd X G B (.Name x pos) (set1 i) (gName i) :=
  ⟨h, fun d v σ H ρ ρ1 M I Q s r e q => by cases e; exact q _ (s.set r)⟩
/-- the names of a tuple target -/
def gAll : List Nat → TGs
  | [] => gNil
  | i :: is => gCons (gName i) (gAll is)
theorem gAll_ok {K : PySem.W.Frag} : ∀ {is : List Nat} {ds : List D} {vs : List V} {σ : L2.St} {H : Hp} {ρ ρ1 : Slots} {M : Mst} {I : Hp} {Q : L2.St → Hp → Prop}, SR K G B σ H ρ M I → Reps K G I ds vs → setAll is ds ρ = some ρ1 → (∀ σ1, SR K G B σ1 H ρ1 M I → Q σ1 H) → gAll is vs σ H Q
  | [], [], vs, _, _, _, _, _, _, _, s, r, e, q => by
    unfold Reps at r
    unfold setAll at e
    cases e
    exact ⟨r, q _ s⟩
  | i :: is, d :: ds, vs, _, _, _, _, _, _, _, s, r, e, q => by
    unfold Reps at r
    obtain ⟨v, t, rfl, r1, r2⟩ := r
    exact ⟨v, t, rfl, gAll_ok (s.set r1) r2 e q⟩
  | [], _ :: _, _, _, _, _, _, _, _, _, _, _, e, _ => by simp [setAll] at e
  | _ :: _, [], _, _, _, _, _, _, _, _, _, _, e, _ => by simp [setAll] at e
theorem setAll_len : ∀ {is : List Nat} {ds : List D} {ρ ρ1 : Slots}, setAll is ds ρ = some ρ1 → ds.length = is.length
  | [], [], _, _, _ => rfl
  | i :: is, d :: ds, _, _, e => by
    have := setAll_len (is := is) (ds := ds) e
    simp [this]
  | [], _ :: _, _, _, e => by simp [setAll] at e
  | _ :: _, [], _, _, e => by simp [setAll] at e
theorem pgd_tup {es : List Expr} {is : List Nat} {k : Nat} {pos : Pos} (h : PG X (.Tuple es k pos) (gTup X.K is.length (gAll is))) : PGd X G B (.Tuple es k pos) (setT is) (gTup X.K is.length (gAll is)) := by
  refine ⟨h, fun d v σ H ρ ρ1 M I Q s r e q => ?_⟩
  unfold setT at e
  split at e
  · rename_i ds
    unfold Rep at r
    obtain ⟨a, vs, rfl, ht, hr⟩ := r
    exact ⟨a, vs, rfl, s.good.sub.sqt ht, by rw [hr.length, setAll_len e], gAll_ok s hr e q⟩
  · cases e
/-- a for over such a walk -/
theorem pds_for {tg iter : Expr} {body : List Stmt} {tb : TSd} {g : D → Slots → Option Slots} {gv : TG} {ti : TDs} {pos : Pos} (hp : PassesOwn (model X.prog X.w) X.A X.env X.xe) (hc : X.calm = true)
    (hi : PId X G B W tg iter ti) (hg : ∀ B, PGd X G B tg g gv) (hb : ∀ B, PSs X body (TSx X.K G B W tb)) (hs : ∀ x, foldedSetIterable iter X.env x = pure x) :
    PS X (.For tg iter body [] pos) (TSx X.K G B W fun ρ M En => ti ρ M (fun ds M' => forS g tb ds ρ M' En) (erE En ρ)) := by
  obtain ⟨wi, hpi, hw⟩ := hi
  have hb' : PSs X body (fun D σ H => ∃ B, TSx X.K G B W tb D σ H) := ⟨fun pins s σ H D I ⟨B, h⟩ => (hb B).run pins s σ H D I h⟩
  refine PS.imp (ps_for hp hc hpi (hg B).1 hb' hs) fun D σ H ⟨ρ, M, I, En, s0, t, ok⟩ => ?_
  refine hw σ H ρ M I _ _ _ s0 t (erC ok) fun ds M' H' I' J k e s' wk => ?_
  refine ⟨fun i m σ2 H2 => m = ds.length - i ∧ i ≤ ds.length ∧ ∃ ρ2 M2 I2, SR X.K G ⟨I', M', H'⟩ σ2 H2 ρ2 M2 I2 ∧ forS g tb (ds.drop i) ρ2 M2 En, ⟨ds.length, by simp, Nat.zero_le _, ρ, M', I', s'.here, k⟩, ?_⟩
  rintro i m σ2 H2 ⟨rfl, hi2, ρ2, M2, I2, s2, h2⟩
  by_cases hlt : i < ds.length
  · have hg2 : ds[i]? = some ds[i] := by simp [hlt]
    refine .inr ⟨wk.go i _ H2 I2 M2 hg2 s2.good s2.frm.ext, fun σ3 H3 => ∃ ρ3 M3 I3, SR X.K G ⟨I', M', H'⟩ σ3 H3 ρ3 M3 I3 ∧ forS g tb (ds.drop (i + 1)) ρ3 M3 En, fun σ3 H3 ⟨ρ3, M3, I3, s3, h3⟩ => ⟨ds.length - (i + 1), by omega, rfl, hlt, ρ3, M3, I3, s3, h3⟩, fun y H3 hy => ?_⟩
    obtain ⟨I3, g3, f3, r3⟩ := wk.yld i _ H2 y H3 I2 M2 hg2 s2.good s2.frm.ext hy
    have s3 := s2.step g3 f3
    rw [List.drop_eq_getElem_cons hlt] at h2
    unfold forS at h2
    split at h2
    · rename_i ρ1 eg
      refine (hg ⟨I', M', H'⟩).2 ds[i] y σ2 _ ρ2 ρ1 M2 I3 _ s3 r3 eg fun σ1 s1 => ?_
      exact ⟨⟨I', M', H'⟩, ρ1, M2, I3, _, s1, h2, ⟨fun ρ3 M3 σ3 H3 I3 q s3 => ⟨ρ3, M3, I3, s3, q⟩, fun ρ3 M3 σ3 H3 I3 q s3 => ok.nx _ _ _ _ _ q (s'.back s3), fun ρ3 M3 σ3 H3 I3 q s3 => ⟨ρ3, M3, I3, s3, q⟩,
        fun d ρ3 M3 σ3 H3 I3 v q s3 r => ok.rt d ρ3 M3 σ3 H3 I3 v q (s'.back s3) r, fun c fs ρ3 M3 σ3 H3 I3 cls dx q s3 r => ok.er c fs ρ3 M3 σ3 H3 I3 cls dx q (s'.back s3) r⟩⟩
    · exact h2.elim
  · have ei : i = ds.length := by omega
    subst ei
    refine .inl ⟨wk.stop _ _ _ s2.good s2.frm.ext, ?_⟩
    rw [List.drop_length] at h2
    exact ok.nx _ _ _ _ _ h2 (s'.back s2)

/-! what is walked -/
/-- a list, a tuple -/
def lstI (t : TD) : TDs := fun ρ M K E => t ρ M (fun d M' => match d with
  | .lst ds => K ds M'
  | _ => False) E
def tupI (t : TD) : TDs := fun ρ M K E => t ρ M (fun d M' => match d with
  | .tup ds => K ds M'
  | _ => False) E
theorem walk_list {K : PySem.W.Frag} {G : Gam} {I : Hp} {a : Addr} {ds : List D} {vs : List V} (h : SqL K I a vs) (r : Reps K G I ds vs) : Walk K G I ds (Itl K a) := by
  refine ⟨fun i d Hn I2 M2 e g x => ?_, fun i d Hn y Hn' I2 M2 e g x hy => ?_, fun Hn I2 M2 g x => ?_⟩
  · obtain ⟨v, h1, _⟩ := r.get e
    exact ⟨vs, v, g.sub.sql (x.sql h), h1⟩
  · obtain ⟨v, h1, h2⟩ := r.get e
    obtain ⟨rfl, hy⟩ := hy
    have h3 := hy vs (g.sub.sql (x.sql h))
    rw [h1] at h3
    cases h3
    exact ⟨I2, g, .refl, h2.ext x⟩
  · exact ⟨vs, g.sub.sql (x.sql h), by rw [r.length]; exact Nat.le_refl _⟩
theorem walk_tup {K : PySem.W.Frag} {G : Gam} {I : Hp} {a : Addr} {ds : List D} {vs : List V} (h : SqT K I a vs) (r : Reps K G I ds vs) : Walk K G I ds (Itt K a) := by
  refine ⟨fun i d Hn I2 M2 e g x => ?_, fun i d Hn y Hn' I2 M2 e g x hy => ?_, fun Hn I2 M2 g x => ?_⟩
  · obtain ⟨v, h1, _⟩ := r.get e
    exact ⟨vs, v, g.sub.sqt (x.sqt h), h1⟩
  · obtain ⟨v, h1, h2⟩ := r.get e
    obtain ⟨rfl, hy⟩ := hy
    have h3 := hy vs (g.sub.sqt (x.sqt h))
    rw [h1] at h3
    cases h3
    exact ⟨I2, g, .refl, h2.ext x⟩
  · exact ⟨vs, g.sub.sqt (x.sqt h), by rw [r.length]; exact Nat.le_refl _⟩
theorem pid_list {tg e : Expr} {t : TD} (h : PE X e (TEx X.K G B W t)) : PId X G B W tg e (lstI t) := by
  refine ⟨_, pi_list h, fun σ H ρ M I K1 E1 R s q er k => ?_⟩
  refine ⟨ρ, M, I, _, _, s, q, fun d M' v H' I' z e s' r => ?_, er⟩
  dsimp only at z
  split at z
  · unfold Rep at r
    obtain ⟨a, vs, rfl, hs, hr⟩ := r
    exact ⟨a, rfl, ⟨vs, s'.good.sub.sql hs⟩, k _ _ _ _ _ z e s' (walk_list hs hr)⟩
  · exact z.elim
theorem pid_tup {tg e : Expr} {t : TD} (h : PE X e (TEx X.K G B W t)) : PId X G B W tg e (tupI t) := by
  refine ⟨_, pi_tup h, fun σ H ρ M I K1 E1 R s q er k => ?_⟩
  refine ⟨ρ, M, I, _, _, s, q, fun d M' v H' I' z e s' r => ?_, er⟩
  dsimp only at z
  split at z
  · unfold Rep at r
    obtain ⟨a, vs, rfl, hs, hr⟩ := r
    exact ⟨a, rfl, ⟨vs, s'.good.sub.sqt hs⟩, k _ _ _ _ _ z e s' (walk_tup hs hr)⟩
  · exact z.elim
/-- range(n) -/
def rngL (lo : Int) : Nat → List D
  | 0 => []
  | n + 1 => .int lo :: rngL (lo + 1) n
theorem rngL_len (n : Nat) : ∀ lo : Int, (rngL lo n).length = n := by
  induction n with
  | zero => intro lo; rfl
  | succ n ih => intro lo; simp [rngL, ih]
theorem rngL_get (n : Nat) : ∀ (lo : Int) (i : Nat), i < n → (rngL lo n)[i]? = some (.int (lo + i)) := by
  induction n with
  | zero => intro lo i h; omega
  | succ n ih =>
    intro lo i h
    cases i with
    | zero => simp [rngL]
    | succ i =>
      have := ih (lo + 1) i (by omega)
      simp only [rngL, List.getElem?_cons_succ]
      rw [this]
      congr 2
      push_cast
      omega
theorem walk_rng {K : PySem.W.Frag} {G : Gam} {I : Hp} (lo : Int) (n : Nat) : Walk K G I (rngL lo n) (Itr lo n) := by
  refine ⟨fun i d Hn I2 M2 e g x => ?_, fun i d Hn y Hn' I2 M2 e g x hy => ?_, fun Hn I2 M2 g x => ?_⟩
  · have := (List.getElem?_eq_some_iff.mp e).1
    rw [rngL_len] at this
    exact this
  · have hl := (List.getElem?_eq_some_iff.mp e).1
    rw [rngL_len] at hl
    rw [rngL_get n lo i hl] at e
    cases e
    obtain ⟨rfl, rfl⟩ := hy
    exact ⟨I2, g, .refl, by unfold Rep; rfl⟩
  · show n ≤ (rngL lo n).length
    rw [rngL_len]
    exact Nat.le_refl _
def rng1I (t : TDs) : TDs := fun ρ M K E => t ρ M (fun ds M' => match ds with
  | [.int j] => (-(2 ^ 62) ≤ j ∧ j < 2 ^ 62) ∧ K (rngL 0 j.toNat) M'
  | _ => False) E
theorem pid_rng1 {tg a : Expr} {t : TDs} {p pos : Pos} (hg : Gl X "range") (hm : X.mg "range" = none) (h : PA X [a] (TAx X.K G B W t)) (hs : starEach [a] X.env = [(false, eval a X.env)]) : PId X G B W tg (.Call (.Name "range" p) [a] [] pos) (rng1I t) := by
  refine ⟨_, pi_range1 hg hm h hs, fun σ H ρ M I K1 E1 R s q er k => ?_⟩
  refine ⟨ρ, M, I, _, _, s, q, fun ds M' vs H' I' z e s' r => ?_, er⟩
  dsimp only at z
  split at z
  · rename_i j
    unfold Reps at r
    obtain ⟨v, t', rfl, r1, r2⟩ := r
    unfold Reps at r2
    subst r2
    unfold Rep at r1
    subst r1
    exact ⟨j, rfl, z.1.1, z.1.2, k _ _ _ _ _ z.2 e s' (walk_rng 0 j.toNat)⟩
  · exact z.elim
end
end PyD
set_option Elab.async false
set_option linter.all false
set_option autoImplicit false
set_option maxRecDepth 100000
set_option maxHeartbeats 4000000
/-! # Fields, items, numbers, truth -/
namespace PyD
open PySem PySem.Spec L2

def putD (k : Nat) (d : D) : List (Nat × D) → List (Nat × D)
  | [] => [(k, d)]
  | (j, e) :: r => if j = k then (j, d) :: r else (j, e) :: putD k d r
def getD (k : Nat) : List (Nat × D) → Option D
  | [] => none
  | (j, e) :: r => if j = k then some e else getD k r
section
variable {K : PySem.W.Frag} {G : Gam} {I : Hp}
theorem RepF.get : ∀ {fs : List (Nat × D)} {vfs : List (Str × V)} {k : Nat} {d : D}, RepF K G I fs vfs → getD k fs = some d → ∃ v, vfs.lookup (G.nm k) = some v ∧ Rep K G I d v
  | [], _, _, _, _, e => by simp [getD] at e
  | (j, x) :: r, vfs, k, d, h, e => by
    unfold RepF at h
    obtain ⟨v, t, rfl, h1, h2⟩ := h
    unfold getD at e
    by_cases c : j = k
    · rw [if_pos c] at e
      cases e
      subst c
      exact ⟨v, by simp [List.lookup], h1⟩
    · rw [if_neg c] at e
      obtain ⟨y, h3, h4⟩ := h2.get e
      have ne : (G.nm k == G.nm j) = false := beq_eq_false_iff_ne.mpr fun q => c (G.inj _ _ q).symm
      exact ⟨y, by simp [List.lookup, ne, h3], h4⟩
theorem RepF.none : ∀ {fs : List (Nat × D)} {vfs : List (Str × V)} {k : Nat}, RepF K G I fs vfs → getD k fs = none → vfs.lookup (G.nm k) = none
  | [], vfs, _, h, _ => by unfold RepF at h; subst h; rfl
  | (j, x) :: r, vfs, k, h, e => by
    unfold RepF at h
    obtain ⟨v, t, rfl, h1, h2⟩ := h
    unfold getD at e
    by_cases c : j = k
    · rw [if_pos c] at e; cases e
    · rw [if_neg c] at e
      have ne : (G.nm k == G.nm j) = false := beq_eq_false_iff_ne.mpr fun q => c (G.inj _ _ q).symm
      simp [List.lookup, ne, h2.none e]
theorem RepF.length : ∀ {fs : List (Nat × D)} {vfs : List (Str × V)}, RepF K G I fs vfs → vfs.length = fs.length
  | [], vfs, h => by unfold RepF at h; subst h; rfl
  | (j, x) :: r, vfs, h => by
    unfold RepF at h
    obtain ⟨v, t, rfl, h1, h2⟩ := h
    simp [h2.length]
theorem RepF.put {k : Nat} {d : D} {v : V} (hd : Rep K G I d v) : ∀ {fs : List (Nat × D)} {vfs : List (Str × V)}, RepF K G I fs vfs → RepF K G I (putD k d fs) (putF (G.nm k) v vfs)
  | [], vfs, h => by
    unfold RepF at h
    subst h
    show RepF K G I [(k, d)] [(G.nm k, v)]
    unfold RepF
    exact ⟨v, [], rfl, hd, by unfold RepF; rfl⟩
  | (j, x) :: r, vfs, h => by
    unfold RepF at h
    obtain ⟨y, t, rfl, h1, h2⟩ := h
    unfold putD putF
    by_cases c : j = k
    · subst c
      rw [if_pos rfl, if_pos rfl]
      unfold RepF
      exact ⟨v, t, rfl, hd, h2⟩
    · rw [if_neg c, if_neg fun q => c (G.inj _ _ q)]
      unfold RepF
      exact ⟨y, _, rfl, h1, h2.put hd⟩
end

/-- what the text's tables say is so -/
structure GOk (K : PySem.W.Frag) (G : Gam) : Prop where
  fld : ∀ c k, G.fld c k = true → Cls K (G.cl c) ∧ NoAttr K (G.cl c) (G.nm k)
  dn : ∀ c k i, G.dn c k = some i → Cls K (G.cl c) ∧ Meth K (G.cl c) (G.nm k) (G.adr i) ∧ PySem.W.selfFirst K (G.cl c) = true
section
variable {X : Cx} {G : Gam} {B : Bs} {W : WX}

/-! ## fields -/
def instD (d : D) (M : Mst) : Option (Nat × List (Nat × D)) := match d with
  | .obj c fs => some (c, fs)
  | .loc a => match M a with
    | some (.inst c fs) => some (c, fs)
    | _ => none
  | _ => none
theorem instD_ok {K : PySem.W.Frag} {I H : Hp} {M : Mst} {d : D} {x : V} {c : Nat} {fs : List (Nat × D)} (g : Good K G I M H) (r : Rep K G I d x) (e : instD d M = some (c, fs)) : ∃ a dx vfs, x = .ref a ∧ H a = some (.ins (G.cl c) dx vfs) ∧ RepF K G I fs vfs := by
  cases d with
  | obj c' fs' =>
    cases e
    unfold Rep at r
    obtain ⟨a, dx, vfs, rfl, h1, h2⟩ := r
    exact ⟨a, dx, vfs, rfl, g.sub.ins h1, h2⟩
  | loc a =>
    unfold Rep at r
    unfold instD at e
    dsimp only at e
    split at e
    · rename_i c' fs' h
      cases e
      obtain ⟨_, o, h1, dx, vfs, rfl, h2⟩ := g.mst a _ h
      exact ⟨a, dx, vfs, r, h1, h2⟩
    · cases e
  | _ => cases e
/-- an instance, as it stands -/
def instX (d : D) (M : Mst) (P : Nat → List (Nat × D) → Prop) : Prop := match d with
  | .obj c fs => P c fs
  | .loc a => ∃ c fs, M a = some (.inst c fs) ∧ P c fs
  | _ => False
theorem instX_ok {d : D} {M : Mst} {P : Nat → List (Nat × D) → Prop} (h : instX d M P) : ∃ c fs, instD d M = some (c, fs) ∧ P c fs := by
  unfold instX at h
  split at h
  · exact ⟨_, _, rfl, h⟩
  · obtain ⟨c, fs, hm, h⟩ := h
    refine ⟨c, fs, ?_, h⟩
    unfold instD
    dsimp only
    rw [hm]
  · exact h.elim
def fldD (k : Nat) (d : D) : TD := fun _ M K _ => match instD d M with
  | some (c, fs) => G.fld c k = true ∧ (match getD k fs with
    | some e => K e M
    | none => False)
  | none => False
theorem pd_fld {e : Expr} {t : TD} {k : Nat} {pos : Pos} (gok : GOk X.K G) (h : PE X e (TEx X.K G B W t)) (hb : attributeBase e (G.nm k) X.env (eval e X.env) = eval e X.env) : PE X (.Attribute e (G.nm k) pos) (TEx X.K G B W (bindD t (fldD (G := G) k))) := by
  refine PE.imp (pe_fld h hb) fun σ H Q h => ?_
  obtain ⟨ρ, M, I, K1, E1, s, q, ok, er⟩ := h
  refine ⟨ρ, M, I, _, _, s, q, fun d M' v H' I' z e s' r => ?_, er⟩
  dsimp only [fldD] at z
  split at z
  · rename_i c fs hi
    obtain ⟨hf, z⟩ := z
    split at z
    · rename_i y hy
      obtain ⟨a, dx, vfs, rfl, h1, h2⟩ := instD_ok s'.good r hi
      obtain ⟨v, h3, h4⟩ := h2.get hy
      obtain ⟨c1, c2⟩ := gok.fld c k hf
      exact ⟨a, _, dx, vfs, v, rfl, h1, c1, c2, h3, ok _ _ _ _ _ z e s' h4⟩
    · exact z.elim
  · exact z.elim
/-- self.k = e -/
def setfS (k : Nat) (to te : TD) : TSd := fun ρ M En => te ρ M (fun d M1 => to ρ M1 (fun o M2 => match o with
  | .loc a => ∃ c fs, M2 a = some (.inst c fs) ∧ G.fld c k = true ∧ fs.length ≤ 900 ∧ En.nx ρ (updM M2 a (.inst c (putD k d fs)))
  | _ => False) (erE En ρ)) (erE En ρ)
theorem pds_setf {o e : Expr} {to te : TD} {k : Nat} {pos pos' : Pos} (gok : GOk X.K G) (ho : PE X o (TEx X.K G B W to)) (he : PE X e (TEx X.K G B W te)) (hs : swapsWith e (some (.Attribute o (G.nm k) pos')) pos.line X.env = pure false) :
    PS X (.Assign [.Attribute o (G.nm k) pos'] e pos) (TSx X.K G B W (setfS (G := G) k to te)) := by
  refine PS.imp (ps_fld ho he hs) fun D σ H ⟨ρ, M, I, En, s, t, ok⟩ => ?_
  refine ⟨ρ, M, I, _, _, s, t, fun d M1 v H1 I1 z1 e1 s1 r1 => ⟨ρ, M1, I1, _, _, s1, z1, fun o M2 y H2 I2 z2 e2 s2 r2 => ?_, erC ok⟩, erC ok⟩
  dsimp only at z2
  split at z2
  · rename_i a
    obtain ⟨c, fs, hm, hf, hl, z2⟩ := z2
    obtain ⟨c1, c2⟩ := gok.fld c k hf
    obtain ⟨_, ob, h1, dx, vfs, rfl, h2⟩ := s2.good.mst a _ hm
    unfold Rep at r2
    have r3 := h2.put (r1.ext e2) (k := k)
    refine ⟨a, _, dx, vfs, r2, h1, c1, c2, by rw [h2.length]; omega, ?_⟩
    exact ok.nx _ _ _ _ I2 z2 (s2.step (s2.good.setM hm ⟨dx, _, rfl, r3⟩) (s2.good.setM_frm hm))
  · exact z2.elim

/-! ## items -/
def seqD (d : D) (M : Mst) : Option (List D) := match d with
  | .lst ds => some ds
  | .tup ds => some ds
  | .loc a => match M a with
    | some (.lst ds) => some ds
    | _ => none
  | _ => none
theorem seqD_ok {K : PySem.W.Frag} {I H : Hp} {M : Mst} {d : D} {x : V} {ds : List D} (g : Good K G I M H) (r : Rep K G I d x) (e : seqD d M = some ds) : ∃ a vs, x = .ref a ∧ (SqL K H a vs ∨ SqT K H a vs) ∧ Reps K G I ds vs := by
  cases d with
  | lst ds' =>
    cases e
    unfold Rep at r
    obtain ⟨a, vs, rfl, h1, h2⟩ := r
    exact ⟨a, vs, rfl, .inl (g.sub.sql h1), h2⟩
  | tup ds' =>
    cases e
    unfold Rep at r
    obtain ⟨a, vs, rfl, h1, h2⟩ := r
    exact ⟨a, vs, rfl, .inr (g.sub.sqt h1), h2⟩
  | loc a =>
    unfold Rep at r
    unfold seqD at e
    dsimp only at e
    split at e
    · rename_i ds' h
      cases e
      obtain ⟨_, o, h1, vs, rfl, h2⟩ := g.mst a _ h
      exact ⟨a, vs, r, .inl (.of h1), h2⟩
    · cases e
  | _ => cases e
/-- a list, a tuple, as it stands -/
def seqX (d : D) (M : Mst) (P : List D → Prop) : Prop := match d with
  | .lst ds => P ds
  | .tup ds => P ds
  | .loc a => ∃ ds, M a = some (.lst ds) ∧ P ds
  | _ => False
theorem seqX_ok {d : D} {M : Mst} {P : List D → Prop} (h : seqX d M P) : ∃ ds, seqD d M = some ds ∧ P ds := by
  unfold seqX at h
  split at h
  · exact ⟨_, rfl, h⟩
  · exact ⟨_, rfl, h⟩
  · obtain ⟨ds, hm, h⟩ := h
    refine ⟨ds, ?_, h⟩
    unfold seqD
    dsimp only
    rw [hm]
  · exact h.elim
theorem atI_rep {K : PySem.W.Frag} {I : Hp} {ds : List D} {vs : List V} {i : Int} {d : D} (r : Reps K G I ds vs) (e : atI ds i = some d) : ∃ v, atI vs i = some v ∧ Rep K G I d v := by
  unfold atI at e ⊢
  rw [r.length]
  cases q : ixN ds.length i with
  | none => rw [q] at e; cases e
  | some j =>
    rw [q] at e
    exact r.get e
/-- xs[i] -/
def subD (d i : D) : TD := fun _ M K _ => match i with
  | .int n => seqX d M fun ds => ∃ e, atI ds n = some e ∧ K e M
  | _ => False
theorem pd_sub {a b : Expr} {ta tb : TD} {pos : Pos} (ha : PE X a (TEx X.K G B W ta)) (hb : PE X b (TEx X.K G B W tb)) (hs : PlainIx b) : PE X (.Subscript a b pos) (TEx X.K G B W (bind2 ta tb subD)) := by
  refine PE.imp (pe_ix ix_seq ha hb hs) fun σ H Q h => ?_
  obtain ⟨ρ, M, I, K1, E1, s, t, ok, er⟩ := h
  refine ⟨ρ, M, I, _, _, s, t, fun d M1 v H1 I1 z1 e1 s1 r1 => ⟨ρ, M1, I1, _, _, s1, z1, fun i M2 y H2 I2 z2 e2 s2 r2 => ?_, er⟩, er⟩
  dsimp only [subD] at z2
  split at z2
  · rename_i n
    obtain ⟨ds, hd, x, hx, z2⟩ := seqX_ok z2
    obtain ⟨a, vs, rfl, h1, h2⟩ := seqD_ok s2.good (r1.ext e2) hd
    unfold Rep at r2
    subst r2
    obtain ⟨u, h3, h4⟩ := atI_rep h2 hx
    rcases h1 with h1 | h1
    · exact .inl ⟨a, vs, n, u, rfl, rfl, h1, h3, ok _ _ _ _ _ z2 (e1.trans e2) s2 h4⟩
    · exact .inr (.inl ⟨a, vs, n, u, rfl, rfl, h1, h3, ok _ _ _ _ _ z2 (e1.trans e2) s2 h4⟩)
  · exact z2.elim
/-- xs[i] = e of a list that changes -/
def setiS (to ti te : TD) : TSd := fun ρ M En => te ρ M (fun d M1 => to ρ M1 (fun o M2 => ti ρ M2 (fun i M3 => match o, i with
  | .loc a, .int n => ∃ ds j, M3 a = some (.lst ds) ∧ ixN ds.length n = some j ∧ En.nx ρ (updM M3 a (.lst (ds.set j d)))
  | _, _ => False) (erE En ρ)) (erE En ρ)) (erE En ρ)
theorem pds_seti {o i e : Expr} {to ti te : TD} {pos pos' : Pos} (ho : PE X o (TEx X.K G B W to)) (hi : PE X i (TEx X.K G B W ti)) (he : PE X e (TEx X.K G B W te))
    (ha : ∀ v, assign (.Subscript o i pos') X.env v = (do
      let ov ← holding [v] (eval o X.env)
      let iv ← holding [v, ov] (eval i X.env)
      standAt pos'
      holding [v, ov, iv] (setItem ov iv v)
      release [v, ov, iv] []))
    (hs : swapsWithSole [.Subscript o i pos'] e pos.line X.env = pure false) (hw : swappedStores [.Subscript o i pos'] e X.env = pure none) (h1 : (assignEach [.Subscript o i pos'] X.env).map (·.2) = [assign (.Subscript o i pos') X.env]) :
    PS X (.Assign [.Subscript o i pos'] e pos) (TSx X.K G B W (setiS to ti te)) := by
  refine PS.imp (ps_asg he (pg_sub ho hi set_list ha) hs hw h1) fun D σ H ⟨ρ, M, I, En, s, t, ok⟩ => ?_
  refine ⟨ρ, M, I, _, _, s, t, fun d M1 v H1 I1 z1 e1 s1 r1 => ⟨ρ, M1, I1, _, _, s1, z1, fun o M2 y H2 I2 z2 e2 s2 r2 => ⟨ρ, M2, I2, _, _, s2, z2, fun i M3 y3 H3 I3 z3 e3 s3 r3 => ?_, erC ok⟩, erC ok⟩, erC ok⟩
  dsimp only at z3
  split at z3
  · rename_i a n
    obtain ⟨ds, j, hm, hj, z3⟩ := z3
    obtain ⟨_, ob, g1, vs, rfl, g2⟩ := s3.good.mst a _ hm
    unfold Rep at r2 r3
    subst r2 r3
    refine ⟨a, vs, n, j, rfl, rfl, g1, by rw [g2.length]; exact hj, ?_⟩
    exact ok.nx _ _ _ _ I3 z3 (s3.step (s3.good.setM hm ⟨_, rfl, g2.set j (r1.ext (e2.trans e3))⟩) (s3.good.setM_frm hm))
  · exact z3.elim
/-- xs[lo:hi] of a list -/
def cutD (ds : List D) (lo hi : Option Int) : List D := (ds.drop (HT.sIx ds.length 0 lo)).take (HT.sIx ds.length ds.length hi - HT.sIx ds.length 0 lo)
theorem cut_rep {K : PySem.W.Frag} {I : Hp} {ds : List D} {vs : List V} (lo hi : Option Int) (r : Reps K G I ds vs) : Reps K G I (cutD ds lo hi) (cutV vs lo hi) := by
  unfold cutD cutV
  rw [r.length]
  exact (r.drop _).take _
end
end PyD
set_option Elab.async false
set_option linter.all false
set_option autoImplicit false
set_option maxRecDepth 100000
set_option maxHeartbeats 4000000
/-! # Own operators at the model's level -/
namespace PyD
open PySem PySem.W PySem.Calls PyProof.Rows
section
variable {y : Addr} {oc : Value} {od : Option Addr} {sl : Array (Option Value)}
/-- an object that holds no data of a built-in -/
def PlainAt (h : Heap) (y : Addr) : Prop := ∃ oc od sl, h.get? y = some ⟨oc, od, .plain, sl⟩
theorem declines_add (a : Int) (t : Tok) : Meets (Builtin.«int.__add__» ⟨[.int a t, .ref y], []⟩) (fun _ R s => s.heap.get? y = some ⟨oc, od, .plain, sl⟩ ∧ R (.ok (.ret Value.notImplemented)) s) :=
  .of_wp fun prog w A R s h => by obtain ⟨hp, g, d, tk, os⟩ := s; obtain ⟨hl, h⟩ := h; wp_walk; exact ⟨_, rfl, h⟩
theorem declines_sub (a : Int) (t : Tok) : Meets (Builtin.«int.__sub__» ⟨[.int a t, .ref y], []⟩) (fun _ R s => s.heap.get? y = some ⟨oc, od, .plain, sl⟩ ∧ R (.ok (.ret Value.notImplemented)) s) :=
  .of_wp fun prog w A R s h => by obtain ⟨hp, g, d, tk, os⟩ := s; obtain ⟨hl, h⟩ := h; wp_walk; exact ⟨_, rfl, h⟩
theorem declines_mul (a : Int) (t : Tok) : Meets (Builtin.«int.__mul__» ⟨[.int a t, .ref y], []⟩) (fun _ R s => s.heap.get? y = some ⟨oc, od, .plain, sl⟩ ∧ R (.ok (.ret Value.notImplemented)) s) :=
  .of_wp fun prog w A R s h => by obtain ⟨hp, g, d, tk, os⟩ := s; obtain ⟨hl, h⟩ := h; wp_walk; exact ⟨_, rfl, h⟩
theorem declines_lt (a : Int) (t : Tok) : Meets (Builtin.«int.__lt__» ⟨[.int a t, .ref y], []⟩) (fun _ R s => s.heap.get? y = some ⟨oc, od, .plain, sl⟩ ∧ R (.ok (.ret Value.notImplemented)) s) :=
  .of_wp fun prog w A R s h => by obtain ⟨hp, g, d, tk, os⟩ := s; obtain ⟨hl, h⟩ := h; wp_walk; exact ⟨_, rfl, h⟩
theorem declines_le (a : Int) (t : Tok) : Meets (Builtin.«int.__le__» ⟨[.int a t, .ref y], []⟩) (fun _ R s => s.heap.get? y = some ⟨oc, od, .plain, sl⟩ ∧ R (.ok (.ret Value.notImplemented)) s) :=
  .of_wp fun prog w A R s h => by obtain ⟨hp, g, d, tk, os⟩ := s; obtain ⟨hl, h⟩ := h; wp_walk; exact ⟨_, rfl, h⟩
theorem declines_gt (a : Int) (t : Tok) : Meets (Builtin.«int.__gt__» ⟨[.int a t, .ref y], []⟩) (fun _ R s => s.heap.get? y = some ⟨oc, od, .plain, sl⟩ ∧ R (.ok (.ret Value.notImplemented)) s) :=
  .of_wp fun prog w A R s h => by obtain ⟨hp, g, d, tk, os⟩ := s; obtain ⟨hl, h⟩ := h; wp_walk; exact ⟨_, rfl, h⟩
theorem declines_ge (a : Int) (t : Tok) : Meets (Builtin.«int.__ge__» ⟨[.int a t, .ref y], []⟩) (fun _ R s => s.heap.get? y = some ⟨oc, od, .plain, sl⟩ ∧ R (.ok (.ret Value.notImplemented)) s) :=
  .of_wp fun prog w A R s h => by obtain ⟨hp, g, d, tk, os⟩ := s; obtain ⟨hl, h⟩ := h; wp_walk; exact ⟨_, rfl, h⟩
theorem declines_eq (a : Int) (t : Tok) : Meets (Builtin.«int.__eq__» ⟨[.int a t, .ref y], []⟩) (fun _ R s => s.heap.get? y = some ⟨oc, od, .plain, sl⟩ ∧ R (.ok (.ret Value.notImplemented)) s) :=
  .of_wp fun prog w A R s h => by obtain ⟨hp, g, d, tk, os⟩ := s; obtain ⟨hl, h⟩ := h; wp_walk; exact ⟨_, rfl, h⟩
end
section
variable {prog : Program} {w : World} {A : Around} {E : Value → Shared → Prop} {s : Shared} {K : Frag} {x y C L f : Addr} {h₀ : Heap} {m : Str → Option Value} {ox oy : Obj} {od odd : Option Obj} {nm : String}
/-- a op b, both of one own class -/
theorem own_same {op : Operator} {Q : Value → Shared → Prop} (F : Fr h₀ L s.heap m) (X₀ : K.In h₀) (I : InstAt s.heap x ox C od) (J : InstAt s.heap y oy C odd) (hc : selfFirst K C = true)
    (hs : findIn K (.ref C) (PySem.dunder op.info.2) = some (some (.ref f))) (hf : isFn K (.ref f) = true)
    (h : wpAny (model prog w) A (call (.ref f) [.ref x, .ref y]) (W.CmpBack Q) E s) : wpAny (model prog w) A (binaryOp op (.ref x) (.ref y)) Q E s := by
  have X := X₀.keeps F.keep
  obtain ⟨cd, rest, hcd, hm⟩ := ksp_first hc
  rcases hi : op.info with ⟨sym, nm'⟩
  rw [hi] at hs
  dsimp only at hs
  have one := ksp_try X I hs hf h
  obtain ⟨hh, g, d, tt, os⟩ := s
  have L1 : Looks (model prog w) hh (typeOf (.ref x)) (.ref C) := I.type
  have L2 : Looks (model prog w) hh (typeOf (.ref y)) (.ref C) := J.type
  have L3 : Looks (model prog w) hh (fillsNumberSlot (.ref C) nm') true := fills_K X hcd hm hs
  simp only [binaryOp, hi]
  refine wpAny_holding (wpAny_bind ?_)
  unfold binaryOp1
  refine wpAny_bind (L1.at (wpAny_bind (L2.at (wpAny_bind (L3.at ?_)))))
  simp only [beq_self_eq_true, if_true, pure_bind, Bool.and_false, Bool.false_eq_true, if_false, Bool.false_and]
  ksp_lk
  refine wpAny_mono one (fun r s' hr' => ?_) fun _ _ e => e
  obtain ⟨v, rfl, hq⟩ := hr'
  ksp_lk
  exact hq
/-- an own instance op a value of a built-in type -/
theorem own_side {op : Operator} {T : String} {b : Value} {fo ro rc : Option Value} {Q : Value → Shared → Prop} (F : Fr h₀ L s.heap m) (X₀ : K.In h₀) (I : InstAt s.heap x ox C od) (J : Looks (model prog w) s.heap (typeOf b) (.type T))
    (hc : selfFirst K C = true) (hs : findIn K (.ref C) (PySem.dunder op.info.2) = some (some (.ref f))) (hf : isFn K (.ref f) = true) (hr : findIn K (.ref C) (dunderR op.info.2) = some rc) (hp : rc = none ∨ ∃ g : Addr, rc = some (.ref g))
    (k1 : findIn K (.type T) (PySem.dunder op.info.2) = some fo) (k2 : findIn K (.type T) (dunderR op.info.2) = some ro) (hsub : subIn K (.type T) (.ref C) = some false)
    (h : wpAny (model prog w) A (call (.ref f) [.ref x, b]) (W.CmpBack Q) E s) : wpAny (model prog w) A (binaryOp op (.ref x) b) Q E s := by
  have X := X₀.keeps F.keep
  obtain ⟨cd, rest, hcd, hm⟩ := ksp_first hc
  rcases hi : op.info with ⟨sym, nm'⟩
  rw [hi] at hs hr k1 k2
  dsimp only at hs hr k1 k2
  have one := ksp_try X I hs hf h
  obtain ⟨hh, g, d, tt, os⟩ := s
  have A1 : Looks (model prog w) hh (typeOf (.ref x)) (.ref C) := I.type
  have A2 : Looks (model prog w) hh (typeOf b) (.type T) := J
  have A3 : Looks (model prog w) hh (fillsNumberSlot (.ref C) nm') true := fills_K X hcd hm hs
  have A4 : Looks (model prog w) hh (fillsNumberSlot (.type T) nm') ((fo.isSome && !isSeqSlot fo) || (ro.isSome && !isSeqSlot ro)) := ksp_fillsT X k1 k2
  have A5 : Looks (model prog w) hh (isSubtype (.type T) (.ref C)) false := looks_subIn X hsub
  have A6 : Looks (model prog w) hh (numberSlotInPython (.ref C) nm') true := ksp_inPy X hs hr hp
  have A7 : Looks (model prog w) hh (numberSlotInPython (.type T) nm') false := Looks.of_pure rfl
  have A8 : Looks (model prog w) hh (typeLookup (.type T) (dunderR nm')) ro := looks_findIn X k2
  generalize ((fo.isSome && !isSeqSlot fo) || (ro.isSome && !isSeqSlot ro)) = right at A4
  have hne : (Value.ref C == Value.type T) = false := Bool.eq_false_iff.mpr fun q => by cases beq_iff_eq.mp q
  simp only [binaryOp, hi]
  refine wpAny_holding (wpAny_bind ?_)
  unfold binaryOp1
  refine wpAny_bind (A1.at (wpAny_bind (A2.at (wpAny_bind (A3.at ?_)))))
  simp only [hne, Bool.false_eq_true, if_false]
  cases right <;>
  · ksp_lk
    refine wpAny_mono one (fun r s' hr' => ?_) fun _ _ e => e
    obtain ⟨v, rfl, hq⟩ := hr'
    ksp_lk
    exact hq
/-- an int op an own instance: by the reflected name -/
theorem own_refl {op : Operator} {a : Int} {t : Tok} {idl : String} {g0 : Addr} {Q : Value → Shared → Prop} (F : Fr h₀ L s.heap m) (X₀ : K.In h₀) (J : InstAt s.heap y oy C odd)
    (hc : selfFirst K C = true) (hs : findIn K (.ref C) (dunderR op.info.2) = some (some (.ref f))) (hf : isFn K (.ref f) = true) (hl0 : findIn K (.ref C) (PySem.dunder op.info.2) = some (some (.ref g0)))
    (hfT : fillsNumberSlot (.type "int") op.info.2 = pure true) (hsub : subIn K (.ref C) (.type "int") = some false) (sl : Slot "int" (PySem.dunder op.info.2) idl)
    (hdec : ∀ (Q' : Value → Shared → Prop), Q' .notImplemented s → wpAny (model prog w) A (call (.builtin idl) [.int a t, .ref y]) Q' E s)
    (h : wpAny (model prog w) A (call (.ref f) [.ref y, .int a t]) (W.CmpBack Q) E s) : wpAny (model prog w) A (binaryOp op (.int a t) (.ref y)) Q E s := by
  have X := X₀.keeps F.keep
  rcases hi : op.info with ⟨sym, nm'⟩
  rw [hi] at hs hl0 hfT sl
  dsimp only at hs hl0 hfT sl
  obtain ⟨cd, rest, hcd, hm⟩ := ksp_first hc
  have one := ksp_try X J hs hf h
  have e1 : s.TypeIs (.int a t) "int" := typeIs_int s a t
  obtain ⟨hh, g, d, tt, os⟩ := s
  have L2 : Looks (model prog w) hh (typeOf (.ref y)) (.ref C) := J.type
  have L3 : Looks (model prog w) hh (fillsNumberSlot (.ref C) nm') true := fills_K X hcd hm hl0
  have L5 : Looks (model prog w) hh (isSubtype (.ref C) (.type "int")) false := looks_subIn X hsub
  have hne : (Value.type "int" == Value.ref C) = false := Bool.eq_false_iff.mpr fun q => by cases beq_iff_eq.mp q
  have hpy : numberSlotInPython (.type "int") nm' = pure false := rfl
  simp only [binaryOp, hi]
  refine wpAny_holding (wpAny_bind ?_)
  unfold binaryOp1
  refine wpAny_bind (wpAny_typeOf e1 (wpAny_bind (L2.at (wpAny_bind (wpAny_of_eq hfT ?_)))))
  simp only [hne, Bool.false_eq_true, if_false]
  refine wpAny_bind (L3.at ?_)
  simp only [Bool.and_self, if_true]
  refine wpAny_bind (L5.at ?_)
  simp only [Bool.false_eq_true, if_false, pure_bind, Bool.not_false, Bool.and_self, if_true, hpy]
  refine wpAny_bind (wpAny_tryMethod_declines e1 sl (hdec _ ⟨rfl, ?_⟩))
  ksp_lk
  refine wpAny_mono one (fun r s' hr' => ?_) fun _ _ e => e
  obtain ⟨v, rfl, hq⟩ := hr'
  ksp_lk
  exact hq
end
end PyD
set_option Elab.async false
set_option linter.all false
set_option autoImplicit false
set_option maxRecDepth 100000
set_option maxHeartbeats 4000000
/-! # Own comparisons at the model's level -/
namespace PyD
open PySem PySem.W PySem.Calls PyProof.Rows
section
variable {prog : Program} {w : World} {A : Around} {E : Value → Shared → Prop} {s : Shared} {K : Frag} {x y C L f : Addr} {h₀ : Heap} {m : Str → Option Value} {ox oy : Obj} {od odd : Option Obj} {b : Value}
/-- an own comparison answers -/
theorem own_tryCmp {name : Str} {Q : Option Value → Shared → Prop} (X : K.In s.heap) (I : InstAt s.heap x ox C od) (hs : findIn K (.ref C) name = some (some (.ref f))) (hf : isFn K (.ref f) = true)
    (h : wpAny (model prog w) A (call (.ref f) [.ref x, b]) (W.CmpBack fun v s' => Q (some v) s') E s) : wpAny (model prog w) A (tryCompare (.ref x) name b) Q E s := by
  unfold tryCompare
  refine wpAny_bind (ifBound_K X I hs hf (wpAny_mono h (fun v s' hv => ?_) fun _ _ e => e))
  cases v <;> first | exact hv.elim | exact wpAny_pure hv
/-- an int compared with an own instance: by the reflected name -/
theorem own_cmp_refl {op : CmpOp} {a : Int} {t : Tok} {idl : String} {Q : Value → Shared → Prop} (hu : A.units < cLine) (X : K.In s.heap) (J : InstAt s.heap y oy C odd)
    (hs : findIn K (.ref C) (cmpInfo op).2.2 = some (some (.ref f))) (hf : isFn K (.ref f) = true) (hsub : subIn K (.ref C) (.type "int") = some false) (sl : Slot "int" (cmpInfo op).2.1 idl)
    (hdec : ∀ (Q' : Value → Shared → Prop), Q' .notImplemented s → wpAny (model prog w) A (call (.builtin idl) [.int a t, .ref y]) Q' E s)
    (h1 : oneThing? op (.int a t) (.ref y) = none)
    (h : wpAny (model prog w) A (call (.ref f) [.ref y, .int a t]) (W.CmpBack Q) E s) : wpAny (model prog w) A (richCompare op (.int a t) (.ref y)) Q E s := by
  have e1 : s.TypeIs (.int a t) "int" := typeIs_int s a t
  have hne : (Value.type "int" != Value.ref C) = true := rfl
  unfold richCompare
  simp only [h1]
  refine wpAny_holding (wpAny_bind (wpAny_cRoomFor hu ?_))
  refine wpAny_bind (wpAny_typeOf e1 (wpAny_bind (J.type.here ?_)))
  simp only [hne, if_true]
  refine wpAny_bind ((looks_subIn X hsub).here ?_)
  simp only [Bool.false_eq_true, if_false, Bool.not_false, if_true]
  refine wpAny_bind (m := tryCompare (.int a t) _ (.ref y)) (wpAny_tryCompare_declines e1 sl (hdec _ ⟨rfl, ?_⟩))
  refine wpAny_bind (m := tryCompare (.ref y) _ (.int a t)) (own_tryCmp X J hs hf (wpAny_mono h (fun v s' hv => ?_) fun _ _ e => e))
  cases v <;> first | exact hv.elim | exact wpAny_pure hv
/-- != where the class has __eq__ alone -/
theorem own_ne {tb : Value} {Q : Value → Shared → Prop} (hu : A.units + 1 < cLine) (X : K.In s.heap) (I : InstAt s.heap x ox C od) (hb : Looks (model prog w) s.heap (typeOf b) tb) (hn : notFirst K C tb = true)
    (hs : findIn K (.ref C) "__eq__" = some (some (.ref f))) (hf : isFn K (.ref f) = true) (hne : findIn K (.ref C) "__ne__" = some (some (.builtin "object.__ne__"))) (hm : mroIn K C (.type "object") = some true)
    (h : wpAny (model prog w) A.in1 (call (.ref f) [.ref x, b]) (fun v s' => ∃ k, v = .bool k ∧ Q (.bool (!k)) s') E s) : wpAny (model prog w) A (richCompare .NotEq (.ref x) b) Q E s := by
  have ent : wpAny (model prog w) A.in1 (Builtin.«object.__ne__» ⟨[.ref x, b], []⟩) (fun fin s' => ∃ k, fin = .done (.ret (.bool k)) ∧ Q (.bool k) s') E s := by
    unfold Builtin.«object.__ne__»
    repeat (first
      | with_reducible refine wpAny_cRoomFor hu ?_
      | (refine wpAny_bind (m := callSpecialIfBound? (.ref x) (Str.ofString "__eq__") [b])
          (ifBound_K X I hs hf (wpAny_mono h (fun r s' hr => by
            obtain ⟨k, rfl, hq⟩ := hr
            repeat (first | exact ⟨_, rfl, hq⟩ | exact wpAny_pure ⟨_, rfl, hq⟩ | exact wpAny_truthy_bool ⟨_, rfl, hq⟩ | (refine wpAny_bind (m := truthy (.bool _)) (wpAny_truthy_bool ?_)) | wp_step)) fun _ _ e => e)))
      | wp_step)
  have one : wpAny (model prog w) A (tryCompare (.ref x) "__ne__" b) (fun r s' => ∃ k, r = some (.bool k) ∧ Q (.bool k) s') E s := by
    have cl : wpAny (model prog w) A (call (.builtin "object.__ne__") [.ref x, b]) (fun v s' => ∃ k, v = .bool k ∧ Q (.bool k) s') E s := by
      refine wpAny_call (codeAny_call_builtin F.cmp_object.ne.plain F.cmpEntry_ne (PySem.W.check_slot F.cmpKind_ne F.cmpSplit_ne (I.type.andThen (PySem.W.looks_mroIn X hm)) (F.cmpArgs_ne _ _) (wpAny_mono ent (fun fin s' hq => ?_) fun _ _ e => e)))
      obtain ⟨k, rfl, hq⟩ := hq
      exact ⟨k, rfl, hq⟩
    unfold tryCompare
    simp only [callSpecialIfBound?, bindSpecialIfBound?]
    refine wpAny_bind ?_
    refine wpAny_holding (wpAny_bind (wpAny_bind (wpAny_bind (I.type.here ((PySem.W.looks_findIn X hne).here ?_)))))
    refine wpAny_bind (wpAny_askSetting (wpAny_ite ?_))
    have fin : wpAny (model prog w) A (call (.builtin "object.__ne__") ([.ref x] ++ [b]) >>= fun v => pure (some v)) (fun o s' => ∃ k, o = some (.bool k) ∧ Q (.bool k) s') E s :=
      wpAny_bind (wpAny_mono cl (fun v s' ⟨k, h1, h2⟩ => wpAny_pure ⟨k, by rw [h1], h2⟩) fun _ _ h' => h')
    have fin2 : wpAny (model prog w) A (call (.builtin "object.__ne__") ([.ref x] ++ [b]) >>= fun v => pure (some v)) (fun o s' => wpAny (model prog w) A (match o with | some .notImplemented | none => pure none | some v => pure (some v)) (fun r s' => ∃ k, r = some (.bool k) ∧ Q (.bool k) s') E s') E s :=
      wpAny_mono fin (fun o s' ⟨k, h1, h2⟩ => by subst h1; exact wpAny_pure ⟨k, rfl, h2⟩) fun _ _ h' => h'
    split
    · exact wpAny_bind (wpAny_of_eq (F.cmp_object.ne.bind _) (wpAny_pure (by exact fin2)))
    · exact wpAny_tryCatch (wpAny_bind (wpAny_of_eq (F.cmp_object.ne.bind _) (wpAny_pure (by exact fin2))))
  unfold richCompare
  simp only [oneThing_ref]
  refine wpAny_holding (wpAny_bind (wpAny_cRoomFor (Nat.lt_of_succ_lt hu) ?_))
  refine wpAny_bind (I.type.here (wpAny_bind (hb.here ?_)))
  rw [cmpInfo_NotEq]
  dsimp only
  split
  · rename_i q
    have e : subIn K tb (.ref C) = some false := by
      rcases Bool.or_eq_true_iff.mp hn with e | e
      · rw [beq_iff_eq.mp e] at q; simp at q
      · exact beq_iff_eq.mp e
    refine wpAny_bind ((looks_subIn X e).here ?_)
    simp only [Bool.false_eq_true, if_false]
    refine wpAny_bind (wpAny_mono one (fun r s' z => ?_) fun _ _ e => e)
    obtain ⟨k, rfl, hq⟩ := z
    exact wpAny_pure hq
  · refine wpAny_bind (wpAny_pure ?_)
    simp only [Bool.false_eq_true, if_false]
    refine wpAny_bind (wpAny_mono one (fun r s' z => ?_) fun _ _ e => e)
    obtain ⟨k, rfl, hq⟩ := z
    exact wpAny_pure hq
end
end PyD
set_option Elab.async false
set_option linter.all false
set_option autoImplicit false
set_option maxRecDepth 100000
set_option maxHeartbeats 4000000
/-! # Own operators in place: by the plain ones -/
namespace PyD
open PySem PySem.W PySem.Calls PyProof.Rows
section
variable {prog : Program} {w : World} {A : Around} {E : Value → Shared → Prop} {s : Shared} {K : Frag} {x y C L f : Addr} {h₀ : Heap} {m : Str → Option Value} {ox oy : Obj} {od odd : Option Obj} {nm : String}
theorem none_of_all {M : Model} {h : Heap} {nm : String} {add : Bool} (X : K.In h) : ∀ {l : List Value}, (∀ t ∈ l, findIn K t (dunderI nm) = some none) → Looks M h (l.anyM fun c => do
    let some x ← typeLookup c (dunderI nm) | return false
    if let .type _ := c then return !isSeqSlot (some x)
    if !ownNameWrapper x (dunderI nm) then return true
    if !(← inheritsSeqSlot c (dunderI nm)) then return true
    if add then return (← seqSlot? c (dunderI nm)).isSome
    return false) false
  | [], _ => Looks.of_pure rfl
  | t :: l, hl => by
    have ih := none_of_all (M := M) (add := add) X (l := l) fun t h => hl t (List.mem_cons_of_mem _ h)
    have h1 : Looks M h (typeLookup t (dunderI nm)) none := looks_findIn X (hl t List.mem_cons_self)
    rw [List.anyM_cons]
    intro A Q E s k q
    refine wpAny_bind (wpAny_bind (h1 A _ E s k ?_))
    refine wpAny_pure ?_
    exact ih A _ E s k q
theorem noFillI {M : Model} {h : Heap} {cd : ClassData} {nm : String} {add : Bool} (X : K.In h) (hc : clsIn K C = some cd) (hn : ∀ t ∈ cd.mro, findIn K t (dunderI nm) = some none) : Looks M h (fillsInplaceSlot (.ref C) nm add) false := by
  intro A Q E s k q
  have Lm : Looks M h (mroOf (.ref C)) cd.mro := (looks_clsIn X hc).andThen (f := fun cd => pure cd.mro) .now
  unfold fillsInplaceSlot
  exact wpAny_bind (Lm A _ E s k (none_of_all X hn A _ E s k q))
/-- a op= b, both of one own class -/
theorem own_same_in {op : Operator} {cd : ClassData} {Q : Value → Shared → Prop} (F : Fr h₀ L s.heap m) (X₀ : K.In h₀) (I : InstAt s.heap x ox C od) (J : InstAt s.heap y oy C odd) (hc : selfFirst K C = true) (hcd : clsIn K C = some cd) (hn : ∀ t ∈ cd.mro, findIn K t (dunderI op.info.2) = some none)
    (hs : findIn K (.ref C) (PySem.dunder op.info.2) = some (some (.ref f))) (hf : isFn K (.ref f) = true)
    (h : wpAny (model prog w) A (call (.ref f) [.ref x, .ref y]) (W.CmpBack Q) E s) : wpAny (model prog w) A (inplaceOp op (.ref x) (.ref y)) Q E s := by
  have X := X₀.keeps F.keep
  obtain ⟨cd', rest, hcd', hm⟩ := ksp_first hc
  have one := ksp_try X I hs hf h
  have L3 : Looks (model prog w) s.heap (fillsNumberSlot (.ref C) op.info.2) true := fills_K X hcd' hm hs
  have L4 : Looks (model prog w) s.heap (fillsInplaceSlot (.ref C) op.info.2 (op == .Add)) false := noFillI X hcd hn
  obtain ⟨hh, g, d, tt, os⟩ := s
  have L1 : Looks (model prog w) hh (typeOf (.ref x)) (.ref C) := I.type
  have L2 : Looks (model prog w) hh (typeOf (.ref y)) (.ref C) := J.type
  unfold inplaceOp
  refine wpAny_holding (wpAny_bind (L1.at (wpAny_bind (L4.at ?_))))
  simp only [Bool.false_eq_true, if_false]
  refine wpAny_bind ?_
  unfold binaryOp1
  refine wpAny_bind (L1.at (wpAny_bind (L2.at (wpAny_bind (L3.at ?_)))))
  simp only [beq_self_eq_true, if_true, pure_bind, Bool.and_false, Bool.false_eq_true, if_false, Bool.false_and]
  ksp_lk
  refine wpAny_mono one (fun r s' hr' => ?_) fun _ _ e => e
  obtain ⟨v, rfl, hq⟩ := hr'
  ksp_lk
  exact hq
/-- an own instance op= a value of a built-in type -/
theorem own_side_in {op : Operator} {cd : ClassData} {T : String} {b : Value} {fo ro rc : Option Value} {Q : Value → Shared → Prop} (F : Fr h₀ L s.heap m) (X₀ : K.In h₀) (I : InstAt s.heap x ox C od) (J : Looks (model prog w) s.heap (typeOf b) (.type T))
    (hc : selfFirst K C = true) (hcd : clsIn K C = some cd) (hn : ∀ t ∈ cd.mro, findIn K t (dunderI op.info.2) = some none) (hs : findIn K (.ref C) (PySem.dunder op.info.2) = some (some (.ref f))) (hf : isFn K (.ref f) = true) (hr : findIn K (.ref C) (dunderR op.info.2) = some rc) (hp : rc = none ∨ ∃ g : Addr, rc = some (.ref g))
    (k1 : findIn K (.type T) (PySem.dunder op.info.2) = some fo) (k2 : findIn K (.type T) (dunderR op.info.2) = some ro) (hsub : subIn K (.type T) (.ref C) = some false)
    (h : wpAny (model prog w) A (call (.ref f) [.ref x, b]) (W.CmpBack Q) E s) : wpAny (model prog w) A (inplaceOp op (.ref x) b) Q E s := by
  have X := X₀.keeps F.keep
  obtain ⟨cd', rest, hcd', hm⟩ := ksp_first hc
  have one := ksp_try X I hs hf h
  have A3 : Looks (model prog w) s.heap (fillsNumberSlot (.ref C) op.info.2) true := fills_K X hcd' hm hs
  have A4 : Looks (model prog w) s.heap (fillsNumberSlot (.type T) op.info.2) ((fo.isSome && !isSeqSlot fo) || (ro.isSome && !isSeqSlot ro)) := ksp_fillsT X k1 k2
  have A6 : Looks (model prog w) s.heap (numberSlotInPython (.ref C) op.info.2) true := ksp_inPy X hs hr hp
  have A8 : Looks (model prog w) s.heap (typeLookup (.type T) (dunderR op.info.2)) ro := looks_findIn X k2
  have A9 : Looks (model prog w) s.heap (fillsInplaceSlot (.ref C) op.info.2 (op == .Add)) false := noFillI X hcd hn
  obtain ⟨hh, g, d, tt, os⟩ := s
  have A1 : Looks (model prog w) hh (typeOf (.ref x)) (.ref C) := I.type
  have A2 : Looks (model prog w) hh (typeOf b) (.type T) := J
  have A5 : Looks (model prog w) hh (isSubtype (.type T) (.ref C)) false := looks_subIn X hsub
  have A7 : Looks (model prog w) hh (numberSlotInPython (.type T) op.info.2) false := Looks.of_pure rfl
  generalize ((fo.isSome && !isSeqSlot fo) || (ro.isSome && !isSeqSlot ro)) = right at A4
  have hne : (Value.ref C == Value.type T) = false := Bool.eq_false_iff.mpr fun q => by cases beq_iff_eq.mp q
  unfold inplaceOp
  refine wpAny_holding (wpAny_bind (A1.at (wpAny_bind (A9.at ?_))))
  simp only [Bool.false_eq_true, if_false]
  refine wpAny_bind ?_
  unfold binaryOp1
  refine wpAny_bind (A1.at (wpAny_bind (A2.at (wpAny_bind (A3.at ?_)))))
  simp only [hne, Bool.false_eq_true, if_false]
  cases right <;>
  · ksp_lk
    refine wpAny_mono one (fun r s' hr' => ?_) fun _ _ e => e
    obtain ⟨v, rfl, hq⟩ := hr'
    ksp_lk
    exact hq
end
end PyD
set_option Elab.async false
set_option linter.all false
set_option autoImplicit false
set_option maxRecDepth 100000
set_option maxHeartbeats 4000000
/-! # Operators over trees -/
namespace PyD
open PySem PySem.Spec L2

/-- the names by number that the operators go by; a text's own names follow -/
def dunders : List Str := ["__add__", "__radd__", "__sub__", "__rsub__", "__mul__", "__rmul__", "__floordiv__", "__rfloordiv__", "__mod__", "__rmod__", "__or__", "__ror__", "__and__", "__rand__",
  "__lt__", "__le__", "__gt__", "__ge__", "__eq__", "__neg__", "__bool__", "__len__", "__contains__", "__getitem__", "__iter__", "__call__", "__str__", "__init__", "__setitem__"]
def opk : Operator → Nat
  | .Add => 0 | .Sub => 2 | .Mult => 4 | .FloorDiv => 6 | .Mod => 8 | .BitOr => 10 | .BitAnd => 12 | _ => 1000
def cmk : CmpOp → Nat
  | .Lt => 14 | .LtE => 15 | .Gt => 16 | .GtE => 17 | .Eq => 18 | _ => 1000
def cmr : CmpOp → Nat
  | .Lt => 16 | .LtE => 17 | .Gt => 14 | .GtE => 15 | .Eq => 18 | _ => 1000
def Ty.v (G : Gam) : Ty → Value
  | Ty.b n => .type n
  | Ty.c j => .ref (G.cl j)
/-- the built-in types that an own operator may meet on its other side -/
def sideTs : List String := ["int", "bool", "str", "NoneType", "list", "tuple", "dict"]
/-- what the operators want of the classes -/
structure GOps (K : PySem.W.Frag) (G : Gam) : Prop where
  ok : GOk K G
  dund : ∀ i, i < dunders.length → G.nm i = dunders.getD i ""
  /-- a class whose instances meet built-in values in operators -/
  side : ∀ c k i, G.dn c k = some i → k < 14 → ∀ T ∈ sideTs, (PySem.W.findIn K (.type T) (G.nm k)).isSome = true
  sub : ∀ c k i, G.dn c k = some i → k < 19 → ∀ T ∈ sideTs, PySem.W.subIn K (.type T) (.ref (G.cl c)) = some false
  subI : ∀ c k i, G.dn c k = some i → k < 19 → PySem.W.subIn K (.ref (G.cl c)) (.type "int") = some false
  inj : ∀ c c', G.cl c = G.cl c' → c = c'
  inI : ∀ c op i, G.dn c (opk op) = some i → opk op < 14 → ∃ cd, PySem.W.clsIn K (G.cl c) = some cd ∧ ∀ t ∈ cd.mro, PySem.W.findIn K t (PySem.dunderI op.info.2) = some none
  ne : ∀ c i, G.dn c 18 = some i → PySem.W.findIn K (.ref (G.cl c)) "__ne__" = some (some (.builtin "object.__ne__")) ∧ PySem.W.mroIn K (G.cl c) (.type "object") = some true
/-- C.m is the def at f, called without the class -/
def SmOf (K : PySem.W.Frag) (C : Addr) (m : Str) (f : Addr) : Prop :=
  ∃ (mc : Value) (p : Addr) (rest : List Value), PySem.W.specialIn K (.ref C) "__getattribute__" = some (some (.builtin "type.__getattribute__")) ∧ PySem.W.typeIn K (.ref C) = some mc ∧ PySem.W.readsIn K C mc = true ∧
    PySem.W.findCls K (.ref C) mc m = some (.get (.builtin "staticmethod.__get__") (.ref p) .none (.ref C)) ∧ PySem.W.recIn K p "staticmethod" = some (.ref f :: rest) ∧ PySem.W.handedIn (.ref f) = true ∧ PySem.W.keepIn K (.ref f) = true
/-- what isinstance asks of an own class -/
def InsOf (K : PySem.W.Frag) (C : Addr) : Prop := Cls K C ∧ PySem.W.findIn K (.ref C) "__class__" = some (some (.builtin "object.__class__")) ∧ PySem.W.specialIn K (.builtin "object.__class__") "__get__" = some (some (.builtin "getset_descriptor.__get__")) ∧
  PySem.W.takesIn K (.builtin "object.__class__") = some true ∧ PySem.W.mroIn K C (.type "object") = some true
/-- the names of built-ins that the text may call -/
def bltNames : List Str := ["abs", "all", "any", "bool", "dict", "enumerate", "int", "isinstance", "iter", "len", "list", "max", "min", "range", "repr", "set", "sorted", "str", "sum", "tuple", "zip"]
structure GG (K : PySem.W.Frag) (mg : Str → Option Value) (G : Gam) : Prop where
  ops : GOps K G
  dm : ∀ c k n i, G.dm c k n = some i → Cls K (G.cl c) ∧ Meth K (G.cl c) (G.nm k) (G.adr i) ∧ G.ks i = n
  pr : ∀ c k i, G.pr c k = some i → Cls K (G.cl c) ∧ G.ks i = [] ∧ G.isC i = false ∧ ∃ p, PropOf K (G.cl c) (G.nm k) p (G.adr i)
  sm : ∀ c k n i, G.sm c k n = some i → SmOf K (G.cl c) (G.nm k) (G.adr i) ∧ G.ks i = n
  cm : ∀ c k n i, G.cm c k n = some i → (∃ mc p, ClX.CRead K (G.cl c) mc ∧ ClX.CMet K (G.cl c) mc (G.nm k) p (G.adr i)) ∧ G.ks i = n
  gn : ∀ i x, G.gn i = some x → mg x = some (.ref (G.adr i)) ∧ PySem.W.keepIn K (.ref (G.adr i)) = true ∧ (x == ("__debug__" : Str)) = false
  cn : ∀ c x, G.cn c = some x → mg x = some (.ref (G.cl c)) ∧ (x == ("__debug__" : Str)) = false
  kon : ∀ j x d, G.kon j = some (x, d) → (∃ u v, mg x = some u ∧ RelV v u ∧ ∀ I, Rep K G I d v) ∧ (x == ("__debug__" : Str)) = false
  ist : ∀ t c b, G.ist t c = some b → PySem.W.kitOne K (t.v G) (c.v G) = some b
  isc : ∀ c t b, G.ist (.c c) t = some b → InsOf K (G.cl c)
  blt : ∀ x, x ∈ bltNames → mg x = none
/-- what may be called: a def, or a class by its __init__ -/
def FnQ (P : Program) (w : World) (K : PySem.W.Frag) (mg : Str → Option Value) (base : Heap) (G : Gam) (k : Nat) (b : Bool) (f : Value) (ks : List Str) (sd : SpD) : Prop := match b with
  | false => FnD P w K mg base G k f ks sd
  | true => ∃ k' c fi si, k = k' + 1 ∧ f = .ref (G.cl c) ∧ Mk K (G.cl c) fi ∧ FnD P w K mg base G k' (.ref fi) ks si ∧
      ∀ ds M K1 E1, sd ds M K1 E1 → ∀ a, M a = none → si (.loc a :: ds) (updM M a (.inst c [])) (fun d M' => d = .non ∧ ((∃ fs, M' a = some (.inst c fs) ∧ K1 (.obj c fs) (delM M' a)) ∨ K1 (.loc a) M')) E1
theorem FnQ.mono {P : Program} {w : World} {K : PySem.W.Frag} {mg : Str → Option Value} {base : Heap} {G : Gam} {j k : Nat} {b : Bool} {f : Value} {ks : List Str} {sd : SpD} (F : FnQ P w K mg base G j b f ks sd) (h : j ≤ k) : FnQ P w K mg base G k b f ks sd := by
  cases b with
  | false => exact FnD.mono F h
  | true =>
    obtain ⟨k', c, fi, si, rfl, e, m, F, hs⟩ := F
    obtain ⟨n, rfl⟩ : ∃ n, k = n + 1 := ⟨k - 1, by omega⟩
    exact ⟨n, c, fi, si, rfl, e, m, F.mono (by omega), hs⟩
theorem FnQ.call {X : Cx} {G : Gam} {B : Bs} {W : WX} {k : Nat} {b : Bool} {f : Value} {ks : List Str} {sd : SpD} {A : Around} {pins : List (Addr × Obj)} {s : Shared} {σ : L2.St} {H : Hp} {Q : VK} {xs : List V} {us ws : List Value} (F : FnQ X.prog X.w X.K X.mg X.base G k b f ks sd) (hr : Room k A) (hg : A.guards = some []) (hf : A.frames = some X.stack)
    (tk : Takes X W) (I : L2.Inv X pins σ H s) (r : Vals xs (us ++ ws)) (hl : ws.length = ks.length) (t : TEds X.K G B W (spT sd) xs σ H Q) : wpAny (model X.prog X.w) A (PySem.call f us (ks.zip ws)) (EP X pins σ Q) X.xe s := by
  cases b with
  | false => exact FnD.call F hr hg hf tk I r hl t
  | true =>
    obtain ⟨k, c, fi, si, rfl, rfl, M, F, hs⟩ := F
    obtain ⟨ρ, M0, J, K1, E1, ds, sr, r2, t, ok, er⟩ := t
    have np : H (s.heap.objs.size) = none := I.hok.fresh (Nat.le_refl _)
    have nq : H (s.heap.objs.size + 1) = none := I.hok.fresh (Nat.le_succ _)
    have nM := sr.good.freeM nq
    have I2 := Inv.made (C := G.cl c) I
    have g1 := sr.good.addH (o := .own (s.heap.objs.size + 1)) np
    have f1 := sr.good.addH_frm (o := .own (s.heap.objs.size + 1)) np
    have nq2 : upd H s.heap.objs.size (.own (s.heap.objs.size + 1)) (s.heap.objs.size + 1) = none := by rw [upd_ne (Nat.succ_ne_self s.heap.objs.size)]; exact nq
    have mr : MRep X.K G J (.inst c []) (.ins (G.cl c) s.heap.objs.size []) := ⟨_, [], rfl, by unfold RepF; rfl⟩
    have g2 := g1.addM (o := .ins (G.cl c) s.heap.objs.size []) nq2 mr
    have f2 := g1.addM_frm (o := .ins (G.cl c) s.heap.objs.size []) (mo := .inst c []) nq2
    have sr2 := (sr.step g1 f1).step g2 f2
    have hq := hs ds M0 K1 E1 t _ nM
    have hg2 : (A.under (.builtin "type.__call__" ⟨.ref (G.cl c) :: us, ks.zip ws⟩)).guards = some [] := by
      first | exact hg | (simpa [Around.under, Code.isGuard, guardIds] using hg)
    have e0 := I2.env0
    have e1 : Env0 X.prog X.w X.K X.mg X.base A X.stack _ _ := ⟨hf, e0.mod, e0.bs, e0.bsz, e0.funs, e0.frf, e0.hok, e0.bare⟩
    refine wpAny_call (make_map (f := fi) I.kIn M.makes M.init (beq_iff_eq.mp M.fn) (codeAny_mono (F.run _ X.stack _ _ (.ref (s.heap.objs.size + 1) :: us) ws (.ref (s.heap.objs.size + 1) :: xs) (.loc (s.heap.objs.size + 1) :: ds) _ J _ E1 (fun v H' => v = .non ∧ Q (.ref (s.heap.objs.size + 1)) H') (fun cls dx H' => W cls dx σ H')
      (hr.make (G.cl c) us (ks.zip ws)) hg2 (e1.make (G.cl c) us (ks.zip ws)) (.cons (rfl : RelV (.ref _) (.ref _)) r) hl g2 (.cons (by unfold Rep; rfl) r2) hq ?_ (fun c' fs M' cls dx H' I' h g fr q => er c' fs M' cls dx H' I' h (sr2.step g fr) q)) fun z s' hz => ?_))
    · rintro d M' v H' I' ⟨rfl, h⟩ g fr q
      unfold Rep at q
      refine ⟨q, ?_⟩
      rcases h with ⟨fs, hm, h⟩ | h
      · obtain ⟨o, ho, mr2, g3, f3⟩ := g.freeze hm
        have sr3 := (sr2.step g fr).step g3 f3
        obtain ⟨dx, vfs, rfl, hF⟩ := mr2
        exact ok _ _ _ _ _ h (fr.ext.trans f3.ext) sr3 (by
          unfold Rep
          exact ⟨_, dx, vfs, rfl, upd_same, hF.ext f3.ext⟩)
      · exact ok _ _ _ _ _ h fr.ext (sr2.step g fr) (by unfold Rep; rfl)
    · cases z with
      | error e => exact tk e s' (XE.of_call I2 (fun _ _ _ h => h) hz)
      | ok fl =>
        cases fl with
        | ret u =>
          obtain ⟨v, H', I3, rv, ev, q3⟩ := I2.after hz
          subst ev
          exact ⟨rv, ⟨V.ref (s.heap.objs.size + 1), H', I3, rfl, q3⟩⟩
        | next => exact False.elim hz
        | brk => exact False.elim hz
        | cont => exact False.elim hz

/-- what stands around a body's operations -/
structure Ctx (X : Cx) (G : Gam) (W : WX) (Γ : Nat → SpD) (kx : Nat) : Prop where
  gg : GG X.K X.mg G
  calls : ∀ i ds M K E, Γ i ds M K E → FnQ X.prog X.w X.K X.mg X.base G kx (G.isC i) (.ref (G.adr i)) (G.ks i) (Γ i)
  room : Room (kx + 6) X.A
  guards : X.A.guards = some []
  takes : Takes X W
  calm : X.calm = true
  own : PassesOwn (model X.prog X.w) X.A X.env X.xe
theorem Ctx.ops {X : Cx} {G : Gam} {W : WX} {Γ : Nat → SpD} {kx : Nat} (c : Ctx X G W Γ kx) : GOps X.K G := c.gg.ops

/-! ## ints -/
def Bd (n : Nat) (i : Int) : Prop := i.natAbs < 2 ^ n
def MulOk (i j : Int) : Prop := Bd 63 i ∨ Bd 63 j ∨ ∃ a b, Bd a i ∧ Bd b j ∧ 0 < a ∧ 0 < b ∧ a + b ≤ 1000000
def DivOk (j : Int) : Prop := j ≠ 0 ∧ Bd 8000 j
def PowOk (i j : Int) : Prop := 0 ≤ j ∧ j ≤ 1000000 ∧ Bd 64 i
def intBin (op : Operator) (i j : Int) (K : D → Prop) : Prop := match op with
  | .Add => K (.int (i + j))
  | .Sub => K (.int (i - j))
  | .Mult => MulOk i j ∧ K (.int (i * j))
  | .FloorDiv => DivOk j ∧ K (.int (i.fdiv j))
  | .Mod => j ≠ 0 ∧ K (.int (i.fmod j))
  | .Pow => PowOk i j ∧ K (.int (i ^ j.toNat))
  | _ => False
def sameOrSide (c : Nat) (b : D) (M : Mst) : Prop := match b with
  | .non | .bl _ | .int _ | .str _ => True
  | .lst _ | .tup _ => True
  | _ => instX b M fun c' _ => c' = c
section
variable (G : Gam) (Γ : Nat → SpD)
def ownD (k : Nat) (a : D) (bs : List D) : TD := fun _ M K E => instX a M fun c _ => match G.dn c k with
    | some i => G.ks i = [] ∧ Γ i (a :: bs) M K E
    | none => False
theorem ownD_at {k : Nat} {a : D} {bs : List D} {ρ : Slots} {M : Mst} {K : KD} {E : ED} {c : Nat} {fs : List (Nat × D)} (h : ownD G Γ k a bs ρ M K E) (hi : instD a M = some (c, fs)) : ∃ i, G.dn c k = some i ∧ G.ks i = [] ∧ Γ i (a :: bs) M K E := by
  obtain ⟨c', fs', hi', h⟩ := instX_ok h
  rw [hi] at hi'
  cases hi'
  split at h
  · rename_i i e; exact ⟨i, e, h⟩
  · exact h.elim
def ownL (k : Nat) (a b : D) : TD := fun ρ M K E => instX a M fun c _ => sameOrSide c b M ∧ k < 14 ∧ (G.dn c (k + 1)).isSome = true ∧ ownD G Γ k a [b] ρ M K E
def ownR (k : Nat) (a b : D) : TD := fun ρ M K E => instX b M fun c _ => k < 6 ∧ (G.dn c k).isSome = true ∧ ownD G Γ (k + 1) b [a] ρ M K E
def binD (op : Operator) (a b : D) : TD := fun ρ M K E => match a with
  | .int i => (match b with
    | .int j => intBin op i j fun d => K d M
    | .obj _ _ => ownR G Γ (opk op) a b ρ M K E
    | _ => False)
  | .str x => (match b with
    | .str y => op = .Add ∧ x.length + y.length ≤ 1000000 ∧ K (.str (x ++ y)) M
    | _ => False)
  | .lst xs => (match b with
    | .lst ys => op = .Add ∧ xs.length + ys.length ≤ 1000000 ∧ K (.lst (xs ++ ys)) M
    | _ => False)
  | .obj _ _ => ownL G Γ (opk op) a b ρ M K E
  | .loc _ => ownL G Γ (opk op) a b ρ M K E
  | _ => False
end
section
variable {X : Cx} {G : Gam} {B : Bs} {W : WX} {Γ : Nat → SpD} {kx : Nat}
theorem mulOk_ok {i j : Int} (h : MulOk i j) : PySem.IntMulOk i j := by
  rcases h with h | h | ⟨a, b, ha, hb, h0, h1, hl⟩
  · exact CMul.ok (.inl (by unfold Bd at h; omega))
  · exact CMul.ok (.inr (by unfold Bd at h; omega))
  · exact (wide_mul ha hb h0 h1 hl).ok
theorem int_ok {op : Operator} {i j : Int} {t u : Tok} {pins : List (Addr × Obj)} {s : Shared} {σ : L2.St} {H : Hp} {Q : VK} (I : L2.Inv X pins σ H s) (h : intBin op i j fun d => ∀ n, d = .int n → Q (.int n) H) :
    wpAny (model X.prog X.w) X.A (binaryOp op (.int i t) (.int j u)) (EP X pins σ Q) X.xe s := by
  cases op <;> unfold intBin at h <;> first | exact h.elim | skip
  · exact op_add pins s σ H (.int i) (.int j) _ _ Q I ⟨t, rfl⟩ ⟨u, rfl⟩ ⟨i, j, rfl, rfl, h _ rfl⟩
  · exact op_sub pins s σ H (.int i) (.int j) _ _ Q I ⟨t, rfl⟩ ⟨u, rfl⟩ ⟨i, j, rfl, rfl, h _ rfl⟩
  · exact PyProof.Rows.mul_int ⟨.int _, H, I.tok _, ⟨_, rfl⟩, h.2 _ rfl⟩ (mulOk_ok h.1)
  · exact PyProof.Rows.mod_int' h.1 ⟨.int _, H, I.tok _, ⟨_, rfl⟩, h.2 _ rfl⟩
  · exact op_pow pins s σ H (.int i) (.int j) _ _ Q I ⟨t, rfl⟩ ⟨u, rfl⟩ ⟨i, j, rfl, rfl, ⟨h.1.1, h.1.2.1, h.1.2.2⟩, h.2 _ rfl⟩
  · exact PyProof.Rows.floordiv_int h.1.1 ⟨.int _, H, I.tok _, ⟨_, rfl⟩, h.2 _ rfl⟩ (.inl (PyProof.noPylong_of_log2 (Nat.lt_of_lt_of_le (PySem.Flt.log2_lt_of (by decide) h.1.2) (by decide))))
/-- the end of a step that changes nothing -/
theorem fin_ok {σ : L2.St} {H : Hp} {Q : VK} {ρ : Slots} {M : Mst} {J : Hp} {K1 : KD} {d : D} {v : V} (sr : SR X.K G B σ H ρ M J) (ok : OkC X.K G B σ ρ J K1 Q) (r : Rep X.K G J d v) (h : K1 d M) : Q v H := ok d M v H J h (.refl J) sr r
theorem rep_int {K : PySem.W.Frag} {I : Hp} {i : Int} : Rep K G I (.int i) (.int i) := by unfold Rep; rfl
theorem rep_bl {K : PySem.W.Frag} {I : Hp} {b : Bool} : Rep K G I (.bl b) (.bl b) := by unfold Rep; rfl
theorem rep_str {K : PySem.W.Frag} {I : Hp} {x : Str} : Rep K G I (.str x) (.str x) := by unfold Rep; rfl
theorem rep_non {K : PySem.W.Frag} {I : Hp} : Rep K G I .non .non := by unfold Rep; rfl
theorem intBin_imp {op : Operator} {i j : Int} {P Q : D → Prop} (h : intBin op i j P) (k : ∀ n, P (.int n) → Q (.int n)) : intBin op i j Q := by
  cases op <;> unfold intBin at h ⊢ <;> first | exact h.elim | exact k _ h | exact ⟨h.1, k _ h.2⟩
/-- an instance as the model sees it -/
theorem inst_at {pins : List (Addr × Obj)} {s : Shared} {σ : L2.St} {H : Hp} {a C dx : Addr} {fs : List (Str × V)} (I : L2.Inv X pins σ H s) (h : H a = some (.ins C dx fs)) : ∃ od, PySem.W.InstAt s.heap a (PySem.W.instObj C dx) C (some od) := by
  obtain ⟨mA, O, _⟩ := ins_get I.hok h
  obtain ⟨od, J, _⟩ := O.look
  exact ⟨od, J⟩
/-- an own callable found on a class runs -/
theorem own_run (c : Ctx X G W Γ kx) {A : Around} {pins : List (Addr × Obj)} {s : Shared} {σ : L2.St} {H : Hp} {Q : VK} {ρ : Slots} {M : Mst} {J : Hp} {K1 : KD} {E1 : ED} {i : Nat} {ds : List D} {xs : List V} {us : List Value}
    (hr : Room kx A) (hg : A.guards = some []) (hf : A.frames = some X.stack) (I : L2.Inv X pins σ H s) (sr : SR X.K G B σ H ρ M J) (rs : Reps X.K G J ds xs) (rv : Vals xs us) (hk : G.ks i = []) (h : Γ i ds M K1 E1) (ok : OkC X.K G B σ ρ J K1 Q) (er : ErC X.K G B W σ ρ E1) :
    wpAny (model X.prog X.w) A (PySem.call (.ref (G.adr i)) us) (EP X pins σ Q) X.xe s := by
  have F := c.calls i _ _ _ _ h
  have := F.call (us := us) (ws := []) hr hg hf c.takes I (by rw [List.append_nil]; exact rv) (by rw [hk]; rfl) (⟨ρ, M, J, K1, E1, ds, sr, rs, h, ok, er⟩ : TEds X.K G B W (spT (Γ i)) xs σ H Q)
  simpa using this
/-- the model's type of a datum -/
theorem cmpback {P : Value → Shared → Prop} {z : V} {v : Value} {s' : Shared} (r : RelV z v) (h : P v s') : PySem.W.CmpBack P v s' := by
  cases z <;> first
    | (obtain rfl : v = _ := r; exact h)
    | (obtain ⟨t, rfl⟩ := r; exact h)
theorem ep_back {pins : List (Addr × Obj)} {σ : L2.St} {Q : VK} {v : Value} {s' : Shared} (h : EP X pins σ Q v s') : PySem.W.CmpBack (EP X pins σ Q) v s' := by
  obtain ⟨z, H', I', r, q⟩ := h
  exact cmpback r ⟨z, H', I', r, q⟩
theorem dunder_nm (o : GOps X.K G) {op : Operator} (h : opk op < 14) : G.nm (opk op) = PySem.dunder op.info.2 ∧ G.nm (opk op + 1) = PySem.dunderR op.info.2 := by
  have h1 := o.dund (opk op) (Nat.lt_of_lt_of_le h (by decide))
  have h2 := o.dund (opk op + 1) (Nat.lt_of_le_of_lt h (by decide))
  rw [h1, h2]
  cases op <;> first | exact ⟨rfl, rfl⟩ | (exfalso; revert h; decide)
theorem side_bin (c : Ctx X G W Γ kx) {T : String} {cc i j : Nat} {op : Operator} {a : Addr} {pins : List (Addr × Obj)} {s : Shared} {σ : L2.St} {H : Hp} {dx : Addr} {vfs : List (Str × V)} {Q : Value → Shared → Prop} {u : Value} (I : L2.Inv X pins σ H s) (ha : H a = some (.ins (G.cl cc) dx vfs))
    (hT : T ∈ sideTs) (hu : PySem.W.Looks (model X.prog X.w) s.heap (typeOf u) (.type T)) (hk : opk op < 14) (h1 : G.dn cc (opk op) = some i) (h2 : G.dn cc (opk op + 1) = some j)
    (h : wpAny (model X.prog X.w) X.A (PySem.call (.ref (G.adr i)) [.ref a, u]) (PySem.W.CmpBack Q) X.xe s) : wpAny (model X.prog X.w) X.A (binaryOp op (.ref a) u) Q X.xe s := by
  obtain ⟨e1, e2⟩ := dunder_nm c.ops hk
  obtain ⟨_, m1, sf⟩ := c.ops.ok.dn _ _ _ h1
  obtain ⟨_, m2, _⟩ := c.ops.ok.dn _ _ _ h2
  obtain ⟨od, J⟩ := inst_at I ha
  obtain ⟨mf, F⟩ := I.fr
  have s1 := c.ops.side _ _ _ h1 hk T hT
  have s2 : (PySem.W.findIn X.K (.type T) (G.nm (opk op + 1))).isSome = true := c.ops.side _ _ _ h2 (by
    cases op <;> first | decide | (exfalso; revert hk; decide)) T hT
  obtain ⟨fo, s1⟩ := Option.isSome_iff_exists.mp s1
  obtain ⟨ro, s2⟩ := Option.isSome_iff_exists.mp s2
  rw [e1] at s1
  rw [e2] at s2
  obtain ⟨m11, m12, m13⟩ := m1
  obtain ⟨m21, m22, m23⟩ := m2
  rw [e1] at m11
  rw [e2] at m21
  exact own_side F I.mod.kin J hu sf m11 m12 m21 (.inr ⟨_, rfl⟩) s1 s2 (c.ops.sub _ _ _ h1 (by omega) T hT) h
theorem looks_ty {M : Model} {h : Heap} {a : Addr} {o : Obj} (ho : h.get? a = some o) : PySem.W.Looks M h (typeOf (.ref a)) o.cls := (PySem.W.Looks.ld (part := none) ho).andThen .now
theorem op2_ownL (c : Ctx X G W Γ kx) (op : Operator) : Op2 X G B W (binaryOp op) (ownL G Γ (opk op)) := by
  rintro pins s σ H Q x y v u I rx ry ⟨ρ, M, J, K1, E1, d, e, sr, r1, r2, t, ok, er⟩
  unfold ownL at t
  obtain ⟨cc, fs, hi, hs, hk, h2, t⟩ := instX_ok t
  obtain ⟨i, h1, hks, t⟩ := ownD_at _ _ t hi
  · skip
    · skip
      obtain ⟨j, h2⟩ := Option.isSome_iff_exists.mp h2
      obtain ⟨a, dx, vfs, rfl, ha, _⟩ := instD_ok sr.good r1 hi
      obtain rfl : v = Value.ref a := rx
      have run : wpAny (model X.prog X.w) X.A (PySem.call (.ref (G.adr i)) [.ref a, u]) (PySem.W.CmpBack (EP X pins σ Q)) X.xe s :=
        thn (own_run c (c.room.mono (by omega)) c.guards I.ok.frames I sr (.cons r1 (.cons r2 .nil)) (.cons rfl (.cons ry .nil)) hks t ok er) fun _ _ h => ep_back h
      unfold sameOrSide at hs
      split at hs
      · unfold Rep at r2; subst r2
        obtain rfl : u = Value.none := ry
        exact side_bin c I ha (T := "NoneType") (by decide) (PySem.W.Looks.of_pure rfl) hk h1 h2 run
      · unfold Rep at r2; subst r2
        obtain rfl : u = Value.bool _ := ry
        exact side_bin c I ha (T := "bool") (by decide) (PySem.W.Looks.of_pure rfl) hk h1 h2 run
      · unfold Rep at r2; subst r2
        obtain ⟨tk, rfl⟩ := ry
        exact side_bin c I ha (T := "int") (by decide) (PySem.W.Looks.of_pure rfl) hk h1 h2 run
      · unfold Rep at r2; subst r2
        obtain ⟨tk, rfl⟩ := ry
        exact side_bin c I ha (T := "str") (by decide) (PySem.W.Looks.of_pure rfl) hk h1 h2 run
      · unfold Rep at r2
        obtain ⟨b, vs, rfl, hb, _⟩ := r2
        obtain rfl : u = Value.ref b := ry
        obtain ⟨its, _, ⟨o, n, ho, hc, _⟩, _⟩ := I.list (sr.good.sub.sql hb)
        exact side_bin c I ha (T := "list") (by decide) (by rw [← hc]; exact looks_ty ho) hk h1 h2 run
      · unfold Rep at r2
        obtain ⟨b, vs, rfl, hb, _⟩ := r2
        obtain rfl : u = Value.ref b := ry
        obtain ⟨its, _, ⟨o, ho, hc, _⟩, _⟩ := I.tuple (sr.good.sub.sqt hb)
        exact side_bin c I ha (T := "tuple") (by decide) (by rw [← hc]; exact looks_ty ho) hk h1 h2 run
      · obtain ⟨c', fs', hj, hs⟩ := instX_ok hs
        · skip
          subst hs
          obtain ⟨b, dy, vgs, rfl, hb, _⟩ := instD_ok sr.good r2 hj
          obtain rfl : u = Value.ref b := ry
          obtain ⟨e1, e2⟩ := dunder_nm c.ops hk
          obtain ⟨_, ⟨m11, m12, m13⟩, sf⟩ := c.ops.ok.dn _ _ _ h1
          obtain ⟨od, J1⟩ := inst_at I ha
          obtain ⟨od2, J2⟩ := inst_at I hb
          obtain ⟨mf, F⟩ := I.fr
          rw [e1] at m11
          exact own_same F I.mod.kin J1 J2 sf m11 m12 run
end
end PyD
set_option Elab.async false
set_option linter.all false
set_option autoImplicit false
set_option maxRecDepth 100000
set_option maxHeartbeats 4000000
/-! # Operators over trees: reflected, joined, all together -/
namespace PyD
open PySem PySem.Spec L2

theorem cat_lists (l b : Addr) (xs ys : Array Value) (n m : Nat) (sx sy : Array (Option Value)) (hz : xs.size + ys.size ≤ sizeLine) :
    Meets (Builtin.«list.__add__» ⟨[.ref l, .ref b], []⟩) (fun _ R s => s.heap.get? l = some ⟨.type "list", none, .seq xs n, sx⟩ ∧ s.heap.get? b = some ⟨.type "list", none, .seq ys m, sy⟩ ∧ R (.ok (.ret (Value.ref s.heap.objs.size))) { s with heap := s.heap.push { cls := Value.type "list", data := Data.seq (xs ++ ys) }, toks := s.toks }) :=
  .of_wp fun prog w A R s h => by
    obtain ⟨hp, g, d, tk, os⟩ := s
    obtain ⟨h1, h2, h⟩ := h
    have f1 := PySem.AutoSeq1.idx_int; have f2 := PySem.AutoSeq1.sub_tuple_tuple; have f3 := PySem.AutoSeq1.sub_list_list; have f4 := PySem.AutoSeq1.sub_tuple_list; have f5 := PySem.AutoSeq1.sub_list_tuple
    wp_walk using wpAny_loadPart' h1, wpAny_loadPart' h2
    exact ⟨_, rfl, h⟩
section
variable {X : Cx} {G : Gam} {B : Bs} {W : WX} {Γ : Nat → SpD} {kx : Nat}
theorem op2_cat : Op2 X G B W (binaryOp .Add) (fun a b _ M K _ => match a, b with
    | .lst xs, .lst ys => xs.length + ys.length ≤ 1000000 ∧ K (.lst (xs ++ ys)) M
    | _, _ => False) := by
  rintro pins s σ H Q x y v u I rx ry ⟨ρ, M, J, K1, E1, d, e, sr, r1, r2, t, ok, er⟩
  split at t
  · rename_i xs ys
    unfold Rep at r1 r2
    obtain ⟨a, vs, rfl, ha, h1⟩ := r1
    obtain ⟨b, ws, rfl, hb, h2⟩ := r2
    obtain rfl : v = Value.ref a := rx
    obtain rfl : u = Value.ref b := ry
    obtain ⟨is1, q1, ⟨o1, n1, e1, c1, d1, t1⟩, z1⟩ := I.list (sr.good.sub.sql ha)
    obtain ⟨is2, q2, ⟨o2, n2, e2, c2, d2, t2⟩, z2⟩ := I.list (sr.good.sub.sql hb)
    obtain ⟨oc1, od1, dd1, sl1⟩ := o1
    obtain ⟨oc2, od2, dd2, sl2⟩ := o2
    dsimp only at c1 d1 t1 c2 d2 t2
    subst c1 d1 t1 c2 d2 t2
    have hl1 := q1.length
    have hl2 := q2.length
    have hz : is1.toArray.size + is2.toArray.size ≤ sizeLine := by
      rw [List.size_toArray, List.size_toArray, ← hl1, ← hl2, h1.length, h2.length]
      exact line_le t.1
    refine concat_meets ⟨_, e1, rfl⟩ ⟨_, e2, rfl⟩ noFill_list_add seq_list_add F.slot_list_add F.entry_list_add (F.args_list_add_2 _ _) (cat_lists a b _ _ n1 n2 sl1 sl2 hz) ⟨e1, e2, ?_⟩
    have ea : is1.toArray ++ is2.toArray = (is1 ++ is2).toArray := by simp
    rw [ea]
    have np : H s.heap.objs.size = none := I.fresh
    refine ⟨.ref _, _, I.lnew (t' := s.toks) (q1.append q2) (by rw [List.length_append, h1.length, h2.length]; exact line_le t.1), rfl, ?_⟩
    exact ok _ _ _ _ _ t.2 (sr.good.addI_frm np).ext (sr.step (sr.good.addI np (.inl ⟨_, rfl⟩)) (sr.good.addI_frm np)) (by
      unfold Rep
      exact ⟨_, _, rfl, .of upd_same, (h1.append h2).ext (sr.good.addI_frm (o := .lst (vs ++ ws)) np).ext⟩)
  · exact t.elim
/-- an int, then an own instance -/
theorem refl_one (c : Ctx X G W Γ kx) {op : Operator} {cc i j : Nat} {idl : String} {a : Addr} {n : Int} {tk : Tok} {pins : List (Addr × Obj)} {s : Shared} {σ : L2.St} {H : Hp} {dx : Addr} {vfs : List (Str × V)} {Q : Value → Shared → Prop} (I : L2.Inv X pins σ H s) (ha : H a = some (.ins (G.cl cc) dx vfs))
    (hk : opk op < 6) (h1 : G.dn cc (opk op) = some i) (h2 : G.dn cc (opk op + 1) = some j) (hf : fillsNumberSlot (.type "int") op.info.2 = pure true) (sl : Slot "int" (PySem.dunder op.info.2) idl)
    (hdec : ∀ (oc : Value) (od : Option Addr) (ss : Array (Option Value)) (Q' : Value → Shared → Prop), s.heap.get? a = some ⟨oc, od, .plain, ss⟩ → Q' .notImplemented s → wpAny (model X.prog X.w) X.A (PySem.call (.builtin idl) [.int n tk, .ref a]) Q' X.xe s)
    (h : wpAny (model X.prog X.w) X.A (PySem.call (.ref (G.adr j)) [.ref a, .int n tk]) (PySem.W.CmpBack Q) X.xe s) : wpAny (model X.prog X.w) X.A (binaryOp op (.int n tk) (.ref a)) Q X.xe s := by
  obtain ⟨e1, e2⟩ := dunder_nm c.ops (Nat.lt_of_lt_of_le hk (by decide))
  obtain ⟨_, ⟨m11, m12, m13⟩, sf⟩ := c.ops.ok.dn _ _ _ h1
  obtain ⟨_, ⟨m21, m22, m23⟩, _⟩ := c.ops.ok.dn _ _ _ h2
  obtain ⟨od, J⟩ := inst_at I ha
  obtain ⟨mf, F⟩ := I.fr
  rw [e1] at m11
  rw [e2] at m21
  exact own_refl F I.mod.kin J sf m21 m22 m11 hf (c.ops.subI _ _ _ h1 (by omega)) sl (fun Q' q => hdec _ _ _ Q' J.at_ q) h
theorem own_of (c : Ctx X G W Γ kx) {k : Nat} {a b : D} {xa xb : V} {ua ub : Value} {cc : Nat} {fs : List (Nat × D)} {pins : List (Addr × Obj)} {s : Shared} {σ : L2.St} {H : Hp} {Q : VK} {ρ : Slots} {M : Mst} {J : Hp} {K1 : KD} {E1 : ED}
    (I : L2.Inv X pins σ H s) (sr : SR X.K G B σ H ρ M J) (r1 : Rep X.K G J a xa) (r2 : Rep X.K G J b xb) (v1 : RelV xa ua) (v2 : RelV xb ub) (hi : instD a M = some (cc, fs)) (t : ownD G Γ k a [b] ρ M K1 E1) (ok : OkC X.K G B σ ρ J K1 Q) (er : ErC X.K G B W σ ρ E1) :
    ∃ i, G.dn cc k = some i ∧ wpAny (model X.prog X.w) X.A (PySem.call (.ref (G.adr i)) [ua, ub]) (PySem.W.CmpBack (EP X pins σ Q)) X.xe s := by
  obtain ⟨i, h1, hks, t⟩ := ownD_at _ _ t hi
  exact ⟨i, h1, thn (own_run c (c.room.mono (by omega)) c.guards I.ok.frames I sr (.cons r1 (.cons r2 .nil)) (.cons v1 (.cons v2 .nil)) hks t ok er) fun _ _ h => ep_back h⟩
theorem op2_bin (c : Ctx X G W Γ kx) (op : Operator) : Op2 X G B W (binaryOp op) (binD G Γ op) := by
  rintro pins s σ H Q x y v u I rx ry ⟨ρ, M, J, K1, E1, d, e, sr, r1, r2, t, ok, er⟩
  unfold binD at t
  split at t
  · rename_i i
    unfold Rep at r1
    subst r1
    obtain ⟨tk, rfl⟩ := rx
    split at t
    · rename_i j
      unfold Rep at r2
      subst r2
      obtain ⟨tk2, rfl⟩ := ry
      exact int_ok I (intBin_imp t fun n h m e => by cases e; exact fin_ok sr ok rep_int h)
    · rename_i cc fs
      unfold ownR at t
      obtain ⟨hk, h1, t⟩ := t
      obtain ⟨i0, h1⟩ := Option.isSome_iff_exists.mp h1
      have r2' := r2
      unfold Rep at r2'
      obtain ⟨a, dx, vfs, rfl, ha, _⟩ := r2'
      have hA := sr.good.sub.ins ha
      obtain rfl : u = Value.ref a := ry
      obtain ⟨j, h2, run⟩ := own_of c I sr r2 rep_int rfl ⟨tk, rfl⟩ (rfl : instD (.obj cc fs) M = some (cc, fs)) t ok er
      cases op <;> first | exact absurd hk (by decide) | skip
      · exact refl_one c I hA hk h1 h2 F.fills_int_add F.slot_int_add (fun _ _ _ Q' g q => call_meets F.slot_int_add (typeIs_int s i tk) F.entry_int_add (F.args_int_add_2 _ _) (declines_add i tk) ⟨g, q⟩) run
      · exact refl_one c I hA hk h1 h2 F.fills_int_sub F.slot_int_sub (fun _ _ _ Q' g q => call_meets F.slot_int_sub (typeIs_int s i tk) F.entry_int_sub (F.args_int_sub_2 _ _) (declines_sub i tk) ⟨g, q⟩) run
      · exact refl_one c I hA hk h1 h2 F.fills_int_mul F.slot_int_mul (fun _ _ _ Q' g q => call_meets F.slot_int_mul (typeIs_int s i tk) F.entry_int_mul (F.args_int_mul_2 _ _) (declines_mul i tk) ⟨g, q⟩) run
    · exact t.elim
  · rename_i p
    split at t
    · rename_i q
      obtain ⟨rfl, hz, t⟩ := t
      unfold Rep at r1 r2
      subst r1 r2
      exact op_add_str pins s σ H _ _ _ _ Q I rx ry ⟨p, q, rfl, rfl, line_le hz, fin_ok sr ok rep_str t⟩
    · exact t.elim
  · rename_i p
    split at t
    · rename_i q
      obtain ⟨rfl, hz, t⟩ := t
      exact op2_cat pins s σ H Q x y v u I rx ry ⟨ρ, M, J, K1, E1, _, _, sr, r1, r2, ⟨hz, t⟩, ok, er⟩
    · exact t.elim
  · exact op2_ownL c op pins s σ H Q x y v u I rx ry ⟨ρ, M, J, K1, E1, _, _, sr, r1, r2, t, ok, er⟩
  · exact op2_ownL c op pins s σ H Q x y v u I rx ry ⟨ρ, M, J, K1, E1, _, _, sr, r1, r2, t, ok, er⟩
  · exact t.elim
end
end PyD
set_option Elab.async false
set_option linter.all false
set_option autoImplicit false
set_option maxRecDepth 100000
set_option maxHeartbeats 4000000
/-! # Equality over trees -/
namespace PyD
open PySem PySem.Spec L2

/-! ## the two loops, with both answers -/
section
open PySem.AutoSeq1 (wpAny_loadPart')
open PySem.MeetsSeq PySem.MeetsSeq2 PySem.MeetsSeq3 PySem.SeqRoads2
variable {prog : Program} {w : World} {A : Around} {R : Result → Shared → Prop}
def LstAt (h : Heap) (l : Addr) (N : Nat) (xs : Array Value) : Prop := ∃ n ss, h.get? l = some ⟨.type "list", none, .seq xs n, ss⟩ ∧ xs.size = N
/-- at each turn both lists are read anew -/
def TurnL (prog : Program) (w : World) (A : Around) (E : Value → Shared → Prop) (l b : Addr) (N : Nat) (I : Nat → Shared → Prop) (J : Shared → Prop) : Prop :=
  (∀ i s, I i s → ∃ xs ys, LstAt s.heap l N xs ∧ LstAt s.heap b N ys ∧ ∀ (h1 : i < xs.size) (h2 : i < ys.size), wpAny (model prog w) A.in1 (eqBool xs[i] ys[i]) (fun r s' => match r with
    | true => I (i + 1) s'
    | false => J s') E s) ∧ ∀ s, J s → ∃ xs ys, LstAt s.heap l N xs ∧ LstAt s.heap b N ys
theorem loop_eq (l b : Addr) (N : Nat) (I : Nat → Shared → Prop) (J : Shared → Prop) (hl : TurnL prog w A (fun e s' => R (.error e) s') l b N I J)
    (fin : ∀ s, I N s → R (.ok (.ret (.bool true))) s) (finF : ∀ s, J s → R (.ok (.ret (.bool false))) s) (k : Nat) :
    ∀ i : Nat, N - i = k → i ≤ N → ∀ s, I i s →
      wpAny (model prog w) A.in1 (Builtin.«list.__eq__.loop» ⟨[.ref l, .ref b, rawInt i, rawInt 2], []⟩) (GQ.FinOf prog w A R) (fun e s' => R (.error e) s') s := by
  induction k with
  | zero =>
    intro i hk hi s h
    obtain ⟨xs, ys, ⟨n1, s1, e1, z1⟩, ⟨n2, s2, e2, z2⟩, _⟩ := hl.1 _ _ h
    have hi' : i = N := by omega
    have hR : R (.ok (.ret (.bool true))) s := fin s (hi' ▸ h)
    obtain ⟨hp, g, d, tk, os⟩ := s
    wp_walk using wpAny_loadPart' e1, wpAny_loadPart' e2
    have q1 : xs[((i : Nat) : Int).toNat]? = none := by simp; omega
    have q2 : ys[((i : Nat) : Int).toNat]? = none := by simp; omega
    rw [q1, q2]
    wp_walk using wpAny_loadPart' e1, wpAny_loadPart' e2
    show R (.ok (.ret (.bool (xs.size == ys.size)))) _
    rw [z1, z2]
    simpa using hR
  | succ k ih =>
    intro i hk hi s h
    obtain ⟨xs, ys, ⟨n1, s1, e1, z1⟩, ⟨n2, s2, e2, z2⟩, turn⟩ := hl.1 _ _ h
    have c1 : i < xs.size := by omega
    have c2 : i < ys.size := by omega
    have ht := turn c1 c2
    obtain ⟨hp, g, d, tk, os⟩ := s
    wp_walk using wpAny_loadPart' e1, wpAny_loadPart' e2
    have q1 : xs[((i : Nat) : Int).toNat]? = some xs[i] := by simp [c1]
    have q2 : ys[((i : Nat) : Int).toNat]? = some ys[i] := by simp [c2]
    have hc : ((i : Int) + 1) = ((i + 1 : Nat) : Int) := by omega
    rw [q1, q2]
    refine wpAny_bind (wpAny_mono ht (fun r s2 h2 => ?_) fun _ _ x => x)
    cases r with
    | true =>
      have hrec := ih (i + 1) (by omega) (by omega) s2 h2
      obtain ⟨hp2, g2, d2, tk2, os2⟩ := s2
      wp_walk
      rw [hc]
      exact ⟨plainId_quiet plain_eq_loop _, codeAny_builtin entry_eq_loop (by
        rw [Around.under_plainId plain_eq_loop _]
        exact hrec)⟩
    | false =>
      have hF := finF s2 h2
      obtain ⟨us, vs, ⟨m1, t1, f1, y1⟩, ⟨m2, t2, f2, y2⟩⟩ := hl.2 _ h2
      obtain ⟨hp2, g2, d2, tk2, os2⟩ := s2
      have c3 : i < us.size := by omega
      have c4 : i < vs.size := by omega
      have q3 : us[((i : Nat) : Int).toNat]? = some us[i] := by simp [c3]
      have q4 : vs[((i : Nat) : Int).toNat]? = some vs[i] := by simp [c4]
      wp_walk using wpAny_loadPart' f1, wpAny_loadPart' f2
      rw [q3, q4]
      wp_walk
      exact hF
theorem loop_ne (l b : Addr) (N : Nat) (I : Nat → Shared → Prop) (J : Shared → Prop) (hl : TurnL prog w A (fun e s' => R (.error e) s') l b N I J)
    (fin : ∀ s, I N s → R (.ok (.ret (.bool false))) s) (finF : ∀ s, J s → R (.ok (.ret (.bool true))) s) (k : Nat) :
    ∀ i : Nat, N - i = k → i ≤ N → ∀ s, I i s →
      wpAny (model prog w) A.in1 (Builtin.«list.__eq__.loop» ⟨[.ref l, .ref b, rawInt i, rawInt 3], []⟩) (GQ.FinOf prog w A R) (fun e s' => R (.error e) s') s := by
  induction k with
  | zero =>
    intro i hk hi s h
    obtain ⟨xs, ys, ⟨n1, s1, e1, z1⟩, ⟨n2, s2, e2, z2⟩, _⟩ := hl.1 _ _ h
    have hi' : i = N := by omega
    have hR : R (.ok (.ret (.bool false))) s := fin s (hi' ▸ h)
    obtain ⟨hp, g, d, tk, os⟩ := s
    wp_walk using wpAny_loadPart' e1, wpAny_loadPart' e2
    have q1 : xs[((i : Nat) : Int).toNat]? = none := by simp; omega
    have q2 : ys[((i : Nat) : Int).toNat]? = none := by simp; omega
    rw [q1, q2]
    wp_walk using wpAny_loadPart' e1, wpAny_loadPart' e2
    show R (.ok (.ret (.bool (xs.size != ys.size)))) _
    rw [z1, z2]
    simpa using hR
  | succ k ih =>
    intro i hk hi s h
    obtain ⟨xs, ys, ⟨n1, s1, e1, z1⟩, ⟨n2, s2, e2, z2⟩, turn⟩ := hl.1 _ _ h
    have c1 : i < xs.size := by omega
    have c2 : i < ys.size := by omega
    have ht := turn c1 c2
    obtain ⟨hp, g, d, tk, os⟩ := s
    wp_walk using wpAny_loadPart' e1, wpAny_loadPart' e2
    have q1 : xs[((i : Nat) : Int).toNat]? = some xs[i] := by simp [c1]
    have q2 : ys[((i : Nat) : Int).toNat]? = some ys[i] := by simp [c2]
    have hc : ((i : Int) + 1) = ((i + 1 : Nat) : Int) := by omega
    rw [q1, q2]
    refine wpAny_bind (wpAny_mono ht (fun r s2 h2 => ?_) fun _ _ x => x)
    cases r with
    | true =>
      have hrec := ih (i + 1) (by omega) (by omega) s2 h2
      obtain ⟨hp2, g2, d2, tk2, os2⟩ := s2
      wp_walk
      rw [hc]
      exact ⟨plainId_quiet plain_eq_loop _, codeAny_builtin entry_eq_loop (by
        rw [Around.under_plainId plain_eq_loop _]
        exact hrec)⟩
    | false =>
      have hF := finF s2 h2
      obtain ⟨us, vs, ⟨m1, t1, f1, y1⟩, ⟨m2, t2, f2, y2⟩⟩ := hl.2 _ h2
      obtain ⟨hp2, g2, d2, tk2, os2⟩ := s2
      have c3 : i < us.size := by omega
      have c4 : i < vs.size := by omega
      have q3 : us[((i : Nat) : Int).toNat]? = some us[i] := by simp [c3]
      have q4 : vs[((i : Nat) : Int).toNat]? = some vs[i] := by simp [c4]
      wp_walk using wpAny_loadPart' f1, wpAny_loadPart' f2
      rw [q3, q4]
      wp_walk
      exact hF
/-- of different lengths -/
theorem lens_eq {l b : Addr} {N N' : Nat} {xs ys : Array Value} {s : Shared} (h1 : LstAt s.heap l N xs) (h2 : LstAt s.heap b N' ys) (ne : N ≠ N') (hF : R (.ok (.ret (.bool false))) s) :
    wpAny (model prog w) A.in1 (Builtin.«list.__eq__» ⟨[.ref l, .ref b], []⟩) (GQ.FinOf prog w A R) (fun e s' => R (.error e) s') s := by
  obtain ⟨n1, s1, e1, z1⟩ := h1
  obtain ⟨n2, s2, e2, z2⟩ := h2
  obtain ⟨hp, g, d, tk, os⟩ := s
  have f3 := AutoSeq1.sub_list_list
  have hne : (xs.size != ys.size) = true := by rw [z1, z2]; simpa using ne
  wp_walk using wpAny_loadPart' e1, wpAny_loadPart' e2
  exact hF
theorem lens_ne {l b : Addr} {N N' : Nat} {xs ys : Array Value} {s : Shared} (h1 : LstAt s.heap l N xs) (h2 : LstAt s.heap b N' ys) (ne : N ≠ N') (hF : R (.ok (.ret (.bool true))) s) :
    wpAny (model prog w) A.in1 (Builtin.«list.__ne__» ⟨[.ref l, .ref b], []⟩) (GQ.FinOf prog w A R) (fun e s' => R (.error e) s') s := by
  obtain ⟨n1, s1, e1, z1⟩ := h1
  obtain ⟨n2, s2, e2, z2⟩ := h2
  obtain ⟨hp, g, d, tk, os⟩ := s
  have f3 := AutoSeq1.sub_list_list
  have hne : (xs.size != ys.size) = true := by rw [z1, z2]; simpa using ne
  wp_walk using wpAny_loadPart' e1, wpAny_loadPart' e2
  exact hF
theorem body_eq (l b : Addr) (N : Nat) (I : Nat → Shared → Prop) (J : Shared → Prop) (hl : TurnL prog w A (fun e s' => R (.error e) s') l b N I J)
    (fin : ∀ s, I N s → R (.ok (.ret (.bool true))) s) (finF : ∀ s, J s → R (.ok (.ret (.bool false))) s) {s : Shared} (h : I 0 s) :
    wpAny (model prog w) A.in1 (Builtin.«list.__eq__» ⟨[.ref l, .ref b], []⟩) (GQ.FinOf prog w A R) (fun e s' => R (.error e) s') s := by
  obtain ⟨xs, ys, ⟨n1, s1, e1, z1⟩, ⟨n2, s2, e2, z2⟩, _⟩ := hl.1 _ _ h
  have hrec := loop_eq (A := A) (R := R) l b N I J hl fin finF _ 0 rfl (Nat.zero_le _) s h
  obtain ⟨hp, g, d, tk, os⟩ := s
  have f3 := AutoSeq1.sub_list_list
  have hne : ¬ (xs.size != ys.size) = true := by simp [z1, z2]
  wp_walk using wpAny_loadPart' e1, wpAny_loadPart' e2
  exact ⟨plainId_quiet plain_eq_loop _, codeAny_builtin entry_eq_loop (by
    rw [Around.under_plainId plain_eq_loop _]
    exact hrec)⟩
theorem body_ne (l b : Addr) (N : Nat) (I : Nat → Shared → Prop) (J : Shared → Prop) (hl : TurnL prog w A (fun e s' => R (.error e) s') l b N I J)
    (fin : ∀ s, I N s → R (.ok (.ret (.bool false))) s) (finF : ∀ s, J s → R (.ok (.ret (.bool true))) s) {s : Shared} (h : I 0 s) :
    wpAny (model prog w) A.in1 (Builtin.«list.__ne__» ⟨[.ref l, .ref b], []⟩) (GQ.FinOf prog w A R) (fun e s' => R (.error e) s') s := by
  obtain ⟨xs, ys, ⟨n1, s1, e1, z1⟩, ⟨n2, s2, e2, z2⟩, _⟩ := hl.1 _ _ h
  have hrec := loop_ne (A := A) (R := R) l b N I J hl fin finF _ 0 rfl (Nat.zero_le _) s h
  obtain ⟨hp, g, d, tk, os⟩ := s
  have f3 := AutoSeq1.sub_list_list
  have hne : ¬ (xs.size != ys.size) = true := by simp [z1, z2]
  wp_walk using wpAny_loadPart' e1, wpAny_loadPart' e2
  exact ⟨plainId_quiet plain_eq_loop _, codeAny_builtin entry_eq_loop (by
    rw [Around.under_plainId plain_eq_loop _]
    exact hrec)⟩
end
end PyD
set_option Elab.async false
set_option linter.all false
set_option autoImplicit false
set_option maxRecDepth 100000
set_option maxHeartbeats 4000000
namespace PyD
open PySem PySem.Spec L2
section
open PySem.AutoSeq1 (wpAny_loadPart')
open PySem.MeetsSeq PySem.MeetsSeq2 PySem.MeetsSeq3 PySem.SeqRoads2
variable {prog : Program} {w : World} {A : Around} {R : Result → Shared → Prop}
theorem tup_eq (l b : Addr) (xs ys : Array Value) (n n2 : Nat) (dd dd2 : Option Addr) (sl sl2 : Array (Option Value)) (hsz : xs.size = ys.size) (I : Nat → Shared → Prop) (J : Shared → Prop)
    (turn : ∀ i (h1 : i < xs.size) (h2 : i < ys.size) s, I i s → wpAny (model prog w) A.in1 (eqBool xs[i] ys[i]) (fun r s' => match r with
      | true => I (i + 1) s'
      | false => J s') (fun e s' => R (.error e) s') s)
    (fin : ∀ s, I xs.size s → R (.ok (.ret (.bool true))) s) (finF : ∀ s, J s → R (.ok (.ret (.bool false))) s) {s : Shared} (e1 : s.heap.get? l = some { cls := .type "tuple", dict := dd, data := .seq xs n, slots := sl }) (e2 : s.heap.get? b = some { cls := .type "tuple", dict := dd2, data := .seq ys n2, slots := sl2 }) (h : I 0 s) :
    wpAny (model prog w) A.in1 (Builtin.«tuple.__eq__» ⟨[.ref l, .ref b], []⟩) (GQ.FinOf prog w A R) (fun e s' => R (.error e) s') s := by
  have f2 := AutoSeq1.sub_tuple_tuple
  have hZ : (xs.toList.zip ys.toList).length = xs.size := by simp [hsz]
  have h0 := h
  obtain ⟨hp, g, d, tk, os⟩ := s
  wp_walk using wpAny_loadPart' e1, wpAny_loadPart' e2, wpAny_forIn_list _ (fun rest b s' => b.1 = none ∧ ∃ i, rest = (xs.toList.zip ys.toList).drop i ∧ i ≤ xs.size ∧ I i s') _
  case turn =>
    rintro ⟨y, x⟩ rest b s' ⟨hb', i, hz, hi, hI⟩
    have hlt : i < (xs.toList.zip ys.toList).length := by
      rcases Nat.lt_or_ge i (xs.toList.zip ys.toList).length with h' | h'
      · exact h'
      · rw [List.drop_of_length_le h'] at hz; cases hz
    have h1 : i < xs.size := hZ ▸ hlt
    have h2 : i < ys.size := hsz ▸ h1
    rw [List.drop_eq_getElem_cons hlt] at hz
    injection hz with hyx hrest
    have hy : y = xs[i] := by have := congrArg Prod.fst hyx; simpa using this
    have hx : x = ys[i] := by have := congrArg Prod.snd hyx; simpa using this
    subst hy hx
    refine wpAny_bind (wpAny_mono (turn i h1 h2 s' hI) (fun r s2 q2 => ?_) fun _ _ x => x)
    cases r with
    | true =>
      wp_walk
      exact ⟨rfl, i + 1, hrest, h1, q2⟩
    | false =>
      wp_walk
      exact finF s2 q2
  case fin =>
    rintro ⟨b1, b2⟩ s' ⟨hb', i, hz, hi, hI⟩
    simp only at hb'
    subst hb'
    have hge : xs.size ≤ i := by
      rcases Nat.lt_or_ge i (xs.toList.zip ys.toList).length with h' | h'
      · rw [List.drop_eq_getElem_cons h'] at hz; cases hz
      · exact hZ ▸ h'
    have hi' : i = xs.size := by omega
    have hR : R (.ok (.ret (.bool true))) s' := fin s' (hi' ▸ hI)
    wp_walk
    simpa [Builtin.Tuple.tupleCompareSizes, hsz] using hR
  case h =>
    exact ⟨rfl, 0, rfl, Nat.zero_le _, h0⟩
end
end PyD
set_option Elab.async false
set_option linter.all false
set_option autoImplicit false
set_option maxRecDepth 100000
set_option maxHeartbeats 4000000
/-! # Equality over trees: meaning and soundness -/
namespace PyD
open PySem PySem.Spec L2

mutual
/-- a tree of plain data -/
def toP : D → Option PyData
  | .non => some .none
  | .bl b => some (.bool b)
  | .int i => some (.int i)
  | .str x => some (.str x)
  | .lst ds => (toPs ds).map .list
  | .tup ds => (toPs ds).map .tuple
  | _ => none
def toPs : List D → Option (List PyData)
  | [] => some []
  | d :: ds => match toP d, toPs ds with
    | some p, some ps => some (p :: ps)
    | _, _ => none
end
section
variable {K : PySem.W.Frag} {G : Gam} {I H : Hp}
mutual
theorem dp_of (sb : Sub I H) : ∀ {d : D} {p : PyData} {v : V}, toP d = some p → Rep K G I d v → Dp K H v p
  | .non, _, _, e, r => by unfold toP at e; cases e; unfold Rep at r; subst r; exact .non
  | .bl _, _, _, e, r => by unfold toP at e; cases e; unfold Rep at r; subst r; exact .bl _
  | .int _, _, _, e, r => by unfold toP at e; cases e; unfold Rep at r; subst r; exact .int _
  | .str _, _, _, e, r => by unfold toP at e; cases e; unfold Rep at r; subst r; exact .str _
  | .lst ds, _, _, e, r => by
    unfold toP at e
    unfold Rep at r
    obtain ⟨a, vs, rfl, h1, h2⟩ := r
    cases q : toPs ds with
    | none => rw [q] at e; cases e
    | some ps => rw [q] at e; cases e; exact .lst (sb.sql h1) (dps_of sb q h2)
  | .tup ds, _, _, e, r => by
    unfold toP at e
    unfold Rep at r
    obtain ⟨a, vs, rfl, h1, h2⟩ := r
    cases q : toPs ds with
    | none => rw [q] at e; cases e
    | some ps => rw [q] at e; cases e; exact .tup (sb.sqt h1) (dps_of sb q h2)
  | .dct _, _, _, e, _ => by unfold toP at e; cases e
  | .obj _ _, _, _, e, _ => by unfold toP at e; cases e
  | .loc _, _, _, e, _ => by unfold toP at e; cases e
  | .cls _, _, _, e, _ => by unfold toP at e; cases e
  | .ty _, _, _, e, _ => by unfold toP at e; cases e
theorem dps_of (sb : Sub I H) : ∀ {ds : List D} {ps : List PyData} {vs : List V}, toPs ds = some ps → Reps K G I ds vs → DpAll K H vs ps
  | [], _, _, e, r => by unfold toPs at e; cases e; unfold Reps at r; subst r; exact .nil
  | d :: ds, _, _, e, r => by
    unfold toPs at e
    unfold Reps at r
    obtain ⟨v, t, rfl, h1, h2⟩ := r
    split at e
    · rename_i p ps e1 e2
      cases e
      exact .cons (dp_of sb e1 h1) (dps_of sb e2 h2)
    · cases e
end
end
/-- what may stand for anything -/
def loose : D → Prop
  | .loc _ => True
  | .cls _ => True
  | .ty _ => True
  | _ => False
mutual
/-- trees of one and the same value -/
def same : D → D → Prop
  | .non, e => e = .non ∨ loose e
  | .bl b, e => e = .bl b ∨ loose e
  | .int i, e => e = .int i ∨ loose e
  | .str x, e => e = .str x ∨ loose e
  | .tup xs, e => (∃ ys, e = .tup ys ∧ sames xs ys) ∨ loose e
  | .lst xs, e => (∃ ys, e = .lst ys ∧ sames xs ys) ∨ loose e
  | .dct xs, e => (∃ ys, e = .dct ys ∧ samek xs ys) ∨ loose e
  | .obj c fs, e => (∃ gs, e = .obj c gs ∧ samef fs gs) ∨ loose e
  | .loc _, _ => True
  | .cls _, _ => True
  | .ty _, _ => True
def sames : List D → List D → Prop
  | [], es => es = []
  | d :: ds, es => ∃ e r, es = e :: r ∧ same d e ∧ sames ds r
def samek : List (Key × D) → List (Key × D) → Prop
  | [], es => es = []
  | (k, d) :: ds, es => ∃ e r, es = (k, e) :: r ∧ same d e ∧ samek ds r
def samef : List (Nat × D) → List (Nat × D) → Prop
  | [], es => es = []
  | (k, d) :: ds, es => ∃ e r, es = (k, e) :: r ∧ same d e ∧ samef ds r
end
def tagC : Value → Nat
  | .type n => if n = "list" then 4 else if n = "tuple" then 5 else if n = "dict" then 6 else 9
  | .ref _ => 7
  | _ => 8
/-- the kind of a value -/
def TagV (h : Heap) (v : V) (n : Nat) : Prop := match v with
  | .non => n = 0
  | .bl _ => n = 1
  | .int _ => n = 2
  | .str _ => n = 3
  | .ref a => ∃ o, h.get? a = some o ∧ tagC o.cls = n
  | _ => False
theorem TagV.one {h : Heap} {v : V} {n m : Nat} (a : TagV h v n) (b : TagV h v m) : n = m := by
  cases v <;> simp only [TagV] at a b <;> first | exact a.elim | (subst a; exact b.symm) | skip
  obtain ⟨o, h1, rfl⟩ := a
  obtain ⟨u, h2, rfl⟩ := b
  rw [h1] at h2
  cases h2
  rfl
def tagD : D → Nat
  | .non => 0 | .bl _ => 1 | .int _ => 2 | .str _ => 3 | .lst _ => 4 | .tup _ => 5 | .dct _ => 6 | .obj _ _ => 7 | _ => 10
section
variable {X : Cx} {G : Gam} {I : Hp} {M : Mst} {H : Hp} {pins : List (Addr × Obj)} {σ : L2.St} {s : Shared}
theorem tag_of (J : L2.Inv X pins σ H s) (g : Good X.K G I M H) {d : D} {v : V} (r : Rep X.K G I d v) : loose d ∨ TagV s.heap v (tagD d) := by
  cases d <;> unfold Rep at r <;> first | (left; exact trivial) | (right; subst r; rfl) | skip
  · obtain ⟨a, vs, rfl, h, _⟩ := r
    obtain ⟨its, _, ⟨o, ho, hc, _⟩, _⟩ := J.tuple (g.sub.sqt h)
    exact .inr ⟨o, ho, by rw [hc]; rfl⟩
  · obtain ⟨a, vs, rfl, h, _⟩ := r
    obtain ⟨its, _, ⟨o, n, ho, hc, _⟩, _⟩ := J.list (g.sub.sql h)
    exact .inr ⟨o, ho, by rw [hc]; rfl⟩
  · obtain ⟨a, kvs, rfl, h, _⟩ := r
    obtain ⟨_, _, vs, _, o, es, ep, h1, h2, _⟩ := (show ObjOk X.prog X.w H s.heap a (.dK kvs) from (g.sub.dK h).ok J.hok)
    exact .inr ⟨o, h1, by rw [h2.1]; rfl⟩
  · obtain ⟨a, dx, vfs, rfl, h, _⟩ := r
    obtain ⟨od, K⟩ := inst_at J (g.sub.ins h)
    exact .inr ⟨_, K.at_, by rw [K.cls]; rfl⟩
theorem sql_one (J : L2.Inv X pins σ H s) (g : Good X.K G I M H) {a : Addr} {xs ys : List V} (h1 : SqL X.K I a xs) (h2 : SqL X.K I a ys) : xs = ys := by
  obtain ⟨i1, r1, ⟨o1, n1, e1, _, _, d1⟩, _⟩ := J.list (g.sub.sql h1)
  obtain ⟨i2, r2, ⟨o2, n2, e2, _, _, d2⟩, _⟩ := J.list (g.sub.sql h2)
  rw [e1] at e2
  cases e2
  rw [d1] at d2
  cases d2
  exact r1.inj r2
theorem sqt_one (J : L2.Inv X pins σ H s) (g : Good X.K G I M H) {a : Addr} {xs ys : List V} (h1 : SqT X.K I a xs) (h2 : SqT X.K I a ys) : xs = ys := by
  obtain ⟨i1, r1, ⟨o1, e1, _, n1, d1⟩, _⟩ := J.tuple (g.sub.sqt h1)
  obtain ⟨i2, r2, ⟨o2, e2, _, n2, d2⟩, _⟩ := J.tuple (g.sub.sqt h2)
  rw [e1] at e2
  cases e2
  rw [d1] at d2
  cases d2
  exact r1.inj r2
theorem tag_eq (J : L2.Inv X pins σ H s) (g : Good X.K G I M H) {d e : D} {v : V} (r1 : Rep X.K G I d v) (r2 : Rep X.K G I e v) (h : ¬ loose d) : loose e ∨ tagD e = tagD d := by
  rcases tag_of J g r1 with q | q
  · exact absurd q h
  · rcases tag_of J g r2 with p | p
    · exact .inl p
    · exact .inr (p.one q)
mutual
theorem rep_same (ci : ∀ c c', G.cl c = G.cl c' → c = c') (J : L2.Inv X pins σ H s) (g : Good X.K G I M H) : ∀ {d e : D} {v : V}, Rep X.K G I d v → Rep X.K G I e v → same d e
  | .non, e, v, r1, r2 => by
    unfold same
    rcases tag_eq J g r1 r2 (fun h => h) with q | q
    · exact .inr q
    · cases e <;> first | (left; rfl) | (exfalso; simp [tagD] at q; done)
  | .bl b, e, v, r1, r2 => by
    unfold same
    rcases tag_eq J g r1 r2 (fun h => h) with q | q
    · exact .inr q
    · cases e <;> first | (exfalso; simp [tagD] at q; done) | (unfold Rep at r1 r2; rw [r1] at r2; cases r2; exact .inl rfl)
  | .int i, e, v, r1, r2 => by
    unfold same
    rcases tag_eq J g r1 r2 (fun h => h) with q | q
    · exact .inr q
    · cases e <;> first | (exfalso; simp [tagD] at q; done) | (unfold Rep at r1 r2; rw [r1] at r2; cases r2; exact .inl rfl)
  | .str x, e, v, r1, r2 => by
    unfold same
    rcases tag_eq J g r1 r2 (fun h => h) with q | q
    · exact .inr q
    · cases e <;> first | (exfalso; simp [tagD] at q; done) | (unfold Rep at r1 r2; rw [r1] at r2; cases r2; exact .inl rfl)
  | .tup xs, e, v, r1, r2 => by
    unfold same
    rcases tag_eq J g r1 r2 (fun h => h) with q | q
    · exact .inr q
    · cases e <;> first | (exfalso; simp [tagD] at q; done) | skip
      rename_i ys
      unfold Rep at r1 r2
      obtain ⟨a, vs, rfl, h1, h2⟩ := r1
      obtain ⟨b, ws, e, h3, h4⟩ := r2
      cases e
      obtain rfl := sqt_one J g h1 h3
      exact .inl ⟨ys, rfl, reps_same ci J g h2 h4⟩
  | .lst xs, e, v, r1, r2 => by
    unfold same
    rcases tag_eq J g r1 r2 (fun h => h) with q | q
    · exact .inr q
    · cases e <;> first | (exfalso; simp [tagD] at q; done) | skip
      rename_i ys
      unfold Rep at r1 r2
      obtain ⟨a, vs, rfl, h1, h2⟩ := r1
      obtain ⟨b, ws, e, h3, h4⟩ := r2
      cases e
      obtain rfl := sql_one J g h1 h3
      exact .inl ⟨ys, rfl, reps_same ci J g h2 h4⟩
  | .dct xs, e, v, r1, r2 => by
    unfold same
    rcases tag_eq J g r1 r2 (fun h => h) with q | q
    · exact .inr q
    · cases e <;> first | (exfalso; simp [tagD] at q; done) | skip
      rename_i ys
      unfold Rep at r1 r2
      obtain ⟨a, vs, rfl, h1, h2⟩ := r1
      obtain ⟨b, ws, e, h3, h4⟩ := r2
      cases e
      rw [h1] at h3
      cases h3
      exact .inl ⟨ys, rfl, repk_same ci J g h2 h4⟩
  | .obj c fs, e, v, r1, r2 => by
    unfold same
    rcases tag_eq J g r1 r2 (fun h => h) with q | q
    · exact .inr q
    · cases e <;> first | (exfalso; simp [tagD] at q; done) | skip
      rename_i c' gs
      unfold Rep at r1 r2
      obtain ⟨a, dx, vs, rfl, h1, h2⟩ := r1
      obtain ⟨b, dy, ws, e, h3, h4⟩ := r2
      cases e
      rw [h1] at h3
      injection h3 with h3
      injection h3 with e1 e2 e3
      subst e3
      obtain rfl := ci _ _ e1
      exact .inl ⟨gs, rfl, repf_same ci J g h2 h4⟩
  | .loc _, e, v, r1, r2 => by unfold same; trivial
  | .cls _, e, v, r1, r2 => by unfold same; trivial
  | .ty _, e, v, r1, r2 => by unfold same; trivial
theorem reps_same (ci : ∀ c c', G.cl c = G.cl c' → c = c') (J : L2.Inv X pins σ H s) (g : Good X.K G I M H) : ∀ {ds es : List D} {vs : List V}, Reps X.K G I ds vs → Reps X.K G I es vs → sames ds es
  | [], es, vs, r1, r2 => by
    unfold Reps at r1
    subst r1
    unfold sames
    cases es with
    | nil => rfl
    | cons e es => unfold Reps at r2; obtain ⟨_, _, q, _⟩ := r2; cases q
  | d :: ds, es, vs, r1, r2 => by
    unfold Reps at r1
    obtain ⟨v, t, rfl, h1, h2⟩ := r1
    unfold sames
    cases es with
    | nil => unfold Reps at r2; cases r2
    | cons e es =>
      unfold Reps at r2
      obtain ⟨_, _, q, h3, h4⟩ := r2
      cases q
      exact ⟨e, es, rfl, rep_same ci J g h1 h3, reps_same ci J g h2 h4⟩
theorem repk_same (ci : ∀ c c', G.cl c = G.cl c' → c = c') (J : L2.Inv X pins σ H s) (g : Good X.K G I M H) : ∀ {ds es : List (Key × D)} {vs : List (Key × V)}, RepK X.K G I ds vs → RepK X.K G I es vs → samek ds es
  | [], es, vs, r1, r2 => by
    unfold RepK at r1
    subst r1
    unfold samek
    cases es with
    | nil => rfl
    | cons e es => obtain ⟨k, e⟩ := e; unfold RepK at r2; obtain ⟨_, _, q, _⟩ := r2; cases q
  | (k, d) :: ds, es, vs, r1, r2 => by
    unfold RepK at r1
    obtain ⟨v, t, rfl, h1, h2⟩ := r1
    unfold samek
    cases es with
    | nil => unfold RepK at r2; cases r2
    | cons e es =>
      obtain ⟨k', e⟩ := e
      unfold RepK at r2
      obtain ⟨_, _, q, h3, h4⟩ := r2
      cases q
      exact ⟨e, es, rfl, rep_same ci J g h1 h3, repk_same ci J g h2 h4⟩
theorem repf_same (ci : ∀ c c', G.cl c = G.cl c' → c = c') (J : L2.Inv X pins σ H s) (g : Good X.K G I M H) : ∀ {ds es : List (Nat × D)} {vs : List (Str × V)}, RepF X.K G I ds vs → RepF X.K G I es vs → samef ds es
  | [], es, vs, r1, r2 => by
    unfold RepF at r1
    subst r1
    unfold samef
    cases es with
    | nil => rfl
    | cons e es => obtain ⟨k, e⟩ := e; unfold RepF at r2; obtain ⟨_, _, q, _⟩ := r2; cases q
  | (k, d) :: ds, es, vs, r1, r2 => by
    unfold RepF at r1
    obtain ⟨v, t, rfl, h1, h2⟩ := r1
    unfold samef
    cases es with
    | nil => unfold RepF at r2; cases r2
    | cons e es =>
      obtain ⟨k', e⟩ := e
      unfold RepF at r2
      obtain ⟨v', t', q, h3, h4⟩ := r2
      injection q with q1 q2
      injection q1 with q3 q4
      subst q4 q2
      obtain rfl := G.inj _ _ q3
      exact ⟨e, es, rfl, rep_same ci J g h1 h3, repf_same ci J g h2 h4⟩
end
end
end PyD
set_option Elab.async false
set_option linter.all false
set_option autoImplicit false
set_option maxRecDepth 100000
set_option maxHeartbeats 4000000
namespace PyD
open PySem PySem.Spec L2
abbrev KB := Bool → Mst → Prop
/-- item by item, up to the first two that differ -/
def allT (f : D → D → KB → Mst → ED → Prop) : List D → List D → KB → Mst → ED → Prop
  | [], _ => fun K M _ => K true M
  | d :: ds, es => fun K M E => match es with
    | [] => K true M
    | e :: es => f d e (fun b M' => brb b (allT f ds es K M' E) (K false M')) M E
section
variable (G : Gam) (Γ : Nat → SpD)
def ownEqT (d e : D) (K : KB) (M : Mst) (E : ED) : Prop := instX d M fun c _ => sameOrSide c e M ∧ ownD G Γ 18 d [e] [] M (fun r M' => match r with
    | .bl b => K b M'
    | _ => False) E
def eqT : Nat → D → D → KB → Mst → ED → Prop
  | 0 => fun _ _ _ _ _ => False
  | n + 1 => fun d e K M E => match toP d, toP e with
    | some p, some q => SeqAt.shaped p = true ∧ SeqAt.shaped q = true ∧ K (PyData.eqv p q) M
    | _, _ => match d with
      | .lst xs => (match e with
        | .lst ys => if xs.length = ys.length then allT (eqT n) xs ys K M E else K false M
        | _ => False)
      | .tup xs => (match e with
        | .tup ys => xs.length = ys.length ∧ allT (eqT n) xs ys K M E
        | _ => False)
      | .obj c fs => (same (.obj c fs) e → K true M) ∧ ownEqT G Γ (.obj c fs) e K M E
      | .loc a => (same (.loc a) e → K true M) ∧ ownEqT G Γ (.loc a) e K M E
      | _ => False
end
section
variable {X : Cx} {G : Gam} {B : Bs} {W : WX} {Γ : Nat → SpD} {kx : Nat}
/-- what stands behind such a comparison -/
def PB (X : Cx) (G : Gam) (B : Bs) (pins : List (Addr × Obj)) (σ : L2.St) (ρ : Slots) (J : Hp) (K : KB) : Bool → Shared → Prop :=
  fun b s' => ∃ M' H' J', K b M' ∧ Ext J J' ∧ SR X.K G B σ H' ρ M' J' ∧ L2.Inv X pins σ H' s'
theorem PB.ext {pins : List (Addr × Obj)} {σ : L2.St} {ρ : Slots} {J J1 : Hp} {K K' : KB} (e : Ext J J1) {b : Bool} {s' : Shared} (h : PB X G B pins σ ρ J1 K b s') (k : ∀ M', K b M' → K' b M') : PB X G B pins σ ρ J K' b s' := by
  obtain ⟨M', H', J', h1, h2, h3, h4⟩ := h
  exact ⟨M', H', J', k _ h1, e.trans h2, h3, h4⟩
theorem eqBool_at {M : Model} {A : Around} {s : Shared} {E : Value → Shared → Prop} {Q : Bool → Shared → Prop} {a : Addr} {v : Value} (h1 : Value.ref a = v → Q true s) (h2 : wpAny M A (richCompare .Eq (.ref a) v) (fun v s' => ∃ r, v = .bool r ∧ Q r s') E s) : wpAny M A (eqBool (.ref a) v) Q E s := by
  unfold eqBool
  refine wpAny_holding ?_
  refine wpAny_ite_split (fun hab => ?_) (fun _ => ?_)
  · exact wpAny_bind (wpAny_rule (wpAny_pure (h1 (eq_of_beq hab))))
  · refine wpAny_bind (wpAny_mono h2 (fun v s' hv => ?_) fun _ _ x => x)
    obtain ⟨r, rfl, q⟩ := hv
    exact wpAny_truthy_bool q
/-- an own instance and what it is compared with -/
theorem notFirst_of (c : Ctx X G W Γ kx) {k cc i : Nat} {e : D} {M : Mst} {J H : Hp} {y : V} {v : Value} {pins : List (Addr × Obj)} {s : Shared} {σ : L2.St} (I : L2.Inv X pins σ H s) (g : Good X.K G J M H) (h1 : G.dn cc k = some i) (hk : k < 19) (hs : sameOrSide cc e M) (r2 : Rep X.K G J e y) (ry : RelV y v) :
    ∃ tb, PySem.W.Looks (model X.prog X.w) s.heap (typeOf v) tb ∧ PySem.W.notFirst X.K (G.cl cc) tb = true := by
  have side : ∀ T ∈ sideTs, PySem.W.notFirst X.K (G.cl cc) (.type T) = true := fun T hT => by
    unfold PySem.W.notFirst
    rw [c.ops.sub _ _ _ h1 hk T hT]
    simp
  unfold sameOrSide at hs
  split at hs
  · unfold Rep at r2; subst r2
    obtain rfl : v = Value.none := ry
    exact ⟨_, PySem.W.Looks.of_pure rfl, side "NoneType" (by decide)⟩
  · unfold Rep at r2; subst r2
    obtain rfl : v = Value.bool _ := ry
    exact ⟨_, PySem.W.Looks.of_pure rfl, side "bool" (by decide)⟩
  · unfold Rep at r2; subst r2
    obtain ⟨tk, rfl⟩ := ry
    exact ⟨_, PySem.W.Looks.of_pure rfl, side "int" (by decide)⟩
  · unfold Rep at r2; subst r2
    obtain ⟨tk, rfl⟩ := ry
    exact ⟨_, PySem.W.Looks.of_pure rfl, side "str" (by decide)⟩
  · unfold Rep at r2
    obtain ⟨b, vs, rfl, hb, _⟩ := r2
    obtain rfl : v = Value.ref b := ry
    obtain ⟨its, _, ⟨o, n, ho, hc, _⟩, _⟩ := I.list (g.sub.sql hb)
    exact ⟨o.cls, looks_ty ho, by rw [hc]; exact side "list" (by decide)⟩
  · unfold Rep at r2
    obtain ⟨b, vs, rfl, hb, _⟩ := r2
    obtain rfl : v = Value.ref b := ry
    obtain ⟨its, _, ⟨o, ho, hc, _⟩, _⟩ := I.tuple (g.sub.sqt hb)
    exact ⟨o.cls, looks_ty ho, by rw [hc]; exact side "tuple" (by decide)⟩
  · obtain ⟨c', fs', hj, hs⟩ := instX_ok hs
    subst hs
    obtain ⟨b, dy, vgs, rfl, hb, _⟩ := instD_ok g r2 hj
    obtain rfl : v = Value.ref b := ry
    obtain ⟨od2, J2⟩ := inst_at I hb
    exact ⟨_, J2.type, by unfold PySem.W.notFirst; simp⟩
/-- == by an own __eq__ -/
theorem own_eq_ok (c : Ctx X G W Γ kx) {A : Around} {pins : List (Addr × Obj)} {s : Shared} {σ : L2.St} {H : Hp} {ρ : Slots} {M : Mst} {J : Hp} {d e : D} {x y : V} {u v : Value} {K : KB} {E1 : ED}
    (hr : Room kx A) (hg : A.guards = some []) (hf : A.frames = some X.stack) (I : L2.Inv X pins σ H s) (sr : SR X.K G B σ H ρ M J) (r1 : Rep X.K G J d x) (r2 : Rep X.K G J e y) (rx : RelV x u) (ry : RelV y v) (h : ownEqT G Γ d e K M E1) (er : ErC X.K G B W σ ρ E1) :
    wpAny (model X.prog X.w) A (richCompare .Eq u v) (fun z s' => ∃ b, z = .bool b ∧ PB X G B pins σ ρ J K b s') X.xe s := by
  unfold ownEqT at h
  obtain ⟨cc, fs, hi, hs, t⟩ := instX_ok h
  obtain ⟨i, h1, hks, t⟩ := ownD_at _ _ t hi
  · skip
    · skip
      obtain ⟨a, dx, vfs, rfl, ha, _⟩ := instD_ok sr.good r1 hi
      obtain rfl : u = Value.ref a := rx
      obtain ⟨tb, l1, l2⟩ := notFirst_of c I sr.good h1 (by decide) hs r2 ry
      obtain ⟨_, ⟨m11, m12, m13⟩, sf⟩ := c.ops.ok.dn _ _ _ h1
      obtain ⟨od, J1⟩ := inst_at I ha
      obtain ⟨mf, F⟩ := I.fr
      have e1 : G.nm 18 = "__eq__" := c.ops.dund 18 (by decide)
      rw [e1] at m11
      refine PySem.W.cmp_K (op := .Eq) hr.units0 F I.mod.kin J1 l1 l2 m11 m12 ?_
      refine thn (own_run c (Q := fun z H' => ∃ b M' J', z = .bl b ∧ K b M' ∧ Ext J J' ∧ SR X.K G B σ H' ρ M' J') hr hg hf I sr (.cons r1 (.cons r2 .nil)) (.cons rfl (.cons ry .nil)) hks t (fun d' M' z H' J' k x' s' r' => ?_) er) fun z s' hz => ?_
      · split at k
        · unfold Rep at r'
          exact ⟨_, M', J', r', k, x', s'⟩
        · exact k.elim
      · obtain ⟨z', H', I', rz, b, M', J', rfl, k, x', s''⟩ := hz
        exact cmpback rz ⟨b, rz, M', H', J', k, x', s'', I'⟩
/-- the pair at an index -/
theorem allT_at {f : D → D → KB → Mst → ED → Prop} {ds es : List D} {i : Nat} {d e : D} {K : KB} {M : Mst} {E : ED} (h1 : ds[i]? = some d) (h2 : es[i]? = some e) (h : allT f (ds.drop i) (es.drop i) K M E) :
    f d e (fun b M' => brb b (allT f (ds.drop (i + 1)) (es.drop (i + 1)) K M' E) (K false M')) M E := by
  obtain ⟨l1, q1⟩ := List.getElem?_eq_some_iff.mp h1
  obtain ⟨l2, q2⟩ := List.getElem?_eq_some_iff.mp h2
  rw [List.drop_eq_getElem_cons l1, List.drop_eq_getElem_cons l2, q1, q2] at h
  exact h
theorem allT_end {f : D → D → KB → Mst → ED → Prop} {ds es : List D} {i : Nat} {K : KB} {M : Mst} {E : ED} (h1 : ds.length ≤ i) (h : allT f (ds.drop i) (es.drop i) K M E) : K true M := by
  rw [List.drop_of_length_le h1] at h
  exact h
theorem lst_at {pins : List (Addr × Obj)} {s : Shared} {σ : L2.St} {H : Hp} {a : Addr} {xs : List V} (I : L2.Inv X pins σ H s) (h : SqL X.K H a xs) : ∃ its : List Value, Vals xs its ∧ LstAt s.heap a xs.length its.toArray := by
  obtain ⟨its, r, ⟨⟨oc, od, dd, sl⟩, n, e, c, d, t⟩, _⟩ := I.list h
  dsimp only at c d t
  subst c d t
  exact ⟨its, r, ⟨n, sl, e, by rw [List.size_toArray, r.length]⟩⟩
theorem vals_at {xs : List V} {its : List Value} {i : Nat} (r : Vals xs its) (h : i < its.toArray.size) : ∃ x, xs[i]? = some x ∧ RelV x its.toArray[i] := by
  have h' : i < its.length := by simpa using h
  have e : its[i]? = some its.toArray[i] := by rw [List.getElem?_eq_getElem h']; simp
  have l : i < xs.length := by rw [r.length]; exact h'
  obtain ⟨u, h1, h2⟩ := r.get (List.getElem?_eq_getElem l)
  rw [e] at h1
  cases h1
  exact ⟨xs[i], List.getElem?_eq_getElem l, h2⟩
theorem loose_none {e : D} (h : loose e) : toP e = none := by
  cases e <;> first | exact h.elim | rfl
mutual
theorem eqv_same : ∀ {d e : D} {p q : PyData}, same d e → toP d = some p → toP e = some q → PyData.eqv p q = true
  | .non, e, p, q, h, hp, hq => by
    unfold same at h
    rcases h with rfl | h
    · unfold toP at hp hq; cases hp; cases hq; simp [PyData.eqv]
    · rw [loose_none h] at hq; cases hq
  | .bl _, e, p, q, h, hp, hq => by
    unfold same at h
    rcases h with rfl | h
    · unfold toP at hp hq; cases hp; cases hq; simp [PyData.eqv]
    · rw [loose_none h] at hq; cases hq
  | .int _, e, p, q, h, hp, hq => by
    unfold same at h
    rcases h with rfl | h
    · unfold toP at hp hq; cases hp; cases hq; simp [PyData.eqv]
    · rw [loose_none h] at hq; cases hq
  | .str _, e, p, q, h, hp, hq => by
    unfold same at h
    rcases h with rfl | h
    · unfold toP at hp hq; cases hp; cases hq; simp [PyData.eqv]
    · rw [loose_none h] at hq; cases hq
  | .lst xs, e, p, q, h, hp, hq => by
    unfold same at h
    rcases h with ⟨ys, rfl, h⟩ | h
    · unfold toP at hp hq
      cases a : toPs xs with
      | none => rw [a] at hp; cases hp
      | some ps =>
        cases b : toPs ys with
        | none => rw [b] at hq; cases hq
        | some qs =>
          rw [a] at hp
          rw [b] at hq
          cases hp
          cases hq
          unfold PyData.eqv
          exact eqvs_same h a b
    · rw [loose_none h] at hq; cases hq
  | .tup xs, e, p, q, h, hp, hq => by
    unfold same at h
    rcases h with ⟨ys, rfl, h⟩ | h
    · unfold toP at hp hq
      cases a : toPs xs with
      | none => rw [a] at hp; cases hp
      | some ps =>
        cases b : toPs ys with
        | none => rw [b] at hq; cases hq
        | some qs =>
          rw [a] at hp
          rw [b] at hq
          cases hp
          cases hq
          unfold PyData.eqv
          exact eqvs_same h a b
    · rw [loose_none h] at hq; cases hq
  | .dct _, e, p, q, h, hp, hq => by unfold toP at hp; cases hp
  | .obj _ _, e, p, q, h, hp, hq => by unfold toP at hp; cases hp
  | .loc _, e, p, q, h, hp, hq => by unfold toP at hp; cases hp
  | .cls _, e, p, q, h, hp, hq => by unfold toP at hp; cases hp
  | .ty _, e, p, q, h, hp, hq => by unfold toP at hp; cases hp
theorem eqvs_same : ∀ {ds es : List D} {ps qs : List PyData}, sames ds es → toPs ds = some ps → toPs es = some qs → PyData.eqvAll ps qs = true
  | [], es, ps, qs, h, hp, hq => by
    unfold sames at h
    subst h
    unfold toPs at hp hq
    cases hp
    cases hq
    simp [PyData.eqvAll]
  | d :: ds, es, ps, qs, h, hp, hq => by
    unfold sames at h
    obtain ⟨e, r, rfl, h1, h2⟩ := h
    unfold toPs at hp hq
    split at hp
    · rename_i p1 ps1 a1 a2
      cases hp
      split at hq
      · rename_i q1 qs1 b1 b2
        cases hq
        unfold PyData.eqvAll
        rw [eqv_same h1 a1 b1, eqvs_same h2 a2 b2]
        rfl
      · cases hq
    · cases hp
end
theorem sames_len : ∀ {ds es : List D}, sames ds es → ds.length = es.length
  | [], es, h => by unfold sames at h; subst h; rfl
  | d :: ds, es, h => by
    unfold sames at h
    obtain ⟨e, r, rfl, _, h2⟩ := h
    simp [sames_len h2]
theorem allT_refl {f : D → D → KB → Mst → ED → Prop} (hf : ∀ d e K M E, same d e → f d e K M E → K true M) : ∀ {ds es : List D} {K : KB} {M : Mst} {E : ED}, sames ds es → allT f ds es K M E → K true M
  | [], _, _, _, _, _, h => h
  | d :: ds, es, K, M, E, sm, h => by
    unfold sames at sm
    obtain ⟨e, r, rfl, h1, h2⟩ := sm
    have := hf _ _ _ _ _ h1 h
    exact allT_refl hf h2 this
theorem eqT_refl : ∀ {n : Nat} {d e : D} {K : KB} {M : Mst} {E1 : ED}, same d e → eqT G Γ n d e K M E1 → K true M
  | 0, _, _, _, _, _, _, h => h.elim
  | n + 1, d, e, K, M, E1, sm, h => by
    unfold eqT at h
    split at h
    · rename_i p q hp hq
      rw [eqv_same sm hp hq] at h
      exact h.2.2
    · rename_i hneg
      clear hneg
      split at h
      · rename_i xs
        split at h
        · rename_i ys
          unfold same at sm
          rcases sm with ⟨zs, e, sm⟩ | sm
          · cases e
            rw [if_pos (sames_len sm)] at h
            exact allT_refl (fun _ _ _ _ _ s h => eqT_refl s h) sm h
          · exact sm.elim
        · exact h.elim
      · rename_i xs
        split at h
        · rename_i ys
          unfold same at sm
          rcases sm with ⟨zs, e, sm⟩ | sm
          · cases e
            exact allT_refl (fun _ _ _ _ _ s h => eqT_refl s h) sm h.2
          · exact sm.elim
        · exact h.elim
      · exact h.1 sm
      · exact h.1 sm
      · exact h.elim
theorem eqT_ok (c : Ctx X G W Γ kx) : ∀ (n : Nat), (∀ {A : Around} {pins : List (Addr × Obj)} {s : Shared} {σ : L2.St} {H : Hp} {ρ : Slots} {M : Mst} {J : Hp} {d e : D} {x y : V} {u v : Value} {K : KB} {E1 : ED},
      Room (kx + n) A → A.guards = some [] → A.frames = some X.stack → L2.Inv X pins σ H s → SR X.K G B σ H ρ M J → Rep X.K G J d x → Rep X.K G J e y → RelV x u → RelV y v → eqT G Γ n d e K M E1 → ErC X.K G B W σ ρ E1 →
      wpAny (model X.prog X.w) A (richCompare .Eq u v) (fun z s' => ∃ b, z = .bool b ∧ PB X G B pins σ ρ J K b s') X.xe s) ∧
    (∀ {A : Around} {pins : List (Addr × Obj)} {s : Shared} {σ : L2.St} {H : Hp} {ρ : Slots} {M : Mst} {J : Hp} {d e : D} {x y : V} {u v : Value} {K : KB} {E1 : ED},
      Room (kx + n) A → A.guards = some [] → A.frames = some X.stack → L2.Inv X pins σ H s → SR X.K G B σ H ρ M J → Rep X.K G J d x → Rep X.K G J e y → RelV x u → RelV y v → eqT G Γ n d e K M E1 → ErC X.K G B W σ ρ E1 →
      wpAny (model X.prog X.w) A (eqBool u v) (PB X G B pins σ ρ J K) X.xe s) := by
  intro n
  induction n with
  | zero => exact ⟨fun _ _ _ _ _ _ _ _ _ h => h.elim, fun _ _ _ _ _ _ _ _ _ h => h.elim⟩
  | succ n ih =>
    have one : ∀ {A : Around} {pins : List (Addr × Obj)} {s : Shared} {σ : L2.St} {H : Hp} {ρ : Slots} {M : Mst} {J : Hp} {d e : D} {x y : V} {u v : Value} {K : KB} {E1 : ED},
        Room (kx + (n + 1)) A → A.guards = some [] → A.frames = some X.stack → L2.Inv X pins σ H s → SR X.K G B σ H ρ M J → Rep X.K G J d x → Rep X.K G J e y → RelV x u → RelV y v → eqT G Γ (n + 1) d e K M E1 → ErC X.K G B W σ ρ E1 →
        wpAny (model X.prog X.w) A (richCompare .Eq u v) (fun z s' => ∃ b, z = .bool b ∧ PB X G B pins σ ρ J K b s') X.xe s := by
      intro A pins s σ H ρ M J d e x y u v K E1 hr hg hf I sr r1 r2 rx ry h er
      unfold eqT at h
      split at h
      · rename_i p q hp hq
        obtain ⟨as, ra⟩ := Dp.reads I p x u (dp_of sr.good.sub hp r1) rx
        obtain ⟨bs, rb⟩ := Dp.reads I q y v (dp_of sr.good.sub hq r2) ry
        exact SeqAt.eqOverData _ _ _ _ _ _ _ _ _ _ _ _ ra rb (SeqAt.canLay_of_shaped h.1) (SeqAt.canLay_of_shaped h.2.1) (SeqAt.room_of_shaped h.1 hr.units) ⟨_, rfl, M, H, J, h.2.2, .refl J, sr, I⟩
      · rename_i hneg
        clear hneg
        split at h
        · rename_i xs
          split at h
          · rename_i ys
            unfold Rep at r1 r2
            obtain ⟨a, vs, rfl, h1, h2⟩ := r1
            obtain ⟨b, ws, rfl, h3, h4⟩ := r2
            obtain rfl : u = Value.ref a := rx
            obtain rfl : v = Value.ref b := ry
            obtain ⟨i1, q1, l1⟩ := lst_at I (sr.good.sub.sql h1)
            obtain ⟨i2, q2, l2⟩ := lst_at I (sr.good.sub.sql h3)
            obtain ⟨n1, t1, e1, z1⟩ := id l1
            obtain ⟨n2, t2, e2, z2⟩ := id l2
            refine wpAny_richCompare_same_room (op := .Eq) ⟨_, e1, rfl⟩ ⟨_, e2, rfl⟩ F.slot_list_eq (GQ.call_here F.slot_list_eq ⟨_, e1, rfl⟩ F.entry_list_eq (F.args_list_eq_2 _ _) ?_) hr.units0
            split at h
            · rename_i hlen
              refine body_eq (R := wants (fun v s' => v ≠ .notImplemented ∧ ∃ b, v = .bool b ∧ PB X G B pins σ ρ J K b s') X.xe) a b vs.length
                (fun i s' => ∃ M' H' J', Ext J J' ∧ SR X.K G B σ H' ρ M' J' ∧ L2.Inv X pins σ H' s' ∧ allT (eqT G Γ n) (xs.drop i) (ys.drop i) K M' E1)
                (fun s' => PB X G B pins σ ρ J K false s') ⟨?_, ?_⟩ ?_ (fun s' q => ⟨(fun z => nomatch z), false, rfl, q⟩) ⟨M, H, J, .refl J, sr, I, by simpa using h⟩
              · rintro i s1 ⟨M1, H1, J1, x1, sr1, I1, t⟩
                obtain ⟨j1, p1, m1⟩ := lst_at I1 (sr1.good.sub.sql (x1.sql h1))
                obtain ⟨j2, p2, m2⟩ := lst_at I1 (sr1.good.sub.sql (x1.sql h3))
                refine ⟨_, _, m1, by rw [h2.length, hlen, ← h4.length]; exact m2, fun g1 g2 => ?_⟩
                obtain ⟨xi, k1, k2⟩ := vals_at p1 g1
                obtain ⟨yi, k3, k4⟩ := vals_at p2 g2
                obtain ⟨di, k5, k6⟩ := (h2.ext x1).get' k1
                obtain ⟨ei, k7, k8⟩ := (h4.ext x1).get' k3
                refine thn (ih.2 (hr.in1 : Room (kx + n) A.in1) hg hf I1 sr1 k6 k8 k2 k4 (allT_at k5 k7 t) er) fun r s2 hq => ?_
                obtain ⟨M2, H2, J2, z1, z2, z3, z4⟩ := hq
                cases r with
                | true => exact ⟨M2, H2, J2, x1.trans z2, z3, z4, z1⟩
                | false => exact ⟨M2, H2, J2, z1, x1.trans z2, z3, z4⟩
              · rintro s1 ⟨M1, H1, J1, _, x1, sr1, I1⟩
                obtain ⟨j1, p1, m1⟩ := lst_at I1 (sr1.good.sub.sql (x1.sql h1))
                obtain ⟨j2, p2, m2⟩ := lst_at I1 (sr1.good.sub.sql (x1.sql h3))
                exact ⟨_, _, m1, by rw [h2.length, hlen, ← h4.length]; exact m2⟩
              · rintro s1 ⟨M1, H1, J1, x1, sr1, I1, t⟩
                exact ⟨(fun z => nomatch z), true, rfl, M1, H1, J1, allT_end (by rw [← h2.length]; exact Nat.le_refl _) t, x1, sr1, I1⟩
            · rename_i hlen
              exact lens_eq (R := wants (fun v s' => v ≠ .notImplemented ∧ ∃ b, v = .bool b ∧ PB X G B pins σ ρ J K b s') X.xe) l1 l2 (by rw [h2.length, h4.length]; exact hlen) ⟨(fun z => nomatch z), false, rfl, M, H, J, h, .refl J, sr, I⟩
          · exact h.elim
        · rename_i xs
          split at h
          · rename_i ys
            obtain ⟨hlen, h⟩ := h
            unfold Rep at r1 r2
            obtain ⟨a, vs, rfl, h1, h2⟩ := r1
            obtain ⟨b, ws, rfl, h3, h4⟩ := r2
            obtain rfl : u = Value.ref a := rx
            obtain rfl : v = Value.ref b := ry
            obtain ⟨i1, q1, ⟨⟨oc1, od1, dd1, sl1⟩, e1, c1, n1, d1⟩, _⟩ := I.tuple (sr.good.sub.sqt h1)
            obtain ⟨i2, q2, ⟨⟨oc2, od2, dd2, sl2⟩, e2, c2, n2, d2⟩, _⟩ := I.tuple (sr.good.sub.sqt h3)
            dsimp only at c1 d1 c2 d2
            subst c1 d1 c2 d2
            refine wpAny_richCompare_same_room (op := .Eq) ⟨_, e1, rfl⟩ ⟨_, e2, rfl⟩ F.slot_tuple_eq (GQ.call_here F.slot_tuple_eq ⟨_, e1, rfl⟩ F.entry_tuple_eq (F.args_tuple_eq_2 _ _) ?_) hr.units0
            refine tup_eq (R := wants (fun v s' => v ≠ .notImplemented ∧ ∃ b, v = .bool b ∧ PB X G B pins σ ρ J K b s') X.xe) a b i1.toArray i2.toArray n1 n2 od1 od2 sl1 sl2 (by rw [List.size_toArray, List.size_toArray, ← q1.length, ← q2.length, h2.length, h4.length, hlen])
              (fun i s' => ∃ M' H' J', Ext J J' ∧ SR X.K G B σ H' ρ M' J' ∧ L2.Inv X pins σ H' s' ∧ allT (eqT G Γ n) (xs.drop i) (ys.drop i) K M' E1)
              (fun s' => PB X G B pins σ ρ J K false s') ?_ ?_ (fun s' q => ⟨(fun z => nomatch z), false, rfl, q⟩) e1 e2 ⟨M, H, J, .refl J, sr, I, by simpa using h⟩
            · rintro i g1 g2 s1 ⟨M1, H1, J1, x1, sr1, I1, t⟩
              obtain ⟨xi, k1, k2⟩ := vals_at q1 g1
              obtain ⟨yi, k3, k4⟩ := vals_at q2 g2
              obtain ⟨di, k5, k6⟩ := (h2.ext x1).get' k1
              obtain ⟨ei, k7, k8⟩ := (h4.ext x1).get' k3
              refine thn (ih.2 (hr.in1 : Room (kx + n) A.in1) hg hf I1 sr1 k6 k8 k2 k4 (allT_at k5 k7 t) er) fun r s2 hq => ?_
              obtain ⟨M2, H2, J2, z1, z2, z3, z4⟩ := hq
              cases r with
              | true => exact ⟨M2, H2, J2, x1.trans z2, z3, z4, z1⟩
              | false => exact ⟨M2, H2, J2, z1, x1.trans z2, z3, z4⟩
            · rintro s1 ⟨M1, H1, J1, x1, sr1, I1, t⟩
              refine ⟨(fun z => nomatch z), true, rfl, M1, H1, J1, allT_end ?_ t, x1, sr1, I1⟩
              rw [← h2.length, q1.length, List.size_toArray]
              exact Nat.le_refl _
          · exact h.elim
        · exact own_eq_ok c (hr.mono (by omega)) hg hf I sr r1 r2 rx ry h.2 er
        · exact own_eq_ok c (hr.mono (by omega)) hg hf I sr r1 r2 rx ry h.2 er
        · exact h.elim
    refine ⟨one, ?_⟩
    intro A pins s σ H ρ M J d e x y u v K E1 hr hg hf I sr r1 r2 rx ry h er
    have rc := one hr hg hf I sr r1 r2 rx ry h er
    have byRef : ∀ {a : Addr}, x = .ref a → (same d e → K true M) → wpAny (model X.prog X.w) A (eqBool u v) (PB X G B pins σ ρ J K) X.xe s := by
      intro a ex hk
      subst ex
      obtain rfl : u = Value.ref a := rx
      refine eqBool_at (fun hv => ?_) rc
      subst hv
      obtain rfl : y = .ref a := RelV.inj ry rfl
      exact ⟨M, H, J, hk (rep_same c.ops.inj I sr.good r1 r2), .refl J, sr, I⟩
    have hfull := h
    unfold eqT at h
    split at h
    · rename_i p q hp hq
      obtain ⟨as, ra⟩ := Dp.reads I p x u (dp_of sr.good.sub hp r1) rx
      obtain ⟨bs, rb⟩ := Dp.reads I q y v (dp_of sr.good.sub hq r2) ry
      exact SeqAt.eqBoolOverData _ _ _ _ _ _ _ _ _ _ _ _ ra rb (SeqAt.canLay_of_shaped h.1) (SeqAt.canLay_of_shaped h.2.1) (SeqAt.room_of_shaped h.1 hr.units) ⟨M, H, J, h.2.2, .refl J, sr, I⟩
    · rename_i hneg
      have h0 := h
      clear hneg
      split at h
      · rename_i xs
        split at h
        · rename_i ys
          have r1' := r1
          unfold Rep at r1'
          obtain ⟨a, vs, ex, h1, h2⟩ := r1'
          exact byRef ex fun sm => eqT_refl sm hfull
        · exact h.elim
      · rename_i xs
        split at h
        · rename_i ys
          have r1' := r1
          unfold Rep at r1'
          obtain ⟨a, vs, ex, h1, h2⟩ := r1'
          exact byRef ex fun sm => eqT_refl sm hfull
        · exact h.elim
      · have r1' := r1
        unfold Rep at r1'
        obtain ⟨a, dx, vs, ex, _⟩ := r1'
        exact byRef ex h.1
      · have r1' := r1
        unfold Rep at r1'
        exact byRef r1' h.1
      · exact h.elim
end
end PyD
set_option Elab.async false
set_option linter.all false
set_option autoImplicit false
set_option maxRecDepth 100000
set_option maxHeartbeats 4000000
/-! # Comparisons over trees -/
namespace PyD
open PySem PySem.Spec L2
section
variable (G : Gam) (Γ : Nat → SpD)
/-- an int met by an own instance on the right -/
def reflT (k : Nat) (a b : D) : TD := fun ρ M K E => instX b M fun _ _ => ownD G Γ k b [a] ρ M K E
def eqC (a b : D) (K : KB) : Mst → ED → Prop := fun M E => match a with
  | .int i => (match b with
    | .int j => K (i == j) M
    | .obj c fs => reflT G Γ 18 a b [] M (fun r M' => match r with
      | .bl z => K z M'
      | _ => False) E
    | _ => eqT G Γ 6 a b K M E)
  | .str x => (match b with
    | .str y => K (x == y) M
    | _ => eqT G Γ 6 a b K M E)
  | .obj c fs => ownEqT G Γ (.obj c fs) b K M E
  | .loc p => ownEqT G Γ (.loc p) b K M E
  | _ => eqT G Γ 6 a b K M E
def neP (a b : D) (K : KB) : Mst → ED → Prop := fun M E => match toP a, toP b with
    | some p, some q => SeqAt.shaped p = true ∧ SeqAt.shaped q = true ∧ K (!PyData.eqv p q) M
    | _, _ => match a with
      | .lst xs => (match b with
        | .lst ys => if xs.length = ys.length then allT (eqT G Γ 5) xs ys (fun z M' => K (!z) M') M E else K true M
        | _ => False)
      | _ => False
def neC (a b : D) (K : KB) : Mst → ED → Prop := fun M E => match a with
  | .obj c fs => ownEqT G Γ a b (fun z M' => K (!z) M') M E
  | .loc p => ownEqT G Γ a b (fun z M' => K (!z) M') M E
  | .int i => (match b with
    | .int j => K (!(i == j)) M
    | _ => neP G Γ a b K M E)
  | .str x => (match b with
    | .str y => K (!(x == y)) M
    | _ => neP G Γ a b K M E)
  | _ => neP G Γ a b K M E
def intCmp (op : CmpOp) (i j : Int) : Option Bool := match op with
  | .Lt => some (decide (i < j))
  | .LtE => some (decide (i ≤ j))
  | .Gt => some (decide (j < i))
  | .GtE => some (decide (j ≤ i))
  | _ => none
def ordD (op : CmpOp) (a b : D) : TD := fun ρ M K E => match a with
  | .int i => (match b with
    | .int j => (match intCmp op i j with
      | some z => K (.bl z) M
      | none => False)
    | .obj c fs => reflT G Γ (cmr op) a b ρ M K E
    | _ => False)
  | .str x => (match b with
    | .str y => op = .Lt ∧ K (.bl (decide (x.cps.toList < y.cps.toList))) M
    | _ => False)
  | _ => instX a M fun c _ => sameOrSide c b M ∧ ownD G Γ (cmk op) a [b] ρ M K E
def isN : D → Option Bool
  | .non => some true
  | .loc _ => some false
  | .bl _ => some false
  | .int _ => some false
  | .str _ => some false
  | .tup _ => some false
  | .lst _ => some false
  | .dct _ => some false
  | .obj _ _ => some false
  | .cls _ => some false
  | .ty _ => some false
def isC (neg : Bool) (a b : D) (K : D → Prop) : Prop := match b with
  | .non => (match isN a with
    | some z => K (.bl (if neg then !z else z))
    | none => False)
  | _ => False
def cmpD (op : CmpOp) (a b : D) : TD := fun ρ M K E => match op with
  | .Eq => eqC G Γ a b (fun z M' => K (.bl z) M') M E
  | .NotEq => neC G Γ a b (fun z M' => K (.bl z) M') M E
  | .Lt => ordD G Γ .Lt a b ρ M K E
  | .LtE => ordD G Γ .LtE a b ρ M K E
  | .Gt => ordD G Γ .Gt a b ρ M K E
  | .GtE => ordD G Γ .GtE a b ρ M K E
  | .Is => isC false a b fun d => K d M
  | .IsNot => isC true a b fun d => K d M
  | _ => False
end
section
variable {X : Cx} {G : Gam} {B : Bs} {W : WX} {Γ : Nat → SpD} {kx : Nat}
theorem ep_of_pb {pins : List (Addr × Obj)} {σ : L2.St} {ρ : Slots} {J : Hp} {K : KB} {K1 : KD} {Q : VK} {z : Value} {s' : Shared} (ok : OkC X.K G B σ ρ J K1 Q) (k : ∀ b M', K b M' → K1 (.bl b) M') (h : ∃ b, z = .bool b ∧ PB X G B pins σ ρ J K b s') : EP X pins σ Q z s' := by
  obtain ⟨b, rfl, M', H', J', h1, h2, h3, h4⟩ := h
  exact ⟨.bl b, H', h4, rfl, ok _ _ _ _ _ (k _ _ h1) h2 h3 rep_bl⟩
/-- a bool from an own callable -/
theorem own_bool (c : Ctx X G W Γ kx) {A : Around} {k : Nat} {a b : D} {xa xb : V} {ua ub : Value} {cc : Nat} {fs : List (Nat × D)} {pins : List (Addr × Obj)} {s : Shared} {σ : L2.St} {H : Hp} {ρ ρ1 : Slots} {M : Mst} {J : Hp} {K : KB} {E1 : ED}
    (hr : Room kx A) (hg : A.guards = some []) (hf : A.frames = some X.stack)
    (I : L2.Inv X pins σ H s) (sr : SR X.K G B σ H ρ M J) (r1 : Rep X.K G J a xa) (r2 : Rep X.K G J b xb) (v1 : RelV xa ua) (v2 : RelV xb ub) (hi : instD a M = some (cc, fs)) (t : ownD G Γ k a [b] ρ1 M (fun r M' => match r with
      | .bl z => K z M'
      | _ => False) E1) (er : ErC X.K G B W σ ρ E1) :
    ∃ i, G.dn cc k = some i ∧ wpAny (model X.prog X.w) A (PySem.call (.ref (G.adr i)) [ua, ub]) (fun z s' => ∃ b, z = .bool b ∧ PB X G B pins σ ρ J K b s') X.xe s := by
  obtain ⟨i, h1, hks, t⟩ := ownD_at _ _ t hi
  · refine ⟨i, h1, thn (own_run c (Q := fun z H' => ∃ b M' J', z = .bl b ∧ K b M' ∧ Ext J J' ∧ SR X.K G B σ H' ρ M' J') hr hg hf I sr (.cons r1 (.cons r2 .nil)) (.cons v1 (.cons v2 .nil)) hks t (fun d' M' z H' J' k x' s' r' => ?_) er) fun z s' hz => ?_⟩
    · split at k
      · unfold Rep at r'
        exact ⟨_, M', J', r', k, x', s'⟩
      · exact k.elim
    · obtain ⟨z', H', I', rz, b, M', J', rfl, k, x', s''⟩ := hz
      exact ⟨b, rz, M', H', J', k, x', s'', I'⟩
theorem room_eq (c : Ctx X G W Γ kx) : Room (kx + 6) X.A := c.room
theorem dunder_cm (o : GOps X.K G) {op : CmpOp} (h : cmk op < 19) : G.nm (cmk op) = (cmpInfo op).2.1 := by
  have h1 := o.dund (cmk op) (Nat.lt_of_lt_of_le h (by decide))
  rw [h1]
  cases op <;> first | rfl | (exfalso; revert h; decide)
theorem dunder_cr (o : GOps X.K G) {op : CmpOp} (h : cmr op < 19) : G.nm (cmr op) = (cmpInfo op).2.2 := by
  have h1 := o.dund (cmr op) (Nat.lt_of_lt_of_le h (by decide))
  rw [h1]
  cases op <;> first | rfl | (exfalso; revert h; decide)
/-- an int compared with an own instance -/
theorem refl_cmp (c : Ctx X G W Γ kx) {op : CmpOp} {cc j : Nat} {a : Addr} {n : Int} {tk : Tok} {pins : List (Addr × Obj)} {s : Shared} {σ : L2.St} {H : Hp} {dx : Addr} {vfs : List (Str × V)} {Q : Value → Shared → Prop} (I : L2.Inv X pins σ H s) (ha : H a = some (.ins (G.cl cc) dx vfs))
    (hop : op = .Eq ∨ op = .Lt ∨ op = .LtE ∨ op = .Gt ∨ op = .GtE) (h1 : G.dn cc (cmr op) = some j)
    (h : wpAny (model X.prog X.w) X.A (PySem.call (.ref (G.adr j)) [.ref a, .int n tk]) (PySem.W.CmpBack Q) X.xe s) : wpAny (model X.prog X.w) X.A (richCompare op (.int n tk) (.ref a)) Q X.xe s := by
  have hk : cmr op < 19 := by rcases hop with rfl | rfl | rfl | rfl | rfl <;> decide
  have e1 := dunder_cr c.ops hk
  obtain ⟨_, ⟨m11, m12, m13⟩, sf⟩ := c.ops.ok.dn _ _ _ h1
  obtain ⟨od, J⟩ := inst_at I ha
  obtain ⟨mf, Fr⟩ := I.fr
  rw [e1] at m11
  have X0 := I.mod.kin.keeps Fr.keep
  have sb := c.ops.subI _ _ _ h1 hk
  rcases hop with rfl | rfl | rfl | rfl | rfl
  · exact own_cmp_refl c.room.units0 X0 J m11 m12 sb F.slot_int_eq (fun Q' q => call_meets F.slot_int_eq (typeIs_int s n tk) F.entry_int_eq (F.args_int_eq_2 _ _) (declines_eq n tk) ⟨J.at_, q⟩) rfl h
  · exact own_cmp_refl c.room.units0 X0 J m11 m12 sb F.slot_int_lt (fun Q' q => call_meets F.slot_int_lt (typeIs_int s n tk) F.entry_int_lt (F.args_int_lt_2 _ _) (declines_lt n tk) ⟨J.at_, q⟩) rfl h
  · exact own_cmp_refl c.room.units0 X0 J m11 m12 sb F.slot_int_le (fun Q' q => call_meets F.slot_int_le (typeIs_int s n tk) F.entry_int_le (F.args_int_le_2 _ _) (declines_le n tk) ⟨J.at_, q⟩) rfl h
  · exact own_cmp_refl c.room.units0 X0 J m11 m12 sb F.slot_int_gt (fun Q' q => call_meets F.slot_int_gt (typeIs_int s n tk) F.entry_int_gt (F.args_int_gt_2 _ _) (declines_gt n tk) ⟨J.at_, q⟩) rfl h
  · exact own_cmp_refl c.room.units0 X0 J m11 m12 sb F.slot_int_ge (fun Q' q => call_meets F.slot_int_ge (typeIs_int s n tk) F.entry_int_ge (F.args_int_ge_2 _ _) (declines_ge n tk) ⟨J.at_, q⟩) rfl h
theorem op2_eq (c : Ctx X G W Γ kx) : Op2 X G B W (compareOp .Eq) (fun a b ρ M K E => eqC G Γ a b (fun z M' => K (.bl z) M') M E) := by
  rintro pins s σ H Q x y v u I rx ry ⟨ρ, M, J, K1, E1, d, e, sr, r1, r2, t, ok, er⟩
  have byT : eqT G Γ 6 d e (fun z M' => K1 (.bl z) M') M E1 → wpAny (model X.prog X.w) X.A (compareOp .Eq v u) (EP X pins σ Q) X.xe s := fun t =>
    thn ((eqT_ok c 6).1 (room_eq c) c.guards I.ok.frames I sr r1 r2 rx ry t er) fun z s' h => ep_of_pb ok (fun _ _ k => k) h
  have byO : ownEqT G Γ d e (fun z M' => K1 (.bl z) M') M E1 → wpAny (model X.prog X.w) X.A (compareOp .Eq v u) (EP X pins σ Q) X.xe s := fun t =>
    thn (own_eq_ok c (c.room.mono (by omega)) c.guards I.ok.frames I sr r1 r2 rx ry t er) fun z s' h => ep_of_pb ok (fun _ _ k => k) h
  unfold eqC at t
  split at t
  · rename_i i
    split at t
    · rename_i j
      unfold Rep at r1 r2
      subst r1 r2
      refine op_eq pins s σ H _ _ _ _ Q I rx ry ⟨rfl, ?_⟩
      rw [dec_int]
      exact fin_ok sr ok rep_bl t
    · rename_i cc fs
      unfold reflT at t
      unfold Rep at r1
      subst r1
      obtain ⟨tk, rfl⟩ := rx
      have r2' := r2
      unfold Rep at r2'
      obtain ⟨a, dx, vfs, rfl, ha, _⟩ := r2'
      obtain rfl : u = Value.ref a := ry
      obtain ⟨j, h2, run⟩ := own_bool c (ρ1 := []) (c.room.mono (by omega)) c.guards I.ok.frames I sr r2 rep_int rfl ⟨tk, rfl⟩ (rfl : instD (.obj cc fs) M = some (cc, fs)) t er
      exact refl_cmp c (op := .Eq) I (sr.good.sub.ins ha) (.inl rfl) h2 (thn run fun z s' h => by
        have := ep_of_pb ok (fun _ _ k => k) h
        obtain ⟨b, rfl, _⟩ := h
        exact this)
    · exact byT t
  · rename_i p
    split at t
    · rename_i q
      unfold Rep at r1 r2
      subst r1 r2
      refine op_eq pins s σ H _ _ _ _ Q I rx ry ⟨rfl, ?_⟩
      rw [dec_str]
      exact fin_ok sr ok rep_bl t
    · exact byT t
  · exact byO t
  · exact byO t
  · exact byT t
theorem op2_ord (c : Ctx X G W Γ kx) {op : CmpOp} (hop : op = .Lt ∨ op = .LtE ∨ op = .Gt ∨ op = .GtE) : Op2 X G B W (compareOp op) (ordD G Γ op) := by
  rintro pins s σ H Q x y v u I rx ry ⟨ρ, M, J, K1, E1, d, e, sr, r1, r2, t, ok, er⟩
  have hk : cmk op < 19 := by rcases hop with rfl | rfl | rfl | rfl <;> decide
  have hco : ∀ a b : Value, compareOp op a b = richCompare op a b := by rcases hop with rfl | rfl | rfl | rfl <;> exact fun _ _ => rfl
  have byI : (instX d M fun c _ => sameOrSide c e M ∧ ownD G Γ (cmk op) d [e] ρ M K1 E1) → wpAny (model X.prog X.w) X.A (compareOp op v u) (EP X pins σ Q) X.xe s := by
    intro t
    obtain ⟨cc, fs, hi, hs, t⟩ := instX_ok t
    · skip
      obtain ⟨i, h1, run⟩ := own_of c I sr r1 r2 rx ry hi t ok er
      obtain ⟨a, dx, vfs, rfl, ha, _⟩ := instD_ok sr.good r1 hi
      obtain rfl : v = Value.ref a := rx
      obtain ⟨tb, l1, l2⟩ := notFirst_of c I sr.good h1 hk hs r2 ry
      obtain ⟨_, ⟨m11, m12, m13⟩, sf⟩ := c.ops.ok.dn _ _ _ h1
      obtain ⟨od, J1⟩ := inst_at I ha
      obtain ⟨mf, F⟩ := I.fr
      rw [dunder_cm c.ops hk] at m11
      rw [hco]
      exact PySem.W.cmp_K c.room.units0 F I.mod.kin J1 l1 l2 m11 m12 run
  unfold ordD at t
  split at t
  · rename_i i
    split at t
    · rename_i j
      unfold Rep at r1 r2
      subst r1 r2
      rcases hop with rfl | rfl | rfl | rfl
      · exact op_lt pins s σ H _ _ _ _ Q I rx ry ⟨i, j, rfl, rfl, fin_ok sr ok rep_bl t⟩
      · exact op_le pins s σ H _ _ _ _ Q I rx ry ⟨i, j, rfl, rfl, fin_ok sr ok rep_bl t⟩
      · exact op_gt pins s σ H _ _ _ _ Q I rx ry ⟨i, j, rfl, rfl, fin_ok sr ok rep_bl t⟩
      · exact op_ge pins s σ H _ _ _ _ Q I rx ry ⟨i, j, rfl, rfl, fin_ok sr ok rep_bl t⟩
    · rename_i cc fs
      unfold reflT at t
      unfold Rep at r1
      subst r1
      obtain ⟨tk, rfl⟩ := rx
      have r2' := r2
      unfold Rep at r2'
      obtain ⟨a, dx, vfs, rfl, ha, _⟩ := r2'
      obtain rfl : u = Value.ref a := ry
      obtain ⟨j, h2, run⟩ := own_of c I sr r2 rep_int rfl ⟨tk, rfl⟩ (rfl : instD (.obj cc fs) M = some (cc, fs)) t ok er
      rw [hco]
      exact refl_cmp c I (sr.good.sub.ins ha) (.inr hop) h2 run
    · exact t.elim
  · rename_i p
    split at t
    · rename_i q
      obtain ⟨rfl, t⟩ := t
      unfold Rep at r1 r2
      subst r1 r2
      exact op_lt_str pins s σ H _ _ _ _ Q I rx ry ⟨p, q, rfl, rfl, fin_ok sr ok rep_bl t⟩
    · exact t.elim
  · exact byI t
/-- != of two lists, item by item -/
theorem ne_lists (c : Ctx X G W Γ kx) {xs ys : List D} {a b : Addr} {vs ws : List V} {pins : List (Addr × Obj)} {s : Shared} {σ : L2.St} {H : Hp} {ρ : Slots} {M : Mst} {J : Hp} {K : KB} {E1 : ED} (I : L2.Inv X pins σ H s) (sr : SR X.K G B σ H ρ M J)
    (h1 : SqL X.K J a vs) (h2 : Reps X.K G J xs vs) (h3 : SqL X.K J b ws) (h4 : Reps X.K G J ys ws) (h : if xs.length = ys.length then allT (eqT G Γ 5) xs ys (fun z M' => K (!z) M') M E1 else K true M) (er : ErC X.K G B W σ ρ E1) :
    wpAny (model X.prog X.w) X.A (richCompare .NotEq (.ref a) (.ref b)) (fun z s' => ∃ b, z = .bool b ∧ PB X G B pins σ ρ J K b s') X.xe s := by
  have hr : Room (kx + 6) X.A := c.room
  obtain ⟨i1, q1, l1⟩ := lst_at I (sr.good.sub.sql h1)
  obtain ⟨i2, q2, l2⟩ := lst_at I (sr.good.sub.sql h3)
  obtain ⟨n1, t1, e1, z1⟩ := id l1
  obtain ⟨n2, t2, e2, z2⟩ := id l2
  refine wpAny_richCompare_same_room (op := .NotEq) ⟨_, e1, rfl⟩ ⟨_, e2, rfl⟩ F.slot_list_ne (GQ.call_here F.slot_list_ne ⟨_, e1, rfl⟩ F.entry_list_ne (F.args_list_ne_2 _ _) ?_) hr.units0
  split at h
  · rename_i hlen
    refine body_ne (R := wants (fun v s' => v ≠ .notImplemented ∧ ∃ b, v = .bool b ∧ PB X G B pins σ ρ J K b s') X.xe) a b vs.length
      (fun i s' => ∃ M' H' J', Ext J J' ∧ SR X.K G B σ H' ρ M' J' ∧ L2.Inv X pins σ H' s' ∧ allT (eqT G Γ 5) (xs.drop i) (ys.drop i) (fun z M' => K (!z) M') M' E1)
      (fun s' => PB X G B pins σ ρ J K true s') ⟨?_, ?_⟩ ?_ (fun s' q => ⟨(fun z => nomatch z), true, rfl, q⟩) ⟨M, H, J, .refl J, sr, I, by simpa using h⟩
    · rintro i s1 ⟨M1, H1, J1, x1, sr1, I1, t⟩
      obtain ⟨j1, p1, m1⟩ := lst_at I1 (sr1.good.sub.sql (x1.sql h1))
      obtain ⟨j2, p2, m2⟩ := lst_at I1 (sr1.good.sub.sql (x1.sql h3))
      refine ⟨_, _, m1, by rw [h2.length, hlen, ← h4.length]; exact m2, fun g1 g2 => ?_⟩
      obtain ⟨xi, k1, k2⟩ := vals_at p1 g1
      obtain ⟨yi, k3, k4⟩ := vals_at p2 g2
      obtain ⟨di, k5, k6⟩ := (h2.ext x1).get' k1
      obtain ⟨ei, k7, k8⟩ := (h4.ext x1).get' k3
      refine thn ((eqT_ok c 5).2 (hr.in1 : Room (kx + 5) X.A.in1) c.guards I.ok.frames I1 sr1 k6 k8 k2 k4 (allT_at k5 k7 t) er) fun r s2 hq => ?_
      obtain ⟨M2, H2, J2, z1, z2, z3, z4⟩ := hq
      cases r with
      | true => exact ⟨M2, H2, J2, x1.trans z2, z3, z4, z1⟩
      | false => exact ⟨M2, H2, J2, z1, x1.trans z2, z3, z4⟩
    · rintro s1 ⟨M1, H1, J1, _, x1, sr1, I1⟩
      obtain ⟨j1, p1, m1⟩ := lst_at I1 (sr1.good.sub.sql (x1.sql h1))
      obtain ⟨j2, p2, m2⟩ := lst_at I1 (sr1.good.sub.sql (x1.sql h3))
      exact ⟨_, _, m1, by rw [h2.length, hlen, ← h4.length]; exact m2⟩
    · rintro s1 ⟨M1, H1, J1, x1, sr1, I1, t⟩
      exact ⟨(fun z => nomatch z), false, rfl, M1, H1, J1, allT_end (by rw [← h2.length]; exact Nat.le_refl _) t, x1, sr1, I1⟩
  · rename_i hlen
    exact lens_ne (R := wants (fun v s' => v ≠ .notImplemented ∧ ∃ b, v = .bool b ∧ PB X G B pins σ ρ J K b s') X.xe) l1 l2 (by rw [h2.length, h4.length]; exact hlen) ⟨(fun z => nomatch z), true, rfl, M, H, J, h, .refl J, sr, I⟩
theorem op2_ne (c : Ctx X G W Γ kx) : Op2 X G B W (compareOp .NotEq) (fun a b ρ M K E => neC G Γ a b (fun z M' => K (.bl z) M') M E) := by
  rintro pins s σ H Q x y v u I rx ry ⟨ρ, M, J, K1, E1, d, e, sr, r1, r2, t, ok, er⟩
  have byI : ownEqT G Γ d e (fun z M' => K1 (.bl (!z)) M') M E1 → wpAny (model X.prog X.w) X.A (compareOp .NotEq v u) (EP X pins σ Q) X.xe s := by
    intro t
    unfold ownEqT at t
    obtain ⟨cc, fs, hi, hs, t⟩ := instX_ok t
    · skip
      obtain ⟨i, h1, run⟩ := own_bool c (A := X.A.in1) ((c.room.mono (by omega) : Room (kx + 1) X.A).in1) c.guards I.ok.frames I sr r1 r2 rx ry hi t er
      obtain ⟨a, dx, vfs, rfl, ha, _⟩ := instD_ok sr.good r1 hi
      obtain rfl : v = Value.ref a := rx
      obtain ⟨tb, l1, l2⟩ := notFirst_of c I sr.good h1 (by decide) hs r2 ry
      obtain ⟨_, ⟨m11, m12, m13⟩, sf⟩ := c.ops.ok.dn _ _ _ h1
      obtain ⟨n1, n2⟩ := c.ops.ne _ _ h1
      obtain ⟨od, J1⟩ := inst_at I ha
      obtain ⟨mf, Fr⟩ := I.fr
      rw [show G.nm 18 = "__eq__" from c.ops.dund 18 (by decide)] at m11
      refine own_ne (by have := c.room.units; omega) (I.mod.kin.keeps Fr.keep) J1 l1 l2 m11 m12 n1 n2 (thn run fun z s' h => ?_)
      obtain ⟨b, rfl, h⟩ := h
      refine ⟨b, rfl, ?_⟩
      obtain ⟨M', H', J', h1, h2, h3, h4⟩ := h
      exact ⟨.bl (!b), H', h4, rfl, ok _ _ _ _ _ h1 h2 h3 rep_bl⟩
  have byP : neP G Γ d e (fun z M' => K1 (.bl z) M') M E1 → wpAny (model X.prog X.w) X.A (compareOp .NotEq v u) (EP X pins σ Q) X.xe s := by
    intro t
    unfold neP at t
    split at t
    · rename_i p q hp hq
      exact op_neD (by have := c.room.units; omega) pins s σ H _ _ _ _ Q I rx ry ⟨p, q, dp_of sr.good.sub hp r1, dp_of sr.good.sub hq r2, t.1, t.2.1, fin_ok sr ok rep_bl t.2.2⟩
    · rename_i hneg
      clear hneg
      split at t
      · rename_i xs
        split at t
        · rename_i ys
          unfold Rep at r1 r2
          obtain ⟨a, vs, rfl, h1, h2⟩ := r1
          obtain ⟨b, ws, rfl, h3, h4⟩ := r2
          obtain rfl : v = Value.ref a := rx
          obtain rfl : u = Value.ref b := ry
          exact thn (ne_lists c I sr h1 h2 h3 h4 t er) fun z s' h => ep_of_pb ok (fun _ _ k => k) h
        · exact t.elim
      · exact t.elim
  unfold neC at t
  split at t
  · exact byI t
  · exact byI t
  · rename_i i
    split at t
    · rename_i j
      unfold Rep at r1 r2
      subst r1 r2
      refine op_ne pins s σ H _ _ _ _ Q I rx ry ⟨rfl, ?_⟩
      rw [dec_int]
      exact fin_ok sr ok rep_bl t
    · exact byP t
  · rename_i i
    split at t
    · rename_i j
      unfold Rep at r1 r2
      subst r1 r2
      refine op_ne pins s σ H _ _ _ _ Q I rx ry ⟨rfl, ?_⟩
      rw [dec_str]
      exact fin_ok sr ok rep_bl t
    · exact byP t
  · exact byP t
theorem isN_ok {I : Hp} {d : D} {v : V} {z : Bool} (r : Rep X.K G I d v) (h : isN d = some z) : decide (v = .non) = z := by
  cases d <;> cases h <;> unfold Rep at r <;> first | (subst r; rfl) | (obtain ⟨a, vs, rfl, _⟩ := r; rfl) | (obtain ⟨a, dx, vs, rfl, _⟩ := r; rfl) | (subst r; simp)
theorem op2_is (neg : Bool) : Op2 X G B W (compareOp (if neg then .IsNot else .Is)) (fun a b _ M K _ => isC neg a b fun d => K d M) := by
  rintro pins s σ H Q x y v u I rx ry ⟨ρ, M, J, K1, E1, d, e, sr, r1, r2, t, ok, er⟩
  unfold isC at t
  split at t
  · split at t
    · rename_i z hz
      have hz' := isN_ok r1 hz
      unfold Rep at r2
      subst r2
      cases neg with
      | true => exact op_notN pins s σ H _ _ _ _ Q I rx ry ⟨rfl, by rw [hz']; exact fin_ok sr ok rep_bl t⟩
      | false => exact op_isN pins s σ H _ _ _ _ Q I rx ry ⟨rfl, by rw [hz']; exact fin_ok sr ok rep_bl t⟩
    · exact t.elim
  · exact t.elim
theorem op2_cmp (c : Ctx X G W Γ kx) (op : CmpOp) : Op2 X G B W (compareOp op) (cmpD G Γ op) := by
  cases op
  all_goals first
    | exact op2_eq c
    | exact op2_ne c
    | exact op2_ord c (.inl rfl)
    | exact op2_ord c (.inr (.inl rfl))
    | exact op2_ord c (.inr (.inr (.inl rfl)))
    | exact op2_ord c (.inr (.inr (.inr rfl)))
    | exact op2_is false
    | exact op2_is true
    | exact fun pins s σ H Q x y v u I rx ry ⟨ρ, M, J, K1, E1, d, e, sr, r1, r2, t, ok, er⟩ => t.elim
end
end PyD
set_option Elab.async false
set_option linter.all false
set_option autoImplicit false
set_option maxRecDepth 100000
set_option maxHeartbeats 4000000
/-! # Shapes of expressions; calls -/
namespace PyD
open PySem PySem.Spec L2

/-! ## shapes -/
def noStar : Expr → Bool
  | .Starred _ _ => false
  | _ => true
def plainBase : Expr → Bool
  | .Call (.Name id _) [] [] _ => id != ("super" : Str)
  | _ => true
def noSlice : Expr → Bool
  | .Slice _ _ _ _ => false
  | _ => true
def noCompr : Expr → Bool
  | .ListComp _ _ _ _ => false
  | .SetComp _ _ _ _ => false
  | .DictComp _ _ _ _ _ => false
  | _ => true
def noSet : Expr → Bool
  | .Set _ _ _ => false
  | _ => true
def testPlain : Expr → Bool
  | .UnaryOp .Not _ _ => false
  | .BoolOp _ _ _ => false
  | .IfExp _ _ _ _ => false
  | .Compare _ _ _ _ => false
  | _ => true
theorem star_cons {e : Expr} {es : List Expr} {env : Env} (h : noStar e = true) : starEach (e :: es) env = (false, eval e env) :: starEach es env := by
  cases e <;> first | rfl | cases h
theorem star_any {env : Env} {pos : Pos} : ∀ {es : List Expr}, es.all noStar = true → (backTo pos (starEach es env)).any (·.1) = false
  | [], _ => rfl
  | e :: es, h => by
    rw [List.all_cons, Bool.and_eq_true] at h
    rw [star_cons h.1]
    have := star_any (env := env) (pos := pos) h.2
    simp only [backTo, List.map_cons, List.any_cons, Bool.false_or] at this ⊢
    exact this
theorem star_all {env : Env} {pos : Pos} : ∀ {es : List Expr}, es.all noStar = true → (backTo pos (starEach es env)).all (fun x => !x.1) = true
  | [], _ => rfl
  | e :: es, h => by
    rw [List.all_cons, Bool.and_eq_true] at h
    rw [star_cons h.1]
    have := star_all (env := env) (pos := pos) h.2
    simp only [backTo, List.map_cons, List.all_cons, Bool.not_false, Bool.true_and] at this ⊢
    exact this
/-- the keywords' names -/
def kwNames (kws : List Keyword) : List Str := kws.filterMap fun k => k.arg
def kwNamed (kws : List Keyword) : Bool := kws.all fun k => k.arg.isSome
theorem kw_cons {k : Keyword} {kws : List Keyword} {env : Env} {pos : Pos} : backToKw pos (keywordEach (k :: kws) env) = (k.arg, do let v ← eval k.value env; standAt pos; pure v) :: backToKw pos (keywordEach kws env) := by
  obtain ⟨a, v, p⟩ := k
  rfl
theorem kw_all {env : Env} {pos : Pos} : ∀ {kws : List Keyword}, kwNamed kws = true → (backToKw pos (keywordEach kws env)).all (·.1.isSome) = true
  | [], _ => rfl
  | k :: kws, h => by
    unfold kwNamed at h
    rw [List.all_cons, Bool.and_eq_true] at h
    rw [kw_cons, List.all_cons, Bool.and_eq_true]
    exact ⟨h.1, kw_all h.2⟩
theorem kw_any {env : Env} {pos : Pos} : ∀ {kws : List Keyword}, kwNamed kws = true → (backToKw pos (keywordEach kws env)).any (·.1.isNone) = false
  | [], _ => rfl
  | k :: kws, h => by
    unfold kwNamed at h
    rw [List.all_cons, Bool.and_eq_true] at h
    rw [kw_cons, List.any_cons, Bool.or_eq_false_iff]
    exact ⟨by simpa using h.1, kw_any h.2⟩
theorem kw_names {env : Env} {pos : Pos} : ∀ {kws : List Keyword}, (backToKw pos (keywordEach kws env)).filterMap (·.1) = kwNames kws
  | [] => rfl
  | k :: kws => by
    rw [kw_cons]
    unfold kwNames
    rw [List.filterMap_cons, List.filterMap_cons, kw_names]
    cases k.arg <;> rfl
theorem kw_len {env : Env} {pos : Pos} : ∀ {kws : List Keyword}, (backToKw pos (keywordEach kws env)).length = kws.length
  | [] => rfl
  | k :: kws => by rw [kw_cons, List.length_cons, List.length_cons, kw_len]
theorem base_of {o : Expr} {f : Str} {env : Env} {w : Sem Value} (h : plainBase o = true) : attributeBase o f env w = w := by
  unfold attributeBase
  split
  · unfold plainBase at h
    dsimp only at h
    rw [h]
    rfl
  · rfl
theorem ix_of {b : Expr} (h : noSlice b = true) : PlainIx b := fun o i => by
  cases b <;> first | rfl | cases h
theorem swaps_of {e : Expr} {t : Option Expr} {l : Nat} {env : Env} (h : noCompr e = true) : swapsWith e t l env = pure false := by
  cases e <;> first | rfl | cases h
theorem marks_of {op : CmpOp} {b : Expr} (h : noSet b = true) : behindInMarks op b = false := by
  cases b <;> first | rfl | cases h
theorem folds_of {e : Expr} {env : Env} (h : noSet e = true) (x : Value) : foldedSetIterable e env x = pure x := by
  cases e <;> first | rfl | cases h
theorem test_of {e : Expr} {env : Env} (h : testPlain e = true) (whole : Sem Value) : isTrue e env whole = (do let v ← whole; standAt e.pos; holding [v] (truthy v)) := by
  cases e <;> first | rfl | skip
  · cases h
  · rename_i op _ _
    cases op <;> first | rfl | cases h
  · cases h
  · cases h
/-- a method's call, as the evaluator takes it -/
def methShape (o : Expr) (apos pos : Pos) (es : List Expr) (kws : List Keyword) : Bool :=
  plainBase o && es.all noStar && kwNamed kws && decide (es.length + kws.length + 1 < 30) && (apos.endLine == pos.line)
theorem meth_shape {o : Expr} {m : Str} {apos pos : Pos} {es : List Expr} {kws : List Keyword} {env : Env} (h : methShape o apos pos es kws = true) :
    eval (.Call (.Attribute o m apos) es kws pos) env = (do
      let ov ← eval o env
      standAt apos.atName
      let (f, first) ← holding [ov] (getMethod ov m (do return (← importBound o env).getD true))
      callWith pos f first (backTo pos (starEach es env)) (backToKw pos (keywordEach kws env))) := by
  unfold methShape at h
  simp only [Bool.and_eq_true, decide_eq_true_eq] at h
  obtain ⟨⟨⟨⟨h1, h2⟩, h3⟩, h4⟩, h5⟩ := h
  rw [arm_eval_Call, base_of h1]
  have hf : methodCallForm (es.length + kws.length) (backTo pos (starEach es env)) (backToKw pos (keywordEach kws env)) = true := by
    unfold methodCallForm
    rw [star_all h2, kw_all h3]
    have : es.length + kws.length + (if (backToKw pos (keywordEach kws env)).isEmpty = true then 0 else 1) < 30 := by split <;> omega
    simp only [Bool.true_and, decide_eq_true_eq]
    exact this
  have hp : methodCallPos true o env apos pos = pure pos := by
    unfold methodCallPos
    rw [h5]
    rfl
  unfold methodCall
  rw [hf, hp]
  rfl
/-! ## calls -/
section
variable {M : Model} {A : Around} {E : Value → Shared → Prop} {s : Shared} {K : PySem.W.Frag} {env : Env} {pos : Pos} {f : Value} {first : List Value} {Q : Value → Shared → Prop}
theorem wpAny_join {α β : Type} {a : α} {t : α → Sem β} {Q : β → Shared → Prop} (h : wpAny M A (pure a) (fun v s' => wpAny M A (t v) Q E s') E s) : wpAny M A (t a) Q E s := fun Γ p hi => h Γ p hi Γ p hi
theorem back_nil : backTo pos (starEach [] env) = [] := rfl
/-- arguments, then keywords -/
theorem callWith_any {h₀ : Heap} {es : List Expr} {kws : List Keyword} (X0 : K.In h₀) (hk : PySem.W.keepIn K f = true) (h1 : es.all noStar = true) (h2 : kwNamed kws = true)
    (h : wpAny M A (spliced (backTo pos (starEach es env))) (fun vs s₁ => wpAny M A (evalAll ((backToKw pos (keywordEach kws env)).map (·.2)))
      (fun ks s₂ => K.In s₂.heap ∧ wpAny M A (PySem.call f (first ++ vs) ((kwNames kws).zip ks)) Q E s₂) E s₁) E s) :
    wpAny M A (callWith pos f first (backTo pos (starEach es env)) (backToKw pos (keywordEach kws env))) Q E s := by
  rw [← kw_names (env := env) (pos := pos)] at h
  have hpl : ((backTo pos (starEach es env)).any (·.1) || (backToKw pos (keywordEach kws env)).any (·.1.isNone)) = false := by rw [star_any h1, kw_any h2]; rfl
  cases es with
  | cons e rest =>
    rw [List.all_cons, Bool.and_eq_true] at h1
    exact PySem.W.callWith_KW X0 hk (kw_all h2) h hpl (star_cons h1.1)
  | nil =>
    refine PySem.W.callWith_KW0 X0 hk (kw_all h2) ?_ hpl
    have : wpAny M A (pure ([] : List Value)) (fun vs s₁ => wpAny M A (evalAll ((backToKw pos (keywordEach kws env)).map (·.2)))
      (fun ks s₂ => K.In s₂.heap ∧ wpAny M A (PySem.call f (first ++ vs) (((backToKw pos (keywordEach kws env)).filterMap (·.1)).zip ks)) Q E s₂) E s₁) E s := h
    exact fun Γ p hi => this Γ p hi Γ p hi
end
/-- args, then keywords -/
def argsD (ta tk : TDs) (f : List D → TD) : TD := fun ρ M K E => ta ρ M (fun ds M1 => tk ρ M1 (fun ws M2 => f (ds ++ ws) ρ M2 K E) E) E
structure PKd (X : Cx) (G : Gam) (B : Bs) (W : WX) (kws : List Keyword) (t : TDs) : Prop where
  run : ∀ (pos : Pos) (pins : List (Addr × Obj)) (s : Shared) (σ : L2.St) (H : Hp) (Q : List V → Hp → Prop), L2.Inv X pins σ H s → TAx X.K G B W t σ H Q →
    wpAny (model X.prog X.w) X.A (evalAll ((backToKw pos (keywordEach kws X.env)).map (·.2))) (fun us s' => us.length = kws.length ∧ AP X pins σ Q us s') X.xe s
section
variable {X : Cx} {G : Gam} {B : Bs} {W : WX} {Γ : Nat → SpD} {kx : Nat}
theorem pkd_nil : PKd X G B W [] nilD := by
  refine ⟨fun pos pins s σ H Q I h => wpAny_evalAll_nil ?_⟩
  obtain ⟨ρ, M, J, K1, E1, sr, t, ok, er⟩ := h
  exact ⟨rfl, [], H, I, .nil, ok [] M [] H J t (.refl J) sr .nil⟩
theorem pkd_cons {nm : Option Str} {e : Expr} {kpos : Pos} {kws : List Keyword} {te : TD} {t : TDs} (ha : PE X e (TEx X.K G B W te)) (hr : PKd X G B W kws t) : PKd X G B W (⟨nm, e, kpos⟩ :: kws) (consD te t) := by
  refine ⟨fun pos pins s σ H Q I h => ?_⟩
  obtain ⟨ρ, M, J, K1, E1, sr, q, ok, er⟩ := h
  show wpAny _ _ (evalAll ((do let v ← eval e X.env; standAt pos; pure v) :: (backToKw pos (keywordEach kws X.env)).map (·.2))) _ _ s
  refine wpAny_evalAll_cons (wpAny_bind (thn (ha.run pins s σ H (fun x H1 => TAx X.K G B W t σ H1 fun xs H2 => Q (x :: xs) H2) I ?_) fun u s1 ⟨x, H1, I1, r1, q1⟩ => wpAny_bind (wpAny_standAt (wpAny_pure ?_))))
  · exact ⟨ρ, M, J, _, E1, sr, q, fun d M' v H' I' k e s' r => ⟨ρ, M', I', _, E1, s', k, fun ds M2 vs H2 I2 k2 e2 s2 r2 => ok _ _ _ _ _ k2 (e.trans e2) s2 (.cons (r.ext e2) r2), er⟩, er⟩
  · exact thn (hr.run pos pins s1 σ H1 _ I1 q1) fun us s2 ⟨hl, xs, H2, I2, r2, q2⟩ => ⟨by rw [List.length_cons, List.length_cons, hl], x :: xs, H2, I2, .cons r1 r2, q2⟩
theorem named_len : ∀ {kws : List Keyword}, kwNamed kws = true → (kwNames kws).length = kws.length
  | [], _ => rfl
  | k :: kws, h => by
    unfold kwNamed at h
    rw [List.all_cons, Bool.and_eq_true] at h
    obtain ⟨x, e⟩ := Option.isSome_iff_exists.mp h.1
    unfold kwNames
    rw [List.filterMap_cons, e]
    show (x :: kwNames kws).length = (k :: kws).length
    rw [List.length_cons, List.length_cons, named_len h.2]
/-- arguments and keywords are laid, then a call -/
theorem call_args {es : List Expr} {kws : List Keyword} {ta tk : TDs} {f : List D → TD} {fv : Value} {first : List Value} {pos : Pos} {pins : List (Addr × Obj)} {s : Shared} {σ : L2.St} {H : Hp} {Q : VK} {ρ : Slots} {M : Mst} {J : Hp} {K1 : KD} {E1 : ED}
    (I : L2.Inv X pins σ H s) (sr : SR X.K G B σ H ρ M J) (ha : PA X es (TAx X.K G B W ta)) (hk : PKd X G B W kws tk) (kp : PySem.W.keepIn X.K fv = true) (h1 : es.all noStar = true) (h2 : kwNamed kws = true)
    (t : argsD ta tk f ρ M K1 E1) (ok : OkC X.K G B σ ρ J K1 Q) (er : ErC X.K G B W σ ρ E1)
    (go : ∀ us ws vs ds s2 H2 M2 J2, ws.length = (kwNames kws).length → L2.Inv X pins σ H2 s2 → Ext J J2 → SR X.K G B σ H2 ρ M2 J2 → Vals vs (us ++ ws) → Reps X.K G J2 ds vs → f ds ρ M2 K1 E1 →
      wpAny (model X.prog X.w) X.A (PySem.call fv (first ++ us) ((kwNames kws).zip ws)) (EP X pins σ Q) X.xe s2) :
    wpAny (model X.prog X.w) X.A (callWith pos fv first (backTo pos (starEach es X.env)) (backToKw pos (keywordEach kws X.env))) (EP X pins σ Q) X.xe s := by
  refine callWith_any (h₀ := X.base) I.ok.mod.kin kp h1 h2 ?_
  refine thn (ha.run pos pins s σ H (fun xs H1 => ∃ M1 J1 ds, Ext J J1 ∧ SR X.K G B σ H1 ρ M1 J1 ∧ Reps X.K G J1 ds xs ∧ tk ρ M1 (fun ws M2 => f (ds ++ ws) ρ M2 K1 E1) E1) I ⟨ρ, M, J, _, E1, sr, t, fun ds M' vs H' I' k e s' r => ⟨M', I', ds, e, s', r, k⟩, er⟩) fun us s1 ⟨xs, H1, I1, r1, M1, J1, ds, e1, sr1, q1, t1⟩ => ?_
  refine thn (hk.run pos pins s1 σ H1 (fun ys H2 => ∃ M2 J2 es, Ext J1 J2 ∧ SR X.K G B σ H2 ρ M2 J2 ∧ Reps X.K G J2 es ys ∧ f (ds ++ es) ρ M2 K1 E1) I1 ⟨ρ, M1, J1, _, E1, sr1, t1, fun es M' vs H' I' k e s' r => ⟨M', I', es, e, s', r, k⟩, er⟩) fun ws s2 ⟨hl, ys, H2, I2, r2, M2, J2, es, e2, sr2, q2, t2⟩ => ⟨I2.kIn, ?_⟩
  exact go us ws (xs ++ ys) (ds ++ es) s2 H2 M2 J2 (by rw [named_len h2]; exact hl) I2 (e1.trans e2) sr2 (r1.append r2) ((q1.ext e2).append q2) t2
/-- f(..), f a global def or class -/
theorem pd_call (c : Ctx X G W Γ kx) {i : Nat} {x : Str} {p pos : Pos} {es : List Expr} {kws : List Keyword} {ta tk : TDs} (hn : G.gn i = some x) (hg : Gl X x) (hks : G.ks i = kwNames kws) (ha : PA X es (TAx X.K G B W ta)) (hk : PKd X G B W kws tk)
    (h1 : es.all noStar = true) (h2 : kwNamed kws = true) : PE X (.Call (.Name x p) es kws pos) (TEx X.K G B W (argsD ta tk fun ds => spT (Γ i) ds)) := by
  obtain ⟨hm, kp, hd⟩ := c.gg.gn _ _ hn
  refine ⟨fun pins s σ H Q I h => wpAny_Call_Name_kw (ld_glob I hg hm ?_ hd)⟩
  obtain ⟨ρ, M, J, K1, E1, sr, t, ok, er⟩ := h
  refine call_args I sr ha hk kp h1 h2 t ok er fun us ws vs ds s2 H2 M2 J2 hl I2 x2 sr2 rv rs q => ?_
  have F := c.calls i _ _ _ _ q
  rw [← hks]
  exact F.call (c.room.mono (by omega)) c.guards I.ok.frames c.takes I2 rv (by rw [hks]; exact hl) ⟨ρ, M2, J2, K1, E1, ds, sr2, rs, q, ok.mono x2, er⟩
/-- o.m(..) -/
def methD (G : Gam) (Γ : Nat → SpD) (k : Nat) (n : List Str) (o : D) (ta tk : TDs) : TD := fun ρ M K E => instX o M fun c fs => match G.dm c k n with
    | some i => getD k fs = none ∧ argsD ta tk (fun ds => spT (Γ i) (o :: ds)) ρ M K E
    | none => False
theorem pd_meth (c : Ctx X G W Γ kx) {o : Expr} {k : Nat} {apos pos : Pos} {es : List Expr} {kws : List Keyword} {to : TD} {ta tk : TDs} (ho : PE X o (TEx X.K G B W to)) (ha : PA X es (TAx X.K G B W ta)) (hk : PKd X G B W kws tk) (hs : methShape o apos pos es kws = true) :
    PE X (.Call (.Attribute o (G.nm k) apos) es kws pos) (TEx X.K G B W (bindD to fun d => methD G Γ k (kwNames kws) d ta tk)) := by
  have hs' := hs
  unfold methShape at hs'
  simp only [Bool.and_eq_true] at hs'
  obtain ⟨⟨⟨⟨_, h1⟩, h2⟩, _⟩, _⟩ := hs'
  refine ⟨fun pins s σ H Q I h => ?_⟩
  obtain ⟨ρ, M, J, K1, E1, sr, t, ok, er⟩ := h
  refine PySem.W.methodCall_KW (thn (ho.run pins s σ H (fun x H1 => ∃ M1 J1 d, Ext J J1 ∧ SR X.K G B σ H1 ρ M1 J1 ∧ Rep X.K G J1 d x ∧ methD G Γ k (kwNames kws) d ta tk ρ M1 K1 E1) I ⟨ρ, M, J, _, E1, sr, t, fun d M' v H' I' z e s' r => ⟨M', I', d, e, s', r, z⟩, er⟩) fun u s1 ⟨x, H1, I1, rx, M1, J1, d, e1, sr1, r1, t1⟩ => ?_) (meth_shape hs)
  unfold methD at t1
  obtain ⟨cc, fs, hi, t1⟩ := instX_ok t1
  · split at t1
    · rename_i i hm
      obtain ⟨hno, t1⟩ := t1
      obtain ⟨cls, me, hks⟩ := c.gg.dm _ _ _ _ hm
      obtain ⟨a, dx, vfs, rfl, hA, hF⟩ := instD_ok sr1.good r1 hi
      obtain rfl : u = Value.ref a := rx
      refine getmeth_ok I1 hA cls me (hF.none hno) ?_
      refine call_args I1 sr1 ha hk me.kp h1 h2 t1 (ok.mono e1) er fun us ws vs ds s2 H2 M2 J2 hl I2 x2 sr2 rv rs q => ?_
      have F := c.calls i _ _ _ _ q
      rw [← hks]
      exact F.call (us := .ref a :: us) (c.room.mono (by omega)) c.guards I.ok.frames c.takes I2 (.cons (show RelV (V.ref a) (Value.ref a) from rfl) rv) (by rw [hks]; exact hl) ⟨ρ, M2, J2, K1, E1, d :: ds, sr2, .cons (r1.ext x2) rs, q, (ok.mono e1).mono x2, er⟩
    · exact t1.elim
/-- C.m(..), a static method of the class C -/
theorem pd_stat (c : Ctx X G W Γ kx) {cc i : Nat} {x : Str} {k : Nat} {p apos pos : Pos} {es : List Expr} {kws : List Keyword} {ta tk : TDs} (hn : G.cn cc = some x) (hg : Gl X x) (hm : G.sm cc k (kwNames kws) = some i) (ha : PA X es (TAx X.K G B W ta)) (hk : PKd X G B W kws tk)
    (hs : methShape (.Name x p) apos pos es kws = true) : PE X (.Call (.Attribute (.Name x p) (G.nm k) apos) es kws pos) (TEx X.K G B W (argsD ta tk fun ds => spT (Γ i) ds)) := by
  have hs' := hs
  unfold methShape at hs'
  simp only [Bool.and_eq_true] at hs'
  obtain ⟨⟨⟨⟨_, h1⟩, h2⟩, _⟩, _⟩ := hs'
  obtain ⟨hm0, hd⟩ := c.gg.cn _ _ hn
  obtain ⟨⟨mc, pa, rest, f1, f2, f3, f4, f5, f6, f7⟩, hks⟩ := c.gg.sm _ _ _ _ hm
  refine ⟨fun pins s σ H Q I h => ?_⟩
  obtain ⟨ρ, M, J, K1, E1, sr, t, ok, er⟩ := h
  refine PySem.W.methodCall_KW (ld_glob I hg hm0 ?_ hd) (meth_shape hs)
  obtain ⟨mf, Fr⟩ := I.fr
  refine PySem.W.method_of_cls Fr I.mod.kin f1 (PySem.W.cls_sm Fr I.mod.kin f2 f3 f4 f5 f6 ?_)
  have I1 := I.tok (s.toks + 1)
  refine call_args I1 sr ha hk f7 h1 h2 t ok er fun us ws vs ds s2 H2 M2 J2 hl I2 x2 sr2 rv rs q => ?_
  have F := c.calls i _ _ _ _ q
  rw [← hks]
  exact F.call (c.room.mono (by omega)) c.guards I.ok.frames c.takes I2 rv (by rw [hks]; exact hl) ⟨ρ, M2, J2, K1, E1, ds, sr2, rs, q, ok.mono x2, er⟩
/-- an attribute: a field, or a property -/
def attD (G : Gam) (Γ : Nat → SpD) (k : Nat) (d : D) : TD := fun _ M K _ => instX d M fun c fs => match G.fld c k with
    | true => (match getD k fs with
      | some e => K e M
      | none => False)
    | false => (match G.pr c k with
      | some i => Γ i [d] M K (fun _ _ _ => False)
      | none => False)
theorem fn_got {A : Around} {sd : SpD} {pins : List (Addr × Obj)} {s : Shared} {σ : L2.St} {H : Hp} {Q : VK} {us : List Value} {vs : List V} {ds : List D} {ρ : Slots} {M : Mst} {J : Hp} {K1 : KD} {f : Value} (F : FnD X.prog X.w X.K X.mg X.base G kx f [] sd) (hr : Room kx A) (hg : A.guards = some []) (hf : A.frames = some X.stack)
    (I : L2.Inv X pins σ H s) (sr : SR X.K G B σ H ρ M J) (rv : Vals vs us) (rs : Reps X.K G J ds vs) (t : sd ds M K1 (fun _ _ _ => False)) (ok : OkC X.K G B σ ρ J K1 Q) :
    codeAny (model X.prog X.w) A (.call f ⟨us, []⟩) (fun r s' => match r with
      | .ok (.ret u) => ∃ v H', L2.Inv X pins σ H' s' ∧ RelV v u ∧ Q v H'
      | _ => False) s := by
  have e0 := I.env0
  have e1 : Env0 X.prog X.w X.K X.mg X.base A X.stack s H := ⟨hf, e0.mod, e0.bs, e0.bsz, e0.funs, e0.frf, e0.hok, e0.bare⟩
  have := F.run A X.stack s H us [] vs ds M J K1 (fun _ _ _ => False) Q (fun _ _ _ => False) hr hg e1 (by rw [List.append_nil]; exact rv) rfl sr.good rs t (fun d M' v H' I' h g fr q => ok d M' v H' I' h fr.ext (sr.step g fr) q) (fun _ _ _ _ _ _ _ h _ _ _ => h.elim)
  refine codeAny_mono this fun z s' hq => ?_
  cases z with
  | error e =>
    obtain ⟨_, _, _, _, _, _, _, _, _, _, _, _, h⟩ := hq
    exact h.elim
  | ok fl =>
    cases fl with
    | ret u => exact I.after hq
    | next => exact False.elim hq
    | brk => exact False.elim hq
    | cont => exact False.elim hq
theorem pd_att (c : Ctx X G W Γ kx) {e : Expr} {k : Nat} {pos : Pos} {te : TD} (he : PE X e (TEx X.K G B W te)) (hb : plainBase e = true) : PE X (.Attribute e (G.nm k) pos) (TEx X.K G B W (bindD te (attD G Γ k))) := by
  refine ⟨fun pins s σ H Q I h => ?_⟩
  obtain ⟨ρ, M, J, K1, E1, sr, t, ok, er⟩ := h
  refine attr_of (base_of hb) (thn (he.run pins s σ H (fun x H1 => ∃ M1 J1 d, Ext J J1 ∧ SR X.K G B σ H1 ρ M1 J1 ∧ Rep X.K G J1 d x ∧ attD G Γ k d ρ M1 K1 E1) I ⟨ρ, M, J, _, E1, sr, t, fun d M' v H' I' z e s' r => ⟨M', I', d, e, s', r, z⟩, er⟩) fun u s1 ⟨x, H1, I1, rx, M1, J1, d, e1, sr1, r1, t1⟩ => ?_)
  unfold attD at t1
  obtain ⟨cc, fs, hi, t1⟩ := instX_ok t1
  · obtain ⟨a, dx, vfs, rfl, hA, hF⟩ := instD_ok sr1.good r1 hi
    obtain rfl : u = Value.ref a := rx
    split at t1
    · rename_i hf
      split at t1
      · rename_i y hy
        obtain ⟨v, h3, h4⟩ := hF.get hy
        obtain ⟨c1, c2⟩ := c.ops.ok.fld cc k hf
        exact getattr_ok I1 hA c1 c2 h3 fun u' s2 I2 ru => ⟨v, H1, I2, ru, ok _ _ _ _ _ t1 e1 sr1 h4⟩
      · exact t1.elim
    · split at t1
      · rename_i i hp
        obtain ⟨cls, hks, hnc, p, po⟩ := c.gg.pr _ _ _ hp
        obtain ⟨mA, O, _, _, _, _⟩ := ins_get I1.hok hA
        obtain ⟨od, J2, _⟩ := O.look
        obtain ⟨rest, hrec⟩ := po.rec_
        have I2 := I1.tok (s1.toks + 1)
        have hc : (PySem.W.clsIn X.K (G.cl cc)).isSome = true := by
          obtain ⟨cd, hc, _⟩ := PySem.W.any_some cls.hd
          rw [hc]
          rfl
        have F := c.calls i _ _ _ _ t1
        rw [hks, hnc] at F
        refine PySem.W.get_bind I1.kIn J2 (PySem.W.plainGet_of (cls.get (G.nm k))).1 (PySem.W.findObj_data hc po.at_ po.get po.tak) (PySem.W.plainGet_of (cls.get (G.nm k))).2 (wpAny_call (PySem.W.prop_get (s := { s1 with toks := s1.toks + 1 }) I1.kIn hrec ?_))
        refine codeAny_mono (fn_got F ((c.room.mono (by omega) : Room (kx + 1) X.A).in1) c.guards I.ok.frames I2 sr1 (.cons (show RelV (V.ref a) (Value.ref a) from rfl) .nil) (.cons r1 .nil) t1 (ok.mono e1)) fun r s' hq => ?_
        cases r with
        | error er => exact False.elim hq
        | ok fl =>
          cases fl with
          | ret u =>
            obtain ⟨v, H', I3, rv, q3⟩ := hq
            show wpAny _ _ (handedOut u) _ _ _
            rw [PySem.W.handedOut_of (handed_of rv)]
            exact wpAny_pure ⟨v, H', I3, rv, q3⟩
          | next => exact False.elim hq
          | brk => exact False.elim hq
          | cont => exact False.elim hq
      · exact t1.elim
end
end PyD
set_option Elab.async false
set_option linter.all false
set_option autoImplicit false
set_option maxRecDepth 100000
set_option maxHeartbeats 4000000
/-! # Truth, types, built-in functions -/
namespace PyD
open PySem PySem.Spec L2

/-- a datum's truth; the answer as a bool -/
def truD (G : Gam) (Γ : Nat → SpD) (d : D) : TD := fun ρ M K E => match d with
  | .non => K (.bl false) M
  | .bl b => K (.bl b) M
  | .int i => K (.bl (i != 0)) M
  | .str x => x.length ≤ 1000000 ∧ K (.bl ((x.length : Int) != 0)) M
  | .lst xs => K (.bl (!xs.isEmpty)) M
  | .tup xs => K (.bl (!xs.isEmpty)) M
  | .dct xs => False
  | _ => instX d M fun _ _ => ownD G Γ 20 d [] ρ M (fun r M' => match r with
        | .bl z => K (.bl z) M'
        | _ => False) E
section
variable {X : Cx} {G : Gam} {B : Bs} {W : WX} {Γ : Nat → SpD} {kx : Nat}
theorem reps_empty {K : PySem.W.Frag} {I : Hp} {ds : List D} {vs : List V} (r : Reps K G I ds vs) : vs.isEmpty = ds.isEmpty := by
  cases ds with
  | nil => unfold Reps at r; subst r; rfl
  | cons d ds => unfold Reps at r; obtain ⟨v, t, rfl, _⟩ := r; rfl
theorem tru_any (c : Ctx X G W Γ kx) {A : Around} {pins : List (Addr × Obj)} {s : Shared} {σ : L2.St} {H : Hp} {ρ : Slots} {M : Mst} {J : Hp} {d : D} {x : V} {v : Value} {K1 : KD} {E1 : ED} (hr : Room kx A) (hg : A.guards = some []) (hf : A.frames = some X.stack)
    (I : L2.Inv X pins σ H s) (sr : SR X.K G B σ H ρ M J) (r1 : Rep X.K G J d x) (rx : RelV x v) (t : truD G Γ d ρ M K1 E1) (er : ErC X.K G B W σ ρ E1) :
    wpAny (model X.prog X.w) A (truthy v) (PB X G B pins σ ρ J fun b M' => K1 (.bl b) M') X.xe s := by
  have hl := line63
  have hs : sizeLine = 16777216 := sizeLine_eq
  have byI : (instX d M fun _ _ => ownD G Γ 20 d [] ρ M (fun r M' => match r with
        | .bl z => K1 (.bl z) M'
        | _ => False) E1) → wpAny (model X.prog X.w) A (truthy v) (PB X G B pins σ ρ J fun b M' => K1 (.bl b) M') X.xe s := by
    intro t
    obtain ⟨cc, fs, hi, t⟩ := instX_ok t
    obtain ⟨i, h1, hks, t⟩ := ownD_at _ _ t hi
    · skip
      · skip
        obtain ⟨a, dx, vfs, rfl, ha, _⟩ := instD_ok sr.good r1 hi
        obtain rfl : v = Value.ref a := rx
        obtain ⟨_, ⟨m11, m12, m13⟩, sf⟩ := c.ops.ok.dn _ _ _ h1
        obtain ⟨od, J1⟩ := inst_at I ha
        obtain ⟨mf, Fr⟩ := I.fr
        have e1 : G.nm 20 = "__bool__" := c.ops.dund 20 (by decide)
        rw [e1] at m11
        refine PySem.W.truthy_K Fr I.mod.kin J1 m11 m12 ?_
        refine thn (own_run c (Q := fun z H' => ∃ b M' J', z = .bl b ∧ K1 (.bl b) M' ∧ Ext J J' ∧ SR X.K G B σ H' ρ M' J') hr hg hf I sr (.cons r1 .nil) (.cons (show RelV (V.ref a) (Value.ref a) from rfl) .nil) hks t (fun d' M' z H' J' k x' s' r' => ?_) er) fun z s' hz => ?_
        · split at k
          · unfold Rep at r'
            exact ⟨_, M', J', r', k, x', s'⟩
          · exact k.elim
        · obtain ⟨z', H', I', rz, b, M', J', rfl, k, x', s''⟩ := hz
          obtain rfl : z = Value.bool b := rz
          exact ⟨M', H', J', k, x', s'', I'⟩
  unfold truD at t
  split at t
  · unfold Rep at r1; subst r1
    obtain rfl : v = Value.none := rx
    exact PyProof.Rows.truthy_none ⟨M, H, J, t, .refl J, sr, I⟩
  · unfold Rep at r1; subst r1
    obtain rfl : v = Value.bool _ := rx
    exact wpAny_truthy_bool ⟨M, H, J, t, .refl J, sr, I⟩
  · unfold Rep at r1; subst r1
    obtain ⟨tk, rfl⟩ := rx
    exact PySem.P.truthy_int ⟨M, H, J, t, .refl J, sr, I⟩
  · unfold Rep at r1; subst r1
    obtain ⟨tk, rfl⟩ := rx
    exact PySem.P.truthy_str (by have := t.1; omega) ⟨M, H, J, t.2, .refl J, sr, I.tok _⟩
  · unfold Rep at r1
    obtain ⟨a, vs, rfl, h1, h2⟩ := r1
    obtain rfl : v = Value.ref a := rx
    obtain ⟨its, r, pl, hz⟩ := I.list (sr.good.sub.sql h1)
    have hlen := r.length
    exact wpAny_truthy_list pl.isList (by simp only [List.size_toArray]; omega) ⟨M, H, J, by rw [isEmpty_of r, reps_empty h2]; exact t, .refl J, sr, I.tok _⟩
  · unfold Rep at r1
    obtain ⟨a, vs, rfl, h1, h2⟩ := r1
    obtain rfl : v = Value.ref a := rx
    obtain ⟨its, r, pl, hz⟩ := I.tuple (sr.good.sub.sqt h1)
    have hlen := r.length
    exact PyProof.Rows.truthy_tuple pl (by simp only [List.size_toArray]; omega) ⟨M, H, J, by rw [isEmpty_of r, reps_empty h2]; exact t, .refl J, sr, I.tok _⟩
  · exact t.elim
  · exact byI t
end
end PyD
set_option Elab.async false
set_option linter.all false
set_option autoImplicit false
set_option maxRecDepth 100000
set_option maxHeartbeats 4000000
/-! # Built-in functions over trees -/
namespace PyD
open PySem PySem.Spec L2

inductive Blt where
  | abs | len | int | bool | list | repr | isi | max | min | str
  deriving DecidableEq
def Blt.nm : Blt → Str
  | .abs => "abs" | .len => "len" | .int => "int" | .bool => "bool" | .list => "list" | .repr => "repr" | .isi => "isinstance" | .max => "max" | .min => "min" | .str => "str"
def Blt.val : Blt → Value
  | .abs => .builtin "abs" | .len => .builtin "len" | .int => .type "int" | .bool => .type "bool" | .list => .type "list" | .repr => .builtin "repr" | .isi => .builtin "isinstance" | .max => .builtin "max" | .min => .builtin "min" | .str => .type "str"
theorem Blt.boot (b : Blt) : bootBuiltins b.nm = some b.val := by cases b <;> rfl
theorem Blt.ne (b : Blt) : b.nm ≠ "__name__" := by cases b <;> decide
theorem Blt.nd (b : Blt) : (b.nm == ("__debug__" : Str)) = false := by cases b <;> decide
theorem Blt.mem (b : Blt) : b.nm ∈ bltNames := by cases b <;> decide
/-- a datum's type -/
def tyD (d : D) (M : Mst) : Option Ty := match d with
  | .non => some (.b "NoneType")
  | .bl _ => some (.b "bool")
  | .int _ => some (.b "int")
  | .str _ => some (.b "str")
  | .lst _ => some (.b "list")
  | .tup _ => some (.b "tuple")
  | .dct _ => some (.b "dict")
  | .obj c _ => some (.c c)
  | .loc a => (match M a with
    | some (.inst c _) => some (.c c)
    | some (.lst _) => some (.b "list")
    | some (.dct _) => some (.b "dict")
    | none => none)
  | _ => none
/-- a type as a datum -/
def asTy : D → Option Ty
  | .ty n => some (.b n)
  | .cls c => some (.c c)
  | _ => none
def lenX (d : D) (M : Mst) (P : Nat → Prop) : Prop := match d with
  | .dct kvs => P kvs.length
  | _ => seqX d M fun ds => P ds.length
section
variable (G : Gam) (Γ : Nat → SpD)
def bltD (b : Blt) (ds : List D) : TD := fun ρ M K E => match b, ds with
  | .abs, [.int i] => K (.int (if i < 0 then -i else i)) M
  | .int, [.int i] => K (.int i) M
  | .int, [.bl z] => K (.int (if z then 1 else 0)) M
  | .len, [.str x] => x.length ≤ 1000000 ∧ K (.int x.length) M
  | .len, [d] => lenX d M fun n => K (.int n) M
  | .bool, [d] => truD G Γ d ρ M K E
  | .list, [d] => seqX d M fun xs => K (.lst xs) M
  | .repr, [d] => (match toP d with
    | some p => PyData.showable p = true ∧ PyData.depth p ≤ 50 ∧ PyData.hasDict p = false ∧ (PyData.shown p).length ≤ 1000000 ∧ (match d with
      | .lst _ => True
      | .tup _ => True
      | _ => False) ∧ K (.str (PyData.shown p)) M
    | none => False)
  | .isi, [d, t] => (match tyD d M, asTy t with
    | some a, some b => (match G.ist a b with
      | some z => K (.bl z) M
      | none => False)
    | _, _ => False)
  | .max, [.int i, .int j] => K (.int (if j > i then j else i)) M
  | .min, [.int i, .int j] => K (.int (if j < i then j else i)) M
  | .str, [.str x] => K (.str x) M
  | .str, [.int i] => i.natAbs.log2 < 1920 ∧ K (.str (toString i)) M
  | _, _ => False
end
section
variable {X : Cx} {G : Gam} {B : Bs} {W : WX} {Γ : Nat → SpD} {kx : Nat}
/-- a kit's rule of a built-in, over trees -/
theorem opN_of {f : Value} {r : List V → Hp → VK → Prop} {t : List D → TD} (h : CallR X f r) (k : ∀ σ H Q ρ M J K1 E1 ds vs, SR X.K G B σ H ρ M J → Reps X.K G J ds vs → t ds ρ M K1 E1 → OkC X.K G B σ ρ J K1 Q → r vs H Q) : OpN X G B W (fun us => PySem.call f us) t := by
  rintro pins s σ H Q xs us I rs ⟨ρ, M, J, K1, E1, ds, sr, r2, t, ok, er⟩
  exact h pins s σ H xs us Q I rs (k _ _ _ _ _ _ _ _ _ _ sr r2 t ok)
theorem call_bool_tru {prog : Program} {w : World} {A : Around} {E : Value → Shared → Prop} {s : Shared} {x : Value} {Q : Value → Shared → Prop} (h : wpAny (model prog w) A.in1.in1 (truthy x) (fun b s' => Q (.bool b) s') E s) : wpAny (model prog w) A (PySem.call (.type "bool") [x]) Q E s := by
  refine callType_newIn F.called_bool F.newNe_bool (F.typeCall_bool_1 x) (F.newCall_bool_1 x) (fun obj => F.args_object_init_2 obj x) F.entry_bool_new
    (S := fun A R s => wpAny (model prog w) A.in1 (truthy x) (fun b s' => R (.ok (.ret (.bool b))) s') (fun e s' => R (.error e) s') s) ?_ (wpAny_mono h (fun b s' q => ⟨rfl, q⟩) fun _ _ q => q)
  intro A R s h
  obtain ⟨hp, g, d, tk, os⟩ := s
  have f1 := F.conv_sub_bool
  unfold Builtin.«bool.__new__»
  repeat (any_goals (first | (refine wpAny_bind (m := truthy x) (wpAny_mono h (fun b s' q => ?_) fun _ _ q => q)) | (refine wpAny_mono (t := truthy x) h (fun b s' q => ?_) fun _ _ q => q) | wp_step))
  exact q
theorem ty_of (c : Ctx X G W Γ kx) {pins : List (Addr × Obj)} {s : Shared} {σ : L2.St} {H : Hp} {ρ : Slots} {M : Mst} {J : Hp} {d : D} {v : V} {T U : Ty} {z : Bool} (I : L2.Inv X pins σ H s) (sr : SR X.K G B σ H ρ M J) (r : Rep X.K G J d v) (h : tyD d M = some T) (hi : G.ist T U = some z) : TyX X.K H v (T.v G) := by
  have ins : ∀ {cc : Nat} {a dx : Addr} {vfs : List (Str × V)}, H a = some (.ins (G.cl cc) dx vfs) → G.ist (.c cc) U = some z → TyX X.K H (.ref a) (.ref (G.cl cc)) := fun ha hi => by
    obtain ⟨cl, f1, f2, f3, f4⟩ := c.gg.isc _ _ _ hi
    exact .base (.ins ha cl f1 f2 f3 f4)
  have lst : ∀ {a : Addr} {xs : List V}, SqL X.K H a xs → TyX X.K H (.ref a) (.type "list") := fun h => by
    rcases h with (h | ⟨o, h⟩) | ⟨o, its, n, h, hc, _⟩
    · exact .base (.lst h)
    · exact .base (.frz h)
    · exact .kList h hc
  cases d with
  | non => cases h; unfold Rep at r; subst r; exact .base .non
  | bl b => cases h; unfold Rep at r; subst r; exact .base (.bl _)
  | int i => cases h; unfold Rep at r; subst r; exact .base (.int _)
  | str x => cases h; unfold Rep at r; subst r; exact .base (.str _)
  | tup ds =>
    cases h
    unfold Rep at r
    obtain ⟨a, vs, rfl, h1, _⟩ := r
    rcases sr.good.sub.sqt h1 with (h | ⟨o, h⟩) | ⟨o, its, n, h, hc, _⟩
    · exact .base (.tup h)
    · exact .fTuple h
    · exact .kTuple h hc
  | lst ds =>
    cases h
    unfold Rep at r
    obtain ⟨a, vs, rfl, h1, _⟩ := r
    exact lst (sr.good.sub.sql h1)
  | dct kds =>
    cases h
    unfold Rep at r
    obtain ⟨a, kvs, rfl, h1, _⟩ := r
    rcases sr.good.sub.dK h1 with h | ⟨o, h⟩
    · exact .base (.dK h)
    · exact .fDict h
  | obj cc fs =>
    cases h
    unfold Rep at r
    obtain ⟨a, dx, vfs, rfl, h1, _⟩ := r
    exact ins (sr.good.sub.ins h1) hi
  | loc a =>
    unfold Rep at r
    subst r
    unfold tyD at h
    dsimp only at h
    split at h
    · rename_i cc fs hm
      cases h
      obtain ⟨_, o, h1, dx, vfs, rfl, _⟩ := sr.good.mst a _ hm
      exact ins h1 hi
    · rename_i ds hm
      cases h
      obtain ⟨_, o, h1, vs, rfl, _⟩ := sr.good.mst a _ hm
      exact lst (.of h1)
    · rename_i ds hm
      cases h
      obtain ⟨_, o, h1, kvs, rfl, _⟩ := sr.good.mst a _ hm
      exact .base (.dK h1)
    · cases h
  | cls cc => cases h
  | ty n => cases h
theorem asTy_ok {K : PySem.W.Frag} {I : Hp} {t : D} {v : V} {T : Ty} (r : Rep K G I t v) (h : asTy t = some T) : ClsV v (T.v G) := by
  cases t <;> cases h <;> unfold Rep at r <;> subst r
  · exact .own _
  · exact .ty _
theorem reps1 {K : PySem.W.Frag} {I : Hp} {d : D} {vs : List V} (r : Reps K G I [d] vs) : ∃ v, vs = [v] ∧ Rep K G I d v := by
  unfold Reps at r
  obtain ⟨v, t, rfl, h, q⟩ := r
  unfold Reps at q
  subst q
  exact ⟨v, rfl, h⟩
theorem reps2 {K : PySem.W.Frag} {I : Hp} {d e : D} {vs : List V} (r : Reps K G I [d, e] vs) : ∃ v w, vs = [v, w] ∧ Rep K G I d v ∧ Rep K G I e w := by
  unfold Reps at r
  obtain ⟨v, t, rfl, h, q⟩ := r
  obtain ⟨w, rfl, q2⟩ := reps1 q
  exact ⟨v, w, rfl, h, q2⟩
theorem opN_blt (c : Ctx X G W Γ kx) (b : Blt) : OpN X G B W (fun us => PySem.call b.val us) (bltD G Γ b) := by
  rintro pins s σ H Q xs us I rs ⟨ρ, M, J, K1, E1, ds, sr, r2, t, ok, er⟩
  unfold bltD at t
  split at t
  · obtain ⟨v, rfl, r⟩ := reps1 r2
    unfold Rep at r; subst r
    exact call_abs pins s σ H _ us Q I rs ⟨_, rfl, fin_ok sr ok rep_int t⟩
  · obtain ⟨v, rfl, r⟩ := reps1 r2
    unfold Rep at r; subst r
    exact call_int1 pins s σ H _ us Q I rs (.inl ⟨_, rfl, fin_ok sr ok rep_int t⟩)
  · obtain ⟨v, rfl, r⟩ := reps1 r2
    unfold Rep at r; subst r
    exact call_int1 pins s σ H _ us Q I rs (.inr ⟨_, rfl, fin_ok sr ok rep_int t⟩)
  · obtain ⟨v, rfl, r⟩ := reps1 r2
    unfold Rep at r; subst r
    exact call_len_str pins s σ H _ us Q I rs ⟨_, rfl, line_le t.1, fin_ok sr ok rep_int t.2⟩
  · rename_i d hnot
    obtain ⟨v, rfl, r⟩ := reps1 r2
    unfold lenX at t
    split at t
    · rename_i kds
      unfold Rep at r
      obtain ⟨a, kvs, rfl, h1, h2⟩ := r
      obtain ⟨u, rfl, ru⟩ := vals1 rs
      obtain rfl : u = Value.ref a := ru
      exact d_len I (sr.good.sub.dK h1) fun tk s' I' => ⟨.int kvs.length, H, I', ⟨tk, rfl⟩, by rw [h2.length]; exact fin_ok sr ok rep_int t⟩
    · obtain ⟨ys, hs, t⟩ := seqX_ok t
      obtain ⟨a, vs, rfl, h1, h2⟩ := seqD_ok sr.good r hs
      exact call_len_seq pins s σ H _ us Q I rs ⟨a, vs, rfl, h1, by rw [h2.length]; exact fin_ok sr ok rep_int t⟩
  · rename_i d
    obtain ⟨v, rfl, r⟩ := reps1 r2
    obtain ⟨u, rfl, ru⟩ := vals1 rs
    refine call_bool_tru (thn (tru_any c (A := X.A.in1.in1) ((c.room.mono (by omega) : Room (kx + 2) X.A).in1.in1) c.guards I.ok.frames I sr r ru t er) fun b s' h => ?_)
    exact ep_of_pb ok (fun _ _ k => k) ⟨b, rfl, h⟩
  · rename_i d
    obtain ⟨v, rfl, r⟩ := reps1 r2
    obtain ⟨ys, hs, t⟩ := seqX_ok t
    · obtain ⟨a, vs, rfl, h1, h2⟩ := seqD_ok sr.good r hs
      refine call_list_of pins s σ H _ us Q I rs ⟨a, vs, rfl, h1, fun p np => ?_⟩
      exact ok _ _ _ _ _ t (sr.good.addI_frm np).ext (sr.step (sr.good.addI np (.inl ⟨_, rfl⟩)) (sr.good.addI_frm np)) (by
        unfold Rep; exact ⟨p, vs, rfl, .of upd_same, h2.ext (sr.good.addI_frm (o := .lst vs) np).ext⟩)
  · rename_i d
    obtain ⟨v, rfl, r⟩ := reps1 r2
    obtain ⟨u, rfl, ru⟩ := vals1 rs
    split at t
    · rename_i p hp
      obtain ⟨h1, h2, h3, h4, h5, t⟩ := t
      have dp := dp_of sr.good.sub hp r
      obtain ⟨as, rd⟩ := Dp.reads I p v u dp ru
      have ea : ∃ a, v = .ref a := by
        split at h5
        · unfold Rep at r; obtain ⟨a, _, e, _⟩ := r; exact ⟨a, e⟩
        · unfold Rep at r; obtain ⟨a, _, e, _⟩ := r; exact ⟨a, e⟩
        · exact h5.elim
      obtain ⟨a, rfl⟩ := ea
      obtain rfl : u = Value.ref a := ru
      exact repr_of_reads' rd h1 (by rw [h3]; intro z; cases z) c.guards (by have := c.room.units; omega) (fun b o z => z) (fun h' u tk hk => ⟨.str _, H, I.kept hk, ⟨_, rfl⟩, fin_ok sr ok rep_str t⟩) (line_le h4)
    · exact t.elim
  · rename_i d T
    obtain ⟨v, w, rfl, r, q⟩ := reps2 r2
    split at t
    · rename_i a b ha hb
      split at t
      · rename_i z hz
        exact call_isi pins s σ H _ us Q I rs ⟨v, w, a.v G, b.v G, z, rfl, asTy_ok q hb, ty_of c I sr r ha hz, c.gg.ist _ _ _ hz, fin_ok sr ok rep_bl t⟩
      · exact t.elim
    · exact t.elim
  · obtain ⟨v, w, rfl, r, q⟩ := reps2 r2
    unfold Rep at r q; subst r q
    exact call_max2 c.calm pins s σ H _ us Q I rs ⟨_, _, rfl, fin_ok sr ok rep_int t⟩
  · obtain ⟨v, w, rfl, r, q⟩ := reps2 r2
    unfold Rep at r q; subst r q
    exact call_min2 c.calm pins s σ H _ us Q I rs ⟨_, _, rfl, fin_ok sr ok rep_int t⟩
  · obtain ⟨v, rfl, r⟩ := reps1 r2
    unfold Rep at r; subst r
    exact SkE.call_str_str pins s σ H _ us Q I rs ⟨_, rfl, fin_ok sr ok rep_str t⟩
  · obtain ⟨v, rfl, r⟩ := reps1 r2
    unfold Rep at r; subst r
    exact call_str_int pins s σ H _ us Q I rs ⟨_, rfl, t.1, fin_ok sr ok rep_str t.2⟩
  · exact t.elim
end
end PyD
set_option Elab.async false
set_option linter.all false
set_option autoImplicit false
set_option maxRecDepth 100000
set_option maxHeartbeats 4000000
/-! # Expressions, resolved: what they look like, what they mean -/
namespace PyD
open PySem PySem.Spec L2

mutual
inductive E where
  | no | var (i : Nat) | con (d : D) | kon (j : Nat) | kls (c : Nat) | ty (n : String)
  | bin (op : Operator) (a b : E) | cmp (op : CmpOp) (a b : E) | chn (op op' : CmpOp) (a b c : E)
  | neg (a : E) | not (a : E) | and (a b : E) | or (a b : E) | ite (c a b : E)
  | att (a : E) (k : Nat) | sub (a b : E) | cut (a lo hi : E)
  | tup (es : Es) | lst (es : Es) | mlst (es : Es)
  | call (i : Nat) (es ks : Es) | meth (a : E) (k : Nat) (n : List Str) (es ks : Es) | stat (c k : Nat) (n : List Str) (es ks : Es) | blt (b : Blt) (es : Es)
  | frz (a : E)
inductive Es where
  | nil | cons (e : E) (es : Es)
end
def isNo : E → Bool
  | .no => true
  | _ => false
/-- the names of a body and their kinds -/
structure Sc where
  N : List Str
  sc : Scope
def visB (s : Sc) (x : Str) : Bool := match s.sc.names.lookup x with
  | some .local => true
  | some .cell => true
  | some .free => true
  | _ => false
def locB (s : Sc) (x : Str) : Bool := match s.sc.names.lookup x with
  | some .local => true
  | some .cell => true
  | _ => false
def glB (s : Sc) (x : Str) : Bool := s.sc.names.lookup x == some .globalImplicit
def okNm (x : Str) : Bool := !(x == ("__debug__" : Str)) && !(x == ("__classdict__" : Str))
def conB : Const → D → Bool
  | .none, .non => true
  | .bool a, .bl b => a == b
  | .int i, .int j => i == j
  | .str x, .str y => x == y
  | _, _ => false
def nameIs (s : Sc) (o : Option Str) : Expr → Bool
  | .Name y _ => glB s y && (o == some y)
  | _ => false
section
variable (G : Gam)
mutual
def chk (s : Sc) : E → Expr → Bool
  | .no, _ => false
  | .var i, x => match x with
    | .Name y _ => (s.N[i]? == some y) && visB s y && okNm y
    | _ => false
  | .con d, x => match x with
    | .Constant c _ _ => conB c d
    | _ => false
  | .kon j, x => nameIs s ((G.kon j).map (·.1)) x
  | .kls c, x => nameIs s (G.cn c) x
  | .ty n, x => match x with
    | .Name y _ => glB s y && (y == Str.ofString n) && bltNames.contains y && (bootBuiltins y == some (.type n)) && !(y == ("__name__" : Str)) && okNm y
    | _ => false
  | .bin op a b, x => match x with
    | .BinOp l o r _ => chk s a l && (o == op) && chk s b r
    | _ => false
  | .cmp op a b, x => match x with
    | .Compare l [o] [r] _ => chk s a l && (o == op) && chk s b r && noSet r
    | _ => false
  | .chn op op' a b c, x => match x with
    | .Compare l [o, o'] [r, r'] _ => chk s a l && (o == op) && (o' == op') && chk s b r && chk s c r' && noSet r && noSet r'
    | _ => false
  | .neg a, x => match x with
    | .UnaryOp .USub e _ => chk s a e
    | _ => false
  | .not a, x => match x with
    | .UnaryOp .Not e _ => chk s a e
    | _ => false
  | .and a b, x => match x with
    | .BoolOp .And (e :: r) p => chk s a e && (match r with
      | [] => false
      | [f] => chk s b f
      | f :: g :: t => chk s b (.BoolOp .And (f :: g :: t) p))
    | _ => false
  | .or a b, x => match x with
    | .BoolOp .Or (e :: r) p => chk s a e && (match r with
      | [] => false
      | [f] => chk s b f
      | f :: g :: t => chk s b (.BoolOp .Or (f :: g :: t) p))
    | _ => false
  | .ite c a b, x => match x with
    | .IfExp t y z _ => chk s c t && chk s a y && chk s b z
    | _ => false
  | .att a k, x => match x with
    | .Attribute e m _ => chk s a e && (m == G.nm k) && plainBase e
    | _ => false
  | .sub a b, x => match x with
    | .Subscript e f _ => chk s a e && chk s b f && noSlice f
    | _ => false
  | .cut a lo hi, x => match x with
    | .Subscript e (.Slice l h none _) _ => chk s a e && (match l with
      | none => isNo lo
      | some y => chk s lo y) && (match h with
      | none => isNo hi
      | some y => chk s hi y)
    | _ => false
  | .tup es, x => match x with
    | .Tuple xs _ _ => chks s es xs
    | _ => false
  | .lst es, x => match x with
    | .List xs _ => chks s es xs
    | _ => false
  | .mlst es, x => match x with
    | .List xs _ => chks s es xs
    | _ => false
  | .call i es ks, x => match x with
    | .Call f xs kws _ => nameIs s (G.gn i) f && (kwNames kws == G.ks i) && kwNamed kws && chks s es xs && chkk s ks kws
    | _ => false
  | .meth a k n es ks, x => match x with
    | .Call (.Attribute o m apos) xs kws pos => chk s a o && (m == G.nm k) && methShape o apos pos xs kws && (kwNames kws == n) && chks s es xs && chkk s ks kws
    | _ => false
  | .stat c k n es ks, x => match x with
    | .Call (.Attribute o m apos) xs kws pos => nameIs s (G.cn c) o && (m == G.nm k) && methShape o apos pos xs kws && (kwNames kws == n) && chks s es xs && chkk s ks kws
    | _ => false
  | .blt b es, x => match x with
    | .Call f xs [] _ => nameIs s (some b.nm) f && chks s es xs && !xs.isEmpty
    | _ => false
  | .frz a, x => chk s a x
def chks (s : Sc) : Es → List Expr → Bool
  | .nil, xs => xs.isEmpty
  | .cons e es, xs => match xs with
    | x :: t => chk s e x && noStar x && chks s es t
    | [] => false
def chkk (s : Sc) : Es → List Keyword → Bool
  | .nil, xs => xs.isEmpty
  | .cons e es, xs => match xs with
    | x :: t => chk s e x.value && chkk s es t
    | [] => false
end
end
/-! ## meaning -/
def notD (d : D) : TD := fun _ M K _ => match d with
  | .bl z => K (.bl (!z)) M
  | _ => False
def negD (G : Gam) (Γ : Nat → SpD) (d : D) : TD := fun ρ M K E => match d with
  | .int i => K (.int (-i)) M
  | _ => instX d M fun _ _ => ownD G Γ 19 d [] ρ M K E
/-- from here on it never changes -/
def frzD (d : D) : TD := fun _ M K _ => match d with
  | .loc a => (match M a with
    | some (.inst c fs) => K (.obj c fs) (delM M a)
    | some (.lst xs) => K (.lst xs) (delM M a)
    | some (.dct xs) => K (.dct xs) (delM M a)
    | none => False)
  | _ => False
/-- on, by a truth -/
def thenD (t u : TD) (z : D) : TD := fun ρ M K E => br z (t ρ M K E) (u ρ M K E)
def chnD (G : Gam) (Γ : Nat → SpD) (op op' : CmpOp) (ta tb tc : TD) : TD := bind2 ta tb fun d e => bindD (cmpD G Γ op d e) fun z => thenD (bindD tc fun f => cmpD G Γ op' e f) (conD (.bl false)) z
def partD (d : D) : Option (Option Int) := match d with
  | .int i => some (some i)
  | _ => none
def cutV2 (d : D) (lo hi : Option Int) : TD := fun _ M K _ => match d with
  | .str x => x.length ≤ 1000000 ∧ K (.str (cutS x lo hi)) M
  | .tup xs => ¬ (HT.sIx xs.length 0 lo = 0 ∧ HT.sIx xs.length xs.length hi = xs.length) ∧ K (.tup (cutD xs lo hi)) M
  | _ => seqX d M fun xs => K (.lst (cutD xs lo hi)) M
/-- an end of a cut -/
def endD (e : E) (t : TD) (f : Option Int → TD) : TD := match e with
  | .no => f none
  | _ => bindD t fun d => match d with
    | .int i => f (some i)
    | _ => fun _ _ _ _ => False
section
variable (G : Gam) (Γ : Nat → SpD)
def both (t : TD) : TD × TD := (t, bindD t (truD G Γ))
mutual
def sem : E → TD × TD
  | .no => both G Γ fun _ _ _ _ => False
  | .var i => both G Γ (varD i)
  | .con d => both G Γ (conD d)
  | .kon j => both G Γ fun _ M K _ => match G.kon j with
    | some (_, d) => K d M
    | none => False
  | .kls c => both G Γ (conD (.cls c))
  | .ty n => both G Γ (conD (.ty n))
  | .bin op a b => both G Γ (bind2 (sem a).1 (sem b).1 (binD G Γ op))
  | .cmp op a b => both G Γ (bind2 (sem a).1 (sem b).1 (cmpD G Γ op))
  | .chn op op' a b c => both G Γ (chnD G Γ op op' (sem a).1 (sem b).1 (sem c).1)
  | .neg a => both G Γ (bindD (sem a).1 (negD G Γ))
  | .not a => (bindD (bindD (sem a).1 (truD G Γ)) notD, bindD (sem a).2 notD)
  | .and a b => (bindD (sem a).1 fun d => bindD (truD G Γ d) (thenD (sem b).1 (conD d)), bindD (sem a).2 (thenD (sem b).2 (conD (.bl false))))
  | .or a b => (bindD (sem a).1 fun d => bindD (truD G Γ d) (thenD (conD d) (sem b).1), bindD (sem a).2 (thenD (conD (.bl true)) (sem b).2))
  | .ite c a b => (bindD (sem c).2 (thenD (sem a).1 (sem b).1), bindD (sem c).2 (thenD (sem a).2 (sem b).2))
  | .att a k => both G Γ (bindD (sem a).1 (attD G Γ k))
  | .sub a b => both G Γ (bind2 (sem a).1 (sem b).1 subD)
  | .cut a lo hi => both G Γ (bindD (sem a).1 fun d => endD lo (sem lo).1 fun l => endD hi (sem hi).1 fun h => cutV2 d l h)
  | .tup es => both G Γ (bindDs (sems es) tupD)
  | .lst es => both G Γ (bindDs (sems es) lstD)
  | .mlst es => both G Γ (bindDs (sems es) mlstD)
  | .call i es ks => both G Γ (argsD (sems es) (sems ks) fun ds => spT (Γ i) ds)
  | .meth a k n es ks => both G Γ (bindD (sem a).1 fun d => methD G Γ k n d (sems es) (sems ks))
  | .stat c k n es ks => both G Γ (match G.sm c k n with
    | some i => argsD (sems es) (sems ks) fun ds => spT (Γ i) ds
    | none => fun _ _ _ _ => False)
  | .blt b es => both G Γ (bindDs (sems es) (bltD G Γ b))
  | .frz a => (bindD (sem a).1 frzD, fun _ _ _ _ => False)
def sems : Es → TDs
  | .nil => nilD
  | .cons e es => consD (sem e).1 (sems es)
end
end
end PyD
set_option Elab.async false
set_option linter.all false
set_option autoImplicit false
set_option maxRecDepth 100000
set_option maxHeartbeats 4000000
/-! # Expressions: soundness -/
namespace PyD
open PySem PySem.Spec L2
section
variable {X : Cx} {G : Gam} {B : Bs} {W : WX} {Γ : Nat → SpD} {kx : Nat}
theorem pt_val (c : Ctx X G W Γ kx) {x : Expr} {t : TD} (h : PE X x (TEx X.K G B W t)) (hp : testPlain x = true) : PT X x (TTx X.K G B W (bindD t (truD G Γ))) := by
  refine ⟨fun pins s σ H Q I hq => ?_⟩
  obtain ⟨ρ, M, J, K1, E1, sr, q, ok, er⟩ := hq
  refine PyProof.Rows.isTrue_plain (thn (h.run pins s σ H (fun v H1 => ∃ M1 J1 d, Ext J J1 ∧ SR X.K G B σ H1 ρ M1 J1 ∧ Rep X.K G J1 d v ∧ truD G Γ d ρ M1 K1 E1) I ⟨ρ, M, J, _, E1, sr, q, fun d M' v H' I' z e s' r => ⟨M', I', d, e, s', r, z⟩, er⟩) fun v s1 ⟨z, H1, I1, rz, M1, J1, d, e1, sr1, r1, t1⟩ => ?_) (test_of hp _)
  refine thn (tru_any c (c.room.mono (by omega)) c.guards I.ok.frames I1 sr1 r1 rz t1 er) fun b s2 h2 => ?_
  obtain ⟨M2, H2, J2, k, e2, sr2, I2⟩ := h2
  obtain ⟨b', eb, q2⟩ := ok _ _ _ _ k (e1.trans e2) sr2
  cases eb
  exact ⟨H2, I2, q2⟩
theorem both_ok (c : Ctx X G W Γ kx) {x : Expr} {t : TD} (h : PE X x (TEx X.K G B W t)) (hp : testPlain x = true) : PE X x (TEx X.K G B W (both G Γ t).1) ∧ PT X x (TTx X.K G B W (both G Γ t).2) := ⟨h, pt_val c h hp⟩
/-- a comparison as a test -/
theorem pt_cmpD (c : Ctx X G W Γ kx) {a b : Expr} {ta tb : TD} {op : CmpOp} {pos : Pos} (ha : PE X a (TEx X.K G B W ta)) (hb : PE X b (TEx X.K G B W tb)) (hm : behindInMarks op b = false) :
    PT X (.Compare a [op] [b] pos) (TTx X.K G B W (bindD (bind2 ta tb (cmpD G Γ op)) (truD G Γ))) := by
  refine ⟨fun pins s σ H Q I hq => ?_⟩
  obtain ⟨ρ, M, J, K1, E1, sr, q, ok, er⟩ := hq
  refine wpAny_isTrue_Compare1 (L2.bin ha hb I (tex_bind2 (f := cmpD G Γ op) (Q := fun v H1 => ∃ M1 J1 d, Ext J J1 ∧ SR X.K G B σ H1 ρ M1 J1 ∧ Rep X.K G J1 d v ∧ truD G Γ d ρ M1 K1 E1) ⟨ρ, M, J, _, E1, sr, q, fun d M' v H' I' z e s' r => ⟨M', I', d, e, s', r, z⟩, er⟩) fun v u s2 x y H2 I2 rx ry q2 => ?_) hm
  refine thn (op2_cmp c op pins s2 σ H2 _ x y v u I2 rx ry q2) fun w s3 ⟨z, H3, I3, rz, M3, J3, d, e3, sr3, r3, t3⟩ => ?_
  refine thn (tru_any c (c.room.mono (by omega)) c.guards I.ok.frames I3 sr3 r3 rz t3 er) fun b s2 h2 => ?_
  obtain ⟨M2, H2, J2, k, e2, sr2, I2⟩ := h2
  obtain ⟨b', eb, q2⟩ := ok _ _ _ _ k (e3.trans e2) sr2
  cases eb
  exact ⟨H2, I2, q2⟩
/-- two comparisons, one behind the other -/
theorem chn_any (c : Ctx X G W Γ kx) {pins : List (Addr × Obj)} {s : Shared} {σ : L2.St} {H : Hp} {ρ : Slots} {M : Mst} {J : Hp} {K1 : KD} {E1 : ED} {op : CmpOp} {x y : V} {u v : Value} {d e : D} {tl : TD}
    (I : L2.Inv X pins σ H s) (sr : SR X.K G B σ H ρ M J) (r1 : Rep X.K G J d x) (r2 : Rep X.K G J e y) (rx : RelV x u) (ry : RelV y v) (t : bindD (cmpD G Γ op d e) (fun z => thenD tl (conD (.bl false)) z) ρ M K1 E1) (er : ErC X.K G B W σ ρ E1) :
    wpAny (model X.prog X.w) X.A (compareOp op u v) (fun w s' => ∃ b M' H' J', w = .bool b ∧ Ext J J' ∧ SR X.K G B σ H' ρ M' J' ∧ L2.Inv X pins σ H' s' ∧ (if b = true then tl ρ M' K1 E1 else K1 (.bl false) M')) X.xe s := by
  refine thn (op2_cmp c op pins s σ H (fun w H' => ∃ b M' J', w = .bl b ∧ Ext J J' ∧ SR X.K G B σ H' ρ M' J' ∧ (if b = true then tl ρ M' K1 E1 else K1 (.bl false) M')) x y u v I rx ry ⟨ρ, M, J, _, E1, d, e, sr, r1, r2, t, fun z M' w H' J' k e1 s' r => ?_, er⟩) fun w s' ⟨z, H', I', rz, b, M', J', e, e1, sr', q⟩ => ?_
  · obtain ⟨b, rfl, k⟩ := br_ok k
    unfold Rep at r
    cases b with
    | true => exact ⟨true, M', J', r, e1, s', PyProof.Rows.ite_tt k⟩
    | false => exact ⟨false, M', J', r, e1, s', PyProof.Rows.ite_ff k⟩
  · subst e
    exact ⟨b, M', H', J', rz, e1, sr', I', q⟩
theorem pe_chnD (c : Ctx X G W Γ kx) {a b d : Expr} {ta tb tc : TD} {op op' : CmpOp} {pos : Pos} (ha : PE X a (TEx X.K G B W ta)) (hb : PE X b (TEx X.K G B W tb)) (hc : PE X d (TEx X.K G B W tc)) (hm : noSet b = true) (hm2 : noSet d = true) :
    PE X (.Compare a [op, op'] [b, d] pos) (TEx X.K G B W (chnD G Γ op op' ta tb tc)) ∧ PT X (.Compare a [op, op'] [b, d] pos) (TTx X.K G B W (bindD (chnD G Γ op op' ta tb tc) (truD G Γ))) := by
  have hl : lastMarks [op, op'] [b, d] = false := marks_of hm2
  constructor
  · refine ⟨fun pins s σ H Q I hq => ?_⟩
    obtain ⟨ρ, M, J, K1, E1, sr, q, ok, er⟩ := hq
    refine PyProof.Rows.Compare_chain (thn (ha.run pins s σ H (fun x H1 => ∃ M1 J1 dx, Ext J J1 ∧ SR X.K G B σ H1 ρ M1 J1 ∧ Rep X.K G J1 dx x ∧ bindD tb (fun e => bindD (cmpD G Γ op dx e) fun z => thenD (bindD tc fun f => cmpD G Γ op' e f) (conD (.bl false)) z) ρ M1 K1 E1) I ⟨ρ, M, J, _, E1, sr, q, fun d M' v H' I' z e s' r => ⟨M', I', d, e, s', r, z⟩, er⟩) fun v s1 ⟨x, H1, I1, rx, M1, J1, dx, e1, sr1, r1, t1⟩ => PyProof.Rows.chain_link (thn (hb.run pins s1 σ H1 (fun y H2 => ∃ M2 J2 dy, Ext J1 J2 ∧ SR X.K G B σ H2 ρ M2 J2 ∧ Rep X.K G J2 dy y ∧ bindD (cmpD G Γ op dx dy) (fun z => thenD (bindD tc fun f => cmpD G Γ op' dy f) (conD (.bl false)) z) ρ M2 K1 E1) I1 ⟨ρ, M1, J1, _, E1, sr1, t1, fun d M' v H' I' z e s' r => ⟨M', I', d, e, s', r, z⟩, er⟩) fun u s2 ⟨y, H2, I2, ry, M2, J2, dy, e2, sr2, r2, t2⟩ =>
      thn (chn_any c I2 sr2 (r1.ext e2) r2 rx ry t2 er) fun w s3 ⟨k, M3, H3, J3, ew, e3, sr3, I3, t3⟩ => ?_)) hl
    subst ew
    refine wpAny_truthy_bool ?_
    have x3 := (e1.trans e2).trans e3
    cases k with
    | false => exact PyProof.Rows.ite_ff ⟨.bl false, H3, I3, rfl, ok _ _ _ _ _ t3 x3 sr3 rep_bl⟩
    | true =>
      refine PyProof.Rows.ite_tt (PyProof.Rows.chain_last (thn (hc.run pins s3 σ H3 (fun y' H4 => ∃ M4 J4 de, Ext J3 J4 ∧ SR X.K G B σ H4 ρ M4 J4 ∧ Rep X.K G J4 de y' ∧ cmpD G Γ op' dy de ρ M4 K1 E1) I3 ⟨ρ, M3, J3, _, E1, sr3, t3, fun d M' v H' I' z e s' r => ⟨M', I', d, e, s', r, z⟩, er⟩) fun w' s4 ⟨z', H4, I4, r4, M4, J4, de, e4, sr4, q4, t4⟩ => ?_))
      exact op2_cmp c op' pins s4 σ H4 Q y z' u w' I4 ry r4 ⟨ρ, M4, J4, K1, E1, dy, de, sr4, (r2.ext e3).ext e4, q4, t4, ok.mono (x3.trans e4), er⟩
  · refine ⟨fun pins s σ H Q I hq => ?_⟩
    obtain ⟨ρ, M, J, K0, E1, sr, q, ok, er⟩ := hq
    refine PyProof.Rows.isTrue_chain (thn (ha.run pins s σ H (fun x H1 => ∃ M1 J1 dx, Ext J J1 ∧ SR X.K G B σ H1 ρ M1 J1 ∧ Rep X.K G J1 dx x ∧ bindD tb (fun e => bindD (cmpD G Γ op dx e) fun z => thenD (bindD tc fun f => cmpD G Γ op' e f) (conD (.bl false)) z) ρ M1 (fun z M' => truD G Γ z ρ M' K0 E1) E1) I ⟨ρ, M, J, _, E1, sr, q, fun d M' v H' I' z e s' r => ⟨M', I', d, e, s', r, z⟩, er⟩) fun v s1 ⟨x, H1, I1, rx, M1, J1, dx, e1, sr1, r1, t1⟩ => PyProof.Rows.test_link (thn (hb.run pins s1 σ H1 (fun y H2 => ∃ M2 J2 dy, Ext J1 J2 ∧ SR X.K G B σ H2 ρ M2 J2 ∧ Rep X.K G J2 dy y ∧ bindD (cmpD G Γ op dx dy) (fun z => thenD (bindD tc fun f => cmpD G Γ op' dy f) (conD (.bl false)) z) ρ M2 (fun z M' => truD G Γ z ρ M' K0 E1) E1) I1 ⟨ρ, M1, J1, _, E1, sr1, t1, fun d M' v H' I' z e s' r => ⟨M', I', d, e, s', r, z⟩, er⟩) fun u s2 ⟨y, H2, I2, ry, M2, J2, dy, e2, sr2, r2, t2⟩ =>
      thn (chn_any c I2 sr2 (r1.ext e2) r2 rx ry t2 er) fun w s3 ⟨k, M3, H3, J3, ew, e3, sr3, I3, t3⟩ => ?_)) hl
    subst ew
    refine wpAny_truthy_bool ?_
    have x3 := (e1.trans e2).trans e3
    have fin : ∀ {s4 : Shared} {H4 : Hp} {M4 : Mst} {J4 : Hp} {d4 : D} {z4 : V} {u4 : Value}, L2.Inv X pins σ H4 s4 → Ext J J4 → SR X.K G B σ H4 ρ M4 J4 → Rep X.K G J4 d4 z4 → RelV z4 u4 → truD G Γ d4 ρ M4 K0 E1 → wpAny (model X.prog X.w) X.A (truthy u4) (TP X pins σ Q) X.xe s4 := by
      intro s4 H4 M4 J4 d4 z4 u4 I4 e4 sr4 r4 rz4 t4
      refine thn (tru_any c (c.room.mono (by omega)) c.guards I.ok.frames I4 sr4 r4 rz4 t4 er) fun b s5 h5 => ?_
      obtain ⟨M5, H5, J5, k5, e5, sr5, I5⟩ := h5
      obtain ⟨b', eb, q5⟩ := ok _ _ _ _ k5 (e4.trans e5) sr5
      cases eb
      exact ⟨H5, I5, q5⟩
    cases k with
    | false =>
      refine PyProof.Rows.ite_ff ?_
      obtain ⟨b', eb, q5⟩ := ok (.bl false) M3 H3 J3 t3 x3 sr3
      cases eb
      exact ⟨H3, I3, q5⟩
    | true =>
      refine PyProof.Rows.ite_tt (PyProof.Rows.test_last (thn (hc.run pins s3 σ H3 (fun y' H4 => ∃ M4 J4 de, Ext J3 J4 ∧ SR X.K G B σ H4 ρ M4 J4 ∧ Rep X.K G J4 de y' ∧ cmpD G Γ op' dy de ρ M4 (fun z M' => truD G Γ z ρ M' K0 E1) E1) I3 ⟨ρ, M3, J3, _, E1, sr3, t3, fun d M' v H' I' z e s' r => ⟨M', I', d, e, s', r, z⟩, er⟩) fun w' s4 ⟨z', H4, I4, r4, M4, J4, de, e4, sr4, q4, t4⟩ => ?_))
      refine thn (op2_cmp c op' pins s4 σ H4 (fun w H5 => ∃ M5 J5 d5, Ext J4 J5 ∧ SR X.K G B σ H5 ρ M5 J5 ∧ Rep X.K G J5 d5 w ∧ truD G Γ d5 ρ M5 K0 E1) y z' u w' I4 ry r4 ⟨ρ, M4, J4, _, E1, dy, de, sr4, (r2.ext e3).ext e4, q4, t4, fun d M' v H' I' z e s' r => ⟨M', I', d, e, s', r, z⟩, er⟩) fun w5 s5 ⟨z5, H5, I5, r5, M5, J5, d5, e5, sr5, q5, t5⟩ => ?_
      exact fin I5 ((x3.trans e4).trans e5) sr5 q5 r5 t5
/-- behind an expression -/
theorem run_e {x : Expr} {t : TD} {f : D → TD} {pins : List (Addr × Obj)} {s : Shared} {σ : L2.St} {H : Hp} {ρ : Slots} {M : Mst} {J : Hp} {K1 : KD} {E1 : ED} {R : Value → Shared → Prop} (h : PE X x (TEx X.K G B W t)) (I : L2.Inv X pins σ H s) (sr : SR X.K G B σ H ρ M J) (q : bindD t f ρ M K1 E1) (er : ErC X.K G B W σ ρ E1)
    (go : ∀ v s1 z H1 M1 J1 d, L2.Inv X pins σ H1 s1 → RelV z v → Ext J J1 → SR X.K G B σ H1 ρ M1 J1 → Rep X.K G J1 d z → f d ρ M1 K1 E1 → R v s1) : wpAny (model X.prog X.w) X.A (eval x X.env) R X.xe s :=
  thn (h.run pins s σ H (fun v H1 => ∃ M1 J1 d, Ext J J1 ∧ SR X.K G B σ H1 ρ M1 J1 ∧ Rep X.K G J1 d v ∧ f d ρ M1 K1 E1) I ⟨ρ, M, J, _, E1, sr, q, fun d M' v H' I' z e s' r => ⟨M', I', d, e, s', r, z⟩, er⟩) fun v s1 ⟨z, H1, I1, rz, M1, J1, d, e1, sr1, r1, t1⟩ => go v s1 z H1 M1 J1 d I1 rz e1 sr1 r1 t1
/-- behind a test -/
theorem run_t {x : Expr} {t : TD} {f : D → TD} {pins : List (Addr × Obj)} {s : Shared} {σ : L2.St} {H : Hp} {ρ : Slots} {M : Mst} {J : Hp} {K1 : KD} {E1 : ED} {R : Bool → Shared → Prop} (h : PT X x (TTx X.K G B W t)) (I : L2.Inv X pins σ H s) (sr : SR X.K G B σ H ρ M J) (q : bindD t f ρ M K1 E1) (er : ErC X.K G B W σ ρ E1)
    (ev : ∀ d ρ M K E, f d ρ M K E → ∃ b, d = .bl b)
    (go : ∀ b s1 H1 M1 J1, L2.Inv X pins σ H1 s1 → Ext J J1 → SR X.K G B σ H1 ρ M1 J1 → f (.bl b) ρ M1 K1 E1 → R b s1) : wpAny (model X.prog X.w) X.A (isTrue x X.env (eval x X.env)) R X.xe s :=
  thn (h.run pins s σ H (fun b H1 => ∃ M1 J1, Ext J J1 ∧ SR X.K G B σ H1 ρ M1 J1 ∧ f (.bl b) ρ M1 K1 E1) I ⟨ρ, M, J, _, E1, sr, q, fun d M' H' I' z e s' => by
    obtain ⟨b, rfl⟩ := ev _ _ _ _ _ z
    exact ⟨b, rfl, M', I', e, s', z⟩, er⟩) fun b s1 ⟨H1, I1, M1, J1, e1, sr1, t1⟩ => go b s1 H1 M1 J1 I1 e1 sr1 t1
theorem then_bl {t u : TD} (d : D) (ρ : Slots) (M : Mst) (K : KD) (E : ED) (h : thenD t u d ρ M K E) : ∃ b, d = .bl b := by
  obtain ⟨b, e, _⟩ := br_ok h
  exact ⟨b, e⟩
theorem not_bl (d : D) (ρ : Slots) (M : Mst) (K : KD) (E : ED) (h : notD d ρ M K E) : ∃ b, d = .bl b := by
  unfold notD at h
  split at h
  · exact ⟨_, rfl⟩
  · exact h.elim
theorem pd_neg (c : Ctx X G W Γ kx) {a : Expr} {ta : TD} {pos : Pos} (ha : PE X a (TEx X.K G B W ta)) : PE X (.UnaryOp .USub a pos) (TEx X.K G B W (bindD ta (negD G Γ))) := by
  refine ⟨fun pins s σ H Q I hq => ?_⟩
  obtain ⟨ρ, M, J, K1, E1, sr, q, ok, er⟩ := hq
  refine PyProof.Rows.UnaryOp_ (run_e ha I sr q er fun v s1 z H1 M1 J1 d I1 rz e1 sr1 r1 t1 => ?_)
  have byI : (instX d M1 fun _ _ => ownD G Γ 19 d [] ρ M1 K1 E1) → wpAny (model X.prog X.w) X.A (unaryOp .USub v) (EP X pins σ Q) X.xe s1 := by
    intro t
    obtain ⟨cc, fs, hi, t⟩ := instX_ok t
    obtain ⟨i, h1, hks, t⟩ := ownD_at _ _ t hi
    · skip
      · skip
        obtain ⟨a, dx, vfs, rfl, hA, _⟩ := instD_ok sr1.good r1 hi
        obtain rfl : v = Value.ref a := rz
        obtain ⟨_, ⟨m11, m12, m13⟩, sf⟩ := c.ops.ok.dn _ _ _ h1
        obtain ⟨od, J2⟩ := inst_at I1 hA
        obtain ⟨mf, Fr⟩ := I1.fr
        rw [show G.nm 19 = "__neg__" from c.ops.dund 19 (by decide)] at m11
        exact PySem.W.ksp_neg Fr I1.mod.kin J2 m11 m12 (own_run c (c.room.mono (by omega)) c.guards I.ok.frames I1 sr1 (.cons r1 .nil) (.cons (show RelV (V.ref a) (Value.ref a) from rfl) .nil) hks t (ok.mono e1) er)
  unfold negD at t1
  split at t1
  · unfold Rep at r1
    subst r1
    exact un_neg pins s1 σ H1 _ v Q I1 rz ⟨_, rfl, fin_ok sr1 (ok.mono e1) rep_int t1⟩
  · exact byI t1
theorem pd_not (c : Ctx X G W Γ kx) {a : Expr} {ta : TD} {pos : Pos} (ha : PE X a (TEx X.K G B W ta)) : PE X (.UnaryOp .Not a pos) (TEx X.K G B W (bindD (bindD ta (truD G Γ)) notD)) := by
  refine ⟨fun pins s σ H Q I hq => ?_⟩
  obtain ⟨ρ, M, J, K1, E1, sr, q, ok, er⟩ := hq
  refine PyProof.Rows.UnaryOp_ (run_e (f := fun d => bindD (truD G Γ d) notD) ha I sr q er fun v s1 z H1 M1 J1 d I1 rz e1 sr1 r1 t1 => ?_)
  refine PyProof.Rows.not_of (thn (tru_any c (c.room.mono (by omega)) c.guards I.ok.frames I1 sr1 r1 rz t1 er) fun b s2 h2 => ?_)
  obtain ⟨M2, H2, J2, k, e2, sr2, I2⟩ := h2
  exact ⟨.bl (!b), H2, I2, rfl, ok _ _ _ _ _ k (e1.trans e2) sr2 rep_bl⟩
theorem ptd_not {a : Expr} {ta : TD} {pos : Pos} (ha : PT X a (TTx X.K G B W ta)) : PT X (.UnaryOp .Not a pos) (TTx X.K G B W (bindD ta notD)) := by
  refine ⟨fun pins s σ H Q I hq => ?_⟩
  obtain ⟨ρ, M, J, K1, E1, sr, q, ok, er⟩ := hq
  refine PyProof.Rows.isTrue_not (run_t ha I sr q er not_bl fun b s1 H1 M1 J1 I1 e1 sr1 t1 => ?_)
  obtain ⟨b', eb, q2⟩ := ok _ _ _ _ t1 e1 sr1
  cases eb
  exact ⟨H1, I1, q2⟩
theorem pd_and (c : Ctx X G W Γ kx) {a b : Expr} {rest : List Expr} {ta tb : TD} {pos : Pos} (ha : PE X a (TEx X.K G B W ta)) (hb : PE X (.BoolOp .And (b :: rest) pos) (TEx X.K G B W tb)) :
    PE X (.BoolOp .And (a :: b :: rest) pos) (TEx X.K G B W (bindD ta fun d => bindD (truD G Γ d) (thenD tb (conD d)))) := by
  refine ⟨fun pins s σ H Q I hq => ?_⟩
  obtain ⟨ρ, M, J, K1, E1, sr, q, ok, er⟩ := hq
  refine PyProof.Rows.BoolOp_and (run_e (f := fun d => bindD (truD G Γ d) (thenD tb (conD d))) ha I sr q er fun v s1 z H1 M1 J1 d I1 rz e1 sr1 r1 t1 => ?_)
  refine thn (tru_any c (c.room.mono (by omega)) c.guards I.ok.frames I1 sr1 r1 rz t1 er) fun k s2 h2 => ?_
  obtain ⟨M2, H2, J2, h, e2, sr2, I2⟩ := h2
  cases k with
  | true => exact hb.run pins s2 σ H2 Q I2 ⟨ρ, M2, J2, K1, E1, sr2, h, ok.mono (e1.trans e2), er⟩
  | false => exact ⟨z, H2, I2, rz, ok _ _ _ _ _ h (e1.trans e2) sr2 (r1.ext e2)⟩
theorem pd_or (c : Ctx X G W Γ kx) {a b : Expr} {rest : List Expr} {ta tb : TD} {pos : Pos} (ha : PE X a (TEx X.K G B W ta)) (hb : PE X (.BoolOp .Or (b :: rest) pos) (TEx X.K G B W tb)) :
    PE X (.BoolOp .Or (a :: b :: rest) pos) (TEx X.K G B W (bindD ta fun d => bindD (truD G Γ d) (thenD (conD d) tb))) := by
  refine ⟨fun pins s σ H Q I hq => ?_⟩
  obtain ⟨ρ, M, J, K1, E1, sr, q, ok, er⟩ := hq
  refine PyProof.Rows.BoolOp_or (run_e (f := fun d => bindD (truD G Γ d) (thenD (conD d) tb)) ha I sr q er fun v s1 z H1 M1 J1 d I1 rz e1 sr1 r1 t1 => ?_)
  refine thn (tru_any c (c.room.mono (by omega)) c.guards I.ok.frames I1 sr1 r1 rz t1 er) fun k s2 h2 => ?_
  obtain ⟨M2, H2, J2, h, e2, sr2, I2⟩ := h2
  cases k with
  | false => exact hb.run pins s2 σ H2 Q I2 ⟨ρ, M2, J2, K1, E1, sr2, h, ok.mono (e1.trans e2), er⟩
  | true => exact ⟨z, H2, I2, rz, ok _ _ _ _ _ h (e1.trans e2) sr2 (r1.ext e2)⟩
theorem ptd_and {a b : Expr} {rest : List Expr} {ta tb : TD} {pos : Pos} (ha : PT X a (TTx X.K G B W ta)) (hb : ∀ whole, ∀ (pins : List (Addr × Obj)) (s : Shared) (σ : L2.St) (H : Hp) (Q : Bool → Hp → Prop), L2.Inv X pins σ H s → TTx X.K G B W tb σ H Q → wpAny (model X.prog X.w) X.A (isTrue (.BoolOp .And (b :: rest) pos) X.env whole) (TP X pins σ Q) X.xe s) :
    ∀ whole, ∀ (pins : List (Addr × Obj)) (s : Shared) (σ : L2.St) (H : Hp) (Q : Bool → Hp → Prop), L2.Inv X pins σ H s → TTx X.K G B W (bindD ta (thenD tb (conD (.bl false)))) σ H Q → wpAny (model X.prog X.w) X.A (isTrue (.BoolOp .And (a :: b :: rest) pos) X.env whole) (TP X pins σ Q) X.xe s := by
  intro whole pins s σ H Q I hq
  obtain ⟨ρ, M, J, K1, E1, sr, q, ok, er⟩ := hq
  refine PyProof.Rows.isTrue_and (run_t ha I sr q er then_bl fun k s1 H1 M1 J1 I1 e1 sr1 t1 => ?_)
  cases k with
  | true => exact hb whole pins s1 σ H1 Q I1 ⟨ρ, M1, J1, K1, E1, sr1, t1, fun d M' H' I' z e s' => ok d M' H' I' z (e1.trans e) s', er⟩
  | false =>
    obtain ⟨b', eb, q2⟩ := ok _ _ _ _ t1 e1 sr1
    cases eb
    exact ⟨H1, I1, q2⟩
theorem ptd_or {a b : Expr} {rest : List Expr} {ta tb : TD} {pos : Pos} (ha : PT X a (TTx X.K G B W ta)) (hb : ∀ whole, ∀ (pins : List (Addr × Obj)) (s : Shared) (σ : L2.St) (H : Hp) (Q : Bool → Hp → Prop), L2.Inv X pins σ H s → TTx X.K G B W tb σ H Q → wpAny (model X.prog X.w) X.A (isTrue (.BoolOp .Or (b :: rest) pos) X.env whole) (TP X pins σ Q) X.xe s) :
    ∀ whole, ∀ (pins : List (Addr × Obj)) (s : Shared) (σ : L2.St) (H : Hp) (Q : Bool → Hp → Prop), L2.Inv X pins σ H s → TTx X.K G B W (bindD ta (thenD (conD (.bl true)) tb)) σ H Q → wpAny (model X.prog X.w) X.A (isTrue (.BoolOp .Or (a :: b :: rest) pos) X.env whole) (TP X pins σ Q) X.xe s := by
  intro whole pins s σ H Q I hq
  obtain ⟨ρ, M, J, K1, E1, sr, q, ok, er⟩ := hq
  refine PyProof.Rows.isTrue_or (run_t ha I sr q er then_bl fun k s1 H1 M1 J1 I1 e1 sr1 t1 => ?_)
  cases k with
  | false => exact hb whole pins s1 σ H1 Q I1 ⟨ρ, M1, J1, K1, E1, sr1, t1, fun d M' H' I' z e s' => ok d M' H' I' z (e1.trans e) s', er⟩
  | true =>
    obtain ⟨b', eb, q2⟩ := ok _ _ _ _ t1 e1 sr1
    cases eb
    exact ⟨H1, I1, q2⟩
theorem pd_ite {a b d : Expr} {tc ta tb : TD} {pos : Pos} (hc : PT X d (TTx X.K G B W tc)) (ha : PE X a (TEx X.K G B W ta)) (hb : PE X b (TEx X.K G B W tb)) : PE X (.IfExp d a b pos) (TEx X.K G B W (bindD tc (thenD ta tb))) := by
  refine ⟨fun pins s σ H Q I hq => ?_⟩
  obtain ⟨ρ, M, J, K1, E1, sr, q, ok, er⟩ := hq
  refine PyProof.Rows.IfExp_ (run_t hc I sr q er then_bl fun k s1 H1 M1 J1 I1 e1 sr1 t1 => ?_)
  cases k with
  | true => exact ha.run pins s1 σ H1 Q I1 ⟨ρ, M1, J1, K1, E1, sr1, t1, ok.mono e1, er⟩
  | false => exact hb.run pins s1 σ H1 Q I1 ⟨ρ, M1, J1, K1, E1, sr1, t1, ok.mono e1, er⟩
theorem ptd_ite {a b d : Expr} {tc ta tb : TD} {pos : Pos} (hc : PT X d (TTx X.K G B W tc)) (ha : PT X a (TTx X.K G B W ta)) (hb : PT X b (TTx X.K G B W tb)) : PT X (.IfExp d a b pos) (TTx X.K G B W (bindD tc (thenD ta tb))) := by
  refine ⟨fun pins s σ H Q I hq => ?_⟩
  obtain ⟨ρ, M, J, K1, E1, sr, q, ok, er⟩ := hq
  refine PyProof.Rows.isTrue_IfExp (run_t hc I sr q er then_bl fun k s1 H1 M1 J1 I1 e1 sr1 t1 => ?_)
  cases k with
  | true => exact ha.run pins s1 σ H1 Q I1 ⟨ρ, M1, J1, K1, E1, sr1, t1, fun d M' H' I' z e s' => ok d M' H' I' z (e1.trans e) s', er⟩
  | false => exact hb.run pins s1 σ H1 Q I1 ⟨ρ, M1, J1, K1, E1, sr1, t1, fun d M' H' I' z e s' => ok d M' H' I' z (e1.trans e) s', er⟩
theorem pd_frz {a : Expr} {ta : TD} (ha : PE X a (TEx X.K G B W ta)) : PE X a (TEx X.K G B W (bindD ta frzD)) := by
  refine ⟨fun pins s σ H Q I hq => ?_⟩
  obtain ⟨ρ, M, J, K1, E1, sr, q, ok, er⟩ := hq
  refine run_e ha I sr q er fun v s1 z H1 M1 J1 d I1 rz e1 sr1 r1 t1 => ?_
  unfold frzD at t1
  split at t1
  · rename_i a
    unfold Rep at r1
    subst r1
    split at t1
    · rename_i cc fs hm
      obtain ⟨o, ho, mr, g, f⟩ := sr1.good.freeze hm
      obtain ⟨dx, vfs, rfl, hF⟩ := mr
      exact ⟨_, H1, I1, rz, ok _ _ _ _ _ t1 (e1.trans f.ext) (sr1.step g f) (by unfold Rep; exact ⟨a, dx, vfs, rfl, upd_same, hF.ext f.ext⟩)⟩
    · rename_i xs hm
      obtain ⟨o, ho, mr, g, f⟩ := sr1.good.freeze hm
      obtain ⟨vs, rfl, hF⟩ := mr
      exact ⟨_, H1, I1, rz, ok _ _ _ _ _ t1 (e1.trans f.ext) (sr1.step g f) (by unfold Rep; exact ⟨a, vs, rfl, .of upd_same, hF.ext f.ext⟩)⟩
    · rename_i xs hm
      obtain ⟨o, ho, mr, g, f⟩ := sr1.good.freeze hm
      obtain ⟨vs, rfl, hF⟩ := mr
      exact ⟨_, H1, I1, rz, ok _ _ _ _ _ t1 (e1.trans f.ext) (sr1.step g f) (by unfold Rep; exact ⟨a, vs, rfl, upd_same, hF.ext f.ext⟩)⟩
    · exact t1.elim
  · exact t1.elim
theorem pd_blt (c : Ctx X G W Γ kx) {b : Blt} {p pos : Pos} {es : List Expr} {ta : TDs} (hg : Gl X b.nm) (ha : PA X es (TAx X.K G B W ta)) (h1 : es.all noStar = true) (hn : es ≠ []) : PE X (.Call (.Name b.nm p) es [] pos) (TEx X.K G B W (bindDs ta (bltD G Γ b))) := by
  have hm := c.gg.blt _ b.mem
  cases es with
  | nil => exact absurd rfl hn
  | cons e es =>
    rw [List.all_cons, Bool.and_eq_true] at h1
    have hv := b.boot
    refine ⟨fun pins s σ H Q I hq => ?_⟩
    have go : wpAny (model X.prog X.w) X.A (spliced (backTo pos (starEach (e :: es) X.env))) (fun vs s₁ => wpAny (model X.prog X.w) X.A (PySem.call b.val vs) (EP X pins σ Q) X.xe s₁) X.xe s := by
      refine thn (ha.run pos pins s σ H _ I (tex_binds hq)) fun us s1 ⟨vs, H1, I1, r1, q1⟩ => ?_
      exact opN_blt c b pins s1 σ H1 Q vs us I1 r1 q1
    refine wpAny_Call_Name_kw (ld_blt I hg hm hv ?_ b.ne b.nd)
    have hty : (∃ id, b.val = .builtin id) ∨ ∃ T, b.val = .type T := by cases b <;> first | exact .inl ⟨_, rfl⟩ | exact .inr ⟨_, rfl⟩
    rcases hty with ⟨id, e1⟩ | ⟨T, e1⟩
    · rw [e1] at go ⊢
      exact PyProof.Rows.callWith_builtin1 go (star_cons h1.1) (star_any h1.2)
    · rw [e1] at go ⊢
      exact PyProof.Rows.callWith_type1 go (star_cons h1.1) (star_any h1.2)
end
end PyD
set_option Elab.async false
set_option linter.all false
set_option autoImplicit false
set_option maxRecDepth 100000
set_option maxHeartbeats 4000000
/-! # Expressions: soundness of the whole reading -/
namespace PyD
open PySem PySem.Spec L2
section
variable {X : Cx} {G : Gam} {B : Bs} {W : WX} {Γ : Nat → SpD} {kx : Nat}
def POd (X : Cx) (G : Gam) (B : Bs) (W : WX) (x : Option Expr) (e : E) (t : TD) : Prop := ∃ tl, PO X x tl ∧ ∀ σ H ρ M J K1 E1 (f : Option Int → TD) (R : Option Int → Hp → Prop), SR X.K G B σ H ρ M J → endD e t f ρ M K1 E1 → ErC X.K G B W σ ρ E1 →
  (∀ o M' H' J', Ext J J' → SR X.K G B σ H' ρ M' J' → f o ρ M' K1 E1 → R o H') → tl σ H R
theorem pod_none {e : E} {t : TD} (h : isNo e = true) : POd X G B W none e t := by
  refine ⟨_, po_none, fun σ H ρ M J K1 E1 f R sr q er go => ?_⟩
  cases e <;> first | exact Bool.noConfusion (show false = true from h) | exact go none M H J (.refl J) sr q
theorem pod_some {x : Expr} {e : E} {t : TD} (hx : PE X x (TEx X.K G B W t)) (h : isNo e = false) : POd X G B W (some x) e t := by
  refine ⟨_, po_some hx, fun σ H ρ M J K1 E1 f R sr q er go => ?_⟩
  have q' : bindD t (fun d => match d with
    | .int i => f (some i)
    | _ => fun _ _ _ _ => False) ρ M K1 E1 := by
    cases e <;> first | exact q | exact Bool.noConfusion (show true = false from h)
  refine ⟨ρ, M, J, _, E1, sr, q', fun d M' v H' J' z e1 s' r => ?_, er⟩
  dsimp only at z
  split at z
  · unfold Rep at r
    exact ⟨_, r, go _ M' H' J' e1 s' z⟩
  · exact z.elim
theorem pd_cut {a : Expr} {lo hi : Option Expr} {el eh : E} {ta tl th : TD} {p2 pos : Pos} (ha : PE X a (TEx X.K G B W ta)) (hl : POd X G B W lo el tl) (hh : POd X G B W hi eh th) :
    PE X (.Subscript a (.Slice lo hi none p2) pos) (TEx X.K G B W (bindD ta fun d => endD el tl fun l => endD eh th fun h => cutV2 d l h)) := by
  obtain ⟨ol, pl, gl⟩ := hl
  obtain ⟨oh, ph, gh⟩ := hh
  refine PE.imp (pe_slice (SlR.or (SlR.or sl_list sl_tup) sl_str) ha pl ph) fun σ H Q hq => ?_
  obtain ⟨ρ, M, J, K1, E1, sr, q, ok, er⟩ := hq
  refine ⟨ρ, M, J, _, E1, sr, q, fun d M1 v H1 J1 z e1 sr1 r1 => ?_, er⟩
  refine gl σ H1 ρ M1 J1 K1 E1 _ _ sr1 z er fun l M2 H2 J2 e2 sr2 z2 => ?_
  refine gh σ H2 ρ M2 J2 K1 E1 _ _ sr2 z2 er fun h M3 H3 J3 e3 sr3 z3 => ?_
  have r3 := r1.ext (e2.trans e3)
  have x3 := (e1.trans e2).trans e3
  have lst : ∀ {xs : List D}, seqD d M3 = some xs → (∃ a vs, v = .ref a ∧ SqL X.K H3 a vs ∧ Reps X.K G J3 xs vs) → K1 (.lst (cutD xs l h)) M3 → rSlL X.K v l h H3 Q := by
    rintro xs _ ⟨a, vs, rfl, h1, h2⟩ k
    refine ⟨a, vs, rfl, h1, fun p np => ?_⟩
    exact ok _ _ _ _ _ k (x3.trans (sr3.good.addI_frm np).ext) (sr3.step (sr3.good.addI np (.inl ⟨_, rfl⟩)) (sr3.good.addI_frm np)) (by
      unfold Rep; exact ⟨p, _, rfl, .of upd_same, (cut_rep l h h2).ext (sr3.good.addI_frm (o := .lst (cutV vs l h)) np).ext⟩)
  unfold cutV2 at z3
  split at z3
  · unfold Rep at r3
    subst r3
    exact .inr ⟨_, rfl, line_le z3.1, fin_ok sr3 (ok.mono x3) rep_str z3.2⟩
  · rename_i xs
    unfold Rep at r3
    obtain ⟨a, vs, rfl, h1, h2⟩ := r3
    refine .inl (.inr ⟨a, vs, rfl, sr3.good.sub.sqt h1, by rw [h2.length]; exact z3.1, fun p np => ?_⟩)
    exact ok _ _ _ _ _ z3.2 (x3.trans (sr3.good.addI_frm np).ext) (sr3.step (sr3.good.addI np (.inr (.inl ⟨_, rfl⟩))) (sr3.good.addI_frm np)) (by
      unfold Rep; exact ⟨p, _, rfl, .of upd_same, (cut_rep l h h2).ext (sr3.good.addI_frm (o := .tup (cutV vs l h)) np).ext⟩)
  · rename_i hx1 hx2
    obtain ⟨xs, hs, z3⟩ := seqX_ok z3
    · refine .inl (.inl (lst hs ?_ z3))
      cases d with
      | lst ys =>
        cases hs
        unfold Rep at r3
        obtain ⟨a, vs, rfl, h1, h2⟩ := r3
        exact ⟨a, vs, rfl, sr3.good.sub.sql h1, h2⟩
      | tup ys => exact absurd rfl (hx2 ys)
      | loc a =>
        unfold Rep at r3
        subst r3
        unfold seqD at hs
        dsimp only at hs
        split at hs
        · rename_i ys hm
          cases hs
          obtain ⟨_, o, h1, vs, rfl, h2⟩ := sr3.good.mst a _ hm
          exact ⟨a, vs, rfl, .of h1, h2⟩
        · cases hs
      | _ => cases hs
structure In (X : Cx) (s : Sc) : Prop where
  N : X.N = s.N
  sc : X.env.scope = s.sc
  nd : X.N.Nodup
  fn : ∀ y, X.fn y = true ∨ X.env.scope.names.lookup y = some .local
  fk : X.env.scope.kind = .function
theorem gl_of {s : Sc} {x : Str} (i : In X s) (h : glB s x = true) : Gl X x := by
  unfold glB at h
  show X.env.scope.names.lookup x = _
  rw [i.sc]
  exact beq_iff_eq.mp h
theorem vis_of {s : Sc} {x : Str} (i : In X s) (h : visB s x = true) : Vis X.env.scope x := by
  unfold Vis
  rw [i.sc]
  unfold visB at h
  split at h
  · rename_i e; exact .inl e
  · rename_i e; exact .inr (.inl e)
  · rename_i e; exact .inr (.inr e)
  · cases h
theorem loc_of {s : Sc} {x : Str} (i : In X s) (h : locB s x = true) : Loc X.env.scope x := by
  unfold L2.Loc
  rw [i.sc]
  unfold locB at h
  split at h
  · rename_i e; exact .inl e
  · rename_i e; exact .inr e
  · cases h
theorem nm_of {x : Str} (h : okNm x = true) : (x == ("__debug__" : Str)) = false ∧ (x == ("__classdict__" : Str)) = false := by
  unfold okNm at h
  rw [Bool.and_eq_true] at h
  exact ⟨by simpa using h.1, by simpa using h.2⟩
theorem name_of {s : Sc} {o : Option Str} {x : Expr} (h : nameIs s o x = true) : ∃ y p, x = .Name y p ∧ glB s y = true ∧ o = some y := by
  unfold nameIs at h
  split at h
  · rw [Bool.and_eq_true] at h
    exact ⟨_, _, rfl, h.1, beq_iff_eq.mp h.2⟩
  · cases h
theorem con_ok {cst : Const} {d : D} {k : Nat} {pos : Pos} (h : conB cst d = true) : PE X (.Constant cst k pos) (TEx X.K G B W (conD d)) := by
  unfold conB at h
  split at h
  · exact pd_con pe_non fun I => rep_non
  · rw [beq_iff_eq.mp h]; exact pd_con pe_bl fun I => rep_bl
  · rw [beq_iff_eq.mp h]; exact pd_con pe_int fun I => rep_int
  · rw [beq_iff_eq.mp h]; exact pd_con pe_str fun I => rep_str
  · cases h
/-- a bool's parts -/
theorem and2 {a b : Bool} (h : (a && b) = true) : a = true ∧ b = true := Bool.and_eq_true_iff.mp h
mutual
theorem sem_ok (c : Ctx X G W Γ kx) {s : Sc} (i : In X s) : ∀ (e : E) {x : Expr}, chk G s e x = true → PE X x (TEx X.K G B W (sem G Γ e).1) ∧ PT X x (TTx X.K G B W (sem G Γ e).2)
  | .no, _, h => by unfold chk at h; cases h
  | .var n, x, h => by
    unfold chk at h
    split at h
    · obtain ⟨h, h3⟩ := and2 h
      obtain ⟨h1, h2⟩ := and2 h
      obtain ⟨n1, n2⟩ := nm_of h3
      exact both_ok c (pd_var (pe_var (by rw [i.N]; exact beq_iff_eq.mp h1) (vis_of i h2) n1 n2)) rfl
    · cases h
  | .con d, x, h => by
    unfold chk at h
    split at h
    · exact both_ok c (con_ok h) rfl
    · cases h
  | .kon j, x, h => by
    unfold chk at h
    obtain ⟨y, p, rfl, hg, e⟩ := name_of h
    cases q : G.kon j with
    | none => rw [q] at e; cases e
    | some z =>
      obtain ⟨z, d⟩ := z
      rw [q] at e
      cases e
      obtain ⟨⟨u, v, hm, rv, r⟩, hd⟩ := c.gg.kon _ _ _ q
      unfold sem
      rw [q]
      exact both_ok c (pd_con (pe_glob (gl_of i hg) hm rv hd) r) rfl
  | .kls k, x, h => by
    unfold chk at h
    obtain ⟨y, p, rfl, hg, e⟩ := name_of h
    obtain ⟨hm, hd⟩ := c.gg.cn _ _ e
    exact both_ok c (pd_con (pe_glob (gl_of i hg) hm (show RelV (V.ref (G.cl k)) (Value.ref (G.cl k)) from rfl) hd) fun I => by unfold Rep; rfl) rfl
  | .ty n, x, h => by
    unfold chk at h
    split at h
    · obtain ⟨h, h6⟩ := and2 h
      obtain ⟨h, h5⟩ := and2 h
      obtain ⟨h, h4⟩ := and2 h
      obtain ⟨h, h3⟩ := and2 h
      obtain ⟨h1, h2⟩ := and2 h
      exact both_ok c (pd_con (pe_bltn (gl_of i h1) (c.gg.blt _ (List.contains_iff_mem.mp h3)) (beq_iff_eq.mp h4) (show RelV (V.ty n) (Value.type n) from rfl) (by simpa using h5) (nm_of h6).1) fun I => by unfold Rep; rfl) rfl
    · cases h
  | .bin op a b, x, h => by
    unfold chk at h
    split at h
    · obtain ⟨h, h3⟩ := and2 h
      obtain ⟨h1, h2⟩ := and2 h
      obtain rfl := beq_iff_eq.mp h2
      exact both_ok c (pd_bin (sem_ok c i a h1).1 (sem_ok c i b h3).1 (op2_bin c _)) rfl
    · cases h
  | .cmp op a b, x, h => by
    unfold chk at h
    split at h
    · obtain ⟨h, h4⟩ := and2 h
      obtain ⟨h, h3⟩ := and2 h
      obtain ⟨h1, h2⟩ := and2 h
      obtain rfl := beq_iff_eq.mp h2
      have pa := (sem_ok c i a h1).1
      have pb := (sem_ok c i b h3).1
      exact ⟨pd_cmp pa pb (op2_cmp c _) (marks_of h4), pt_cmpD c pa pb (marks_of h4)⟩
    · cases h
  | .chn op op' a b d, x, h => by
    unfold chk at h
    split at h
    · obtain ⟨h, h7⟩ := and2 h
      obtain ⟨h, h6⟩ := and2 h
      obtain ⟨h, h5⟩ := and2 h
      obtain ⟨h, h4⟩ := and2 h
      obtain ⟨h, h3⟩ := and2 h
      obtain ⟨h1, h2⟩ := and2 h
      obtain rfl := beq_iff_eq.mp h2
      obtain rfl := beq_iff_eq.mp h3
      exact pe_chnD c (sem_ok c i a h1).1 (sem_ok c i b h4).1 (sem_ok c i d h5).1 h6 h7
    · cases h
  | .neg a, x, h => by
    unfold chk at h
    split at h
    · exact both_ok c (pd_neg c (sem_ok c i a h).1) rfl
    · cases h
  | .not a, x, h => by
    unfold chk at h
    split at h
    · have q := sem_ok c i a h
      exact ⟨pd_not c q.1, ptd_not q.2⟩
    · cases h
  | .and a b, x, h => by
    unfold chk at h
    split at h
    · rename_i e r p
      obtain ⟨h1, h2⟩ := and2 h
      have qa := sem_ok c i a h1
      split at h2
      · cases h2
      · have qb := sem_ok c i b h2
        refine ⟨pd_and c qa.1 ⟨fun pins s σ H Q I hq => qb.1.run pins s σ H Q I hq⟩, ?_⟩
        refine ⟨fun pins s σ H Q I hq => ptd_and qa.2 (fun whole pins s σ H Q I hq => ?_) _ pins s σ H Q I hq⟩
        refine PyProof.Rows.isTrue_and (thn (qb.2.run pins s σ H Q I hq) fun k s1 q => ?_)
        cases k with
        | true => exact PyProof.Rows.ite_tt (PyProof.Rows.isTrue_and_nil q)
        | false => exact PyProof.Rows.ite_ff q
      · have qb := sem_ok c i b h2
        refine ⟨pd_and c qa.1 qb.1, ?_⟩
        refine ⟨fun pins s σ H Q I hq => ptd_and qa.2 (fun whole pins s σ H Q I hq => ?_) _ pins s σ H Q I hq⟩
        exact qb.2.run pins s σ H Q I hq
    · cases h
  | .or a b, x, h => by
    unfold chk at h
    split at h
    · rename_i e r p
      obtain ⟨h1, h2⟩ := and2 h
      have qa := sem_ok c i a h1
      split at h2
      · cases h2
      · have qb := sem_ok c i b h2
        refine ⟨pd_or c qa.1 ⟨fun pins s σ H Q I hq => qb.1.run pins s σ H Q I hq⟩, ?_⟩
        refine ⟨fun pins s σ H Q I hq => ptd_or qa.2 (fun whole pins s σ H Q I hq => ?_) _ pins s σ H Q I hq⟩
        refine PyProof.Rows.isTrue_or (thn (qb.2.run pins s σ H Q I hq) fun k s1 q => ?_)
        cases k with
        | true => exact PyProof.Rows.ite_tt q
        | false => exact PyProof.Rows.ite_ff (PyProof.Rows.isTrue_or_nil q)
      · have qb := sem_ok c i b h2
        refine ⟨pd_or c qa.1 qb.1, ?_⟩
        refine ⟨fun pins s σ H Q I hq => ptd_or qa.2 (fun whole pins s σ H Q I hq => ?_) _ pins s σ H Q I hq⟩
        exact qb.2.run pins s σ H Q I hq
    · cases h
  | .ite t a b, x, h => by
    unfold chk at h
    split at h
    · obtain ⟨h, h3⟩ := and2 h
      obtain ⟨h1, h2⟩ := and2 h
      have q1 := sem_ok c i t h1
      have q2 := sem_ok c i a h2
      have q3 := sem_ok c i b h3
      exact ⟨pd_ite q1.2 q2.1 q3.1, ptd_ite q1.2 q2.2 q3.2⟩
    · cases h
  | .att a k, x, h => by
    unfold chk at h
    split at h
    · obtain ⟨h, h3⟩ := and2 h
      obtain ⟨h1, h2⟩ := and2 h
      obtain rfl := beq_iff_eq.mp h2
      exact both_ok c (pd_att c (sem_ok c i a h1).1 h3) rfl
    · cases h
  | .sub a b, x, h => by
    unfold chk at h
    split at h
    · obtain ⟨h, h3⟩ := and2 h
      obtain ⟨h1, h2⟩ := and2 h
      exact both_ok c (pd_sub (sem_ok c i a h1).1 (sem_ok c i b h2).1 (ix_of h3)) rfl
    · cases h
  | .cut a lo hi, x, h => by
    unfold chk at h
    split at h
    · obtain ⟨h, h3⟩ := and2 h
      obtain ⟨h1, h2⟩ := and2 h
      refine both_ok c (pd_cut (sem_ok c i a h1).1 ?_ ?_) rfl
      · split at h2
        · exact pod_none h2
        · refine pod_some (sem_ok c i lo h2).1 ?_
          cases lo <;> first | rfl | (unfold chk at h2; cases h2)
      · split at h3
        · exact pod_none h3
        · refine pod_some (sem_ok c i hi h3).1 ?_
          cases hi <;> first | rfl | (unfold chk at h3; cases h3)
    · cases h
  | .tup es, x, h => by
    unfold chk at h
    split at h
    · exact both_ok c (pd_tup (sems_ok c i es h).1) rfl
    · cases h
  | .lst es, x, h => by
    unfold chk at h
    split at h
    · exact both_ok c (pd_lst (sems_ok c i es h).1) rfl
    · cases h
  | .mlst es, x, h => by
    unfold chk at h
    split at h
    · exact both_ok c (pd_mlst (sems_ok c i es h).1) rfl
    · cases h
  | .call k es ks, x, h => by
    unfold chk at h
    split at h
    · obtain ⟨h, h5⟩ := and2 h
      obtain ⟨h, h4⟩ := and2 h
      obtain ⟨h, h3⟩ := and2 h
      obtain ⟨h1, h2⟩ := and2 h
      obtain ⟨y, p, rfl, hg, e⟩ := name_of h1
      have q := sems_ok c i es h4
      exact both_ok c (pd_call c e (gl_of i hg) (beq_iff_eq.mp h2).symm q.1 (semk_ok c i ks h5) q.2 h3) rfl
    · cases h
  | .meth a k n es ks, x, h => by
    unfold chk at h
    split at h
    · obtain ⟨h, h6⟩ := and2 h
      obtain ⟨h, h5⟩ := and2 h
      obtain ⟨h, h4⟩ := and2 h
      obtain ⟨h, h3⟩ := and2 h
      obtain ⟨h1, h2⟩ := and2 h
      obtain rfl := beq_iff_eq.mp h2
      obtain rfl := beq_iff_eq.mp h4
      exact both_ok c (pd_meth c (sem_ok c i a h1).1 (sems_ok c i es h5).1 (semk_ok c i ks h6) h3) rfl
    · cases h
  | .stat cc k n es ks, x, h => by
    unfold chk at h
    split at h
    · obtain ⟨h, h6⟩ := and2 h
      obtain ⟨h, h5⟩ := and2 h
      obtain ⟨h, h4⟩ := and2 h
      obtain ⟨h, h3⟩ := and2 h
      obtain ⟨h1, h2⟩ := and2 h
      obtain ⟨y, p, rfl, hg, e⟩ := name_of h1
      obtain rfl := beq_iff_eq.mp h2
      obtain rfl := beq_iff_eq.mp h4
      unfold sem
      split
      · rename_i j hj
        exact both_ok c (pd_stat c e (gl_of i hg) hj (sems_ok c i es h5).1 (semk_ok c i ks h6) h3) rfl
      · exact both_ok c ⟨fun pins s σ H Q I ⟨_, _, _, _, _, _, q, _⟩ => q.elim⟩ rfl
    · cases h
  | .blt b es, x, h => by
    unfold chk at h
    split at h
    · obtain ⟨h, h3⟩ := and2 h
      obtain ⟨h1, h2⟩ := and2 h
      obtain ⟨y, p, rfl, hg, e⟩ := name_of h1
      cases e
      have q := sems_ok c i es h2
      exact both_ok c (pd_blt c (gl_of i hg) q.1 q.2 (by intro z; rw [z] at h3; cases h3)) rfl
    · cases h
  | .frz a, x, h => by
    unfold chk at h
    exact ⟨pd_frz (sem_ok c i a h).1, ⟨fun pins s σ H Q I ⟨_, _, _, _, _, _, q, _⟩ => q.elim⟩⟩
theorem sems_ok (c : Ctx X G W Γ kx) {s : Sc} (i : In X s) : ∀ (es : Es) {xs : List Expr}, chks G s es xs = true → PA X xs (TAx X.K G B W (sems G Γ es)) ∧ xs.all noStar = true
  | .nil, xs, h => by
    unfold chks at h
    obtain rfl := List.isEmpty_iff.mp h
    exact ⟨pd_nil, rfl⟩
  | .cons e es, xs, h => by
    unfold chks at h
    split at h
    · obtain ⟨h, h3⟩ := and2 h
      obtain ⟨h1, h2⟩ := and2 h
      have q := sems_ok c i es h3
      refine ⟨pd_cons (sem_ok c i e h1).1 q.1 (star_cons h2), ?_⟩
      rw [List.all_cons, h2, q.2]
      rfl
    · cases h
theorem semk_ok (c : Ctx X G W Γ kx) {s : Sc} (i : In X s) : ∀ (es : Es) {xs : List Keyword}, chkk G s es xs = true → PKd X G B W xs (sems G Γ es)
  | .nil, xs, h => by
    unfold chkk at h
    obtain rfl := List.isEmpty_iff.mp h
    exact pkd_nil
  | .cons e es, xs, h => by
    unfold chkk at h
    split at h
    · rename_i x t
      obtain ⟨h1, h2⟩ := and2 h
      obtain ⟨a, v, p⟩ := x
      exact pkd_cons (sem_ok c i e h1).1 (semk_ok c i es h2)
    · cases h
end
end
end PyD
set_option Elab.async false
set_option linter.all false
set_option autoImplicit false
set_option maxRecDepth 100000
set_option maxHeartbeats 4000000
/-! # In place; several targets -/
namespace PyD
open PySem PySem.Spec L2
section
variable (G : Gam) (Γ : Nat → SpD)
def inpD (op : Operator) (a b : D) : TD := fun ρ M K E => match a with
  | .int i => (match b with
    | .int j => op ≠ .Pow ∧ intBin op i j fun d => K d M
    | _ => False)
  | .str x => (match b with
    | .str y => op = .Add ∧ x.length + y.length ≤ 1000000 ∧ K (.str (x ++ y)) M
    | _ => False)
  | .obj _ _ => ownL G Γ (opk op) a b ρ M K E
  | .loc _ => ownL G Γ (opk op) a b ρ M K E
  | _ => False
end
section
variable {X : Cx} {G : Gam} {B : Bs} {W : WX} {Γ : Nat → SpD} {kx : Nat}
theorem int_in {op : Operator} {i j : Int} {t u : Tok} {pins : List (Addr × Obj)} {s : Shared} {σ : L2.St} {H : Hp} {Q : VK} (I : L2.Inv X pins σ H s) (ho : op ≠ .Pow) (h : intBin op i j fun d => ∀ n, d = .int n → Q (.int n) H) :
    wpAny (model X.prog X.w) X.A (inplaceOp op (.int i t) (.int j u)) (EP X pins σ Q) X.xe s := by
  cases op <;> unfold intBin at h <;> first | exact h.elim | exact absurd rfl ho | skip
  · exact iop_add pins s σ H (.int i) (.int j) _ _ Q I ⟨t, rfl⟩ ⟨u, rfl⟩ ⟨i, j, rfl, rfl, h _ rfl⟩
  · exact iop_sub pins s σ H (.int i) (.int j) _ _ Q I ⟨t, rfl⟩ ⟨u, rfl⟩ ⟨i, j, rfl, rfl, h _ rfl⟩
  · exact PySem.P.imul_int ⟨.int _, H, I.tok _, ⟨_, rfl⟩, h.2 _ rfl⟩ (mulOk_ok h.1)
  · exact PyProof.Rows.imod_int h.1 ⟨.int _, H, I.tok _, ⟨_, rfl⟩, h.2 _ rfl⟩
  · exact PyProof.Rows.ifloordiv_int h.1.1 ⟨.int _, H, I.tok _, ⟨_, rfl⟩, h.2 _ rfl⟩ (.inl (PyProof.noPylong_of_log2 (Nat.lt_of_lt_of_le (PySem.Flt.log2_lt_of (by decide) h.1.2) (by decide))))
theorem side_in (c : Ctx X G W Γ kx) {T : String} {cc i j : Nat} {op : Operator} {a : Addr} {pins : List (Addr × Obj)} {s : Shared} {σ : L2.St} {H : Hp} {dx : Addr} {vfs : List (Str × V)} {Q : Value → Shared → Prop} {u : Value} (I : L2.Inv X pins σ H s) (ha : H a = some (.ins (G.cl cc) dx vfs))
    (hT : T ∈ sideTs) (hu : PySem.W.Looks (model X.prog X.w) s.heap (typeOf u) (.type T)) (hk : opk op < 14) (h1 : G.dn cc (opk op) = some i) (h2 : G.dn cc (opk op + 1) = some j)
    (h : wpAny (model X.prog X.w) X.A (PySem.call (.ref (G.adr i)) [.ref a, u]) (PySem.W.CmpBack Q) X.xe s) : wpAny (model X.prog X.w) X.A (inplaceOp op (.ref a) u) Q X.xe s := by
  obtain ⟨e1, e2⟩ := dunder_nm c.ops hk
  obtain ⟨_, m1, sf⟩ := c.ops.ok.dn _ _ _ h1
  obtain ⟨_, m2, _⟩ := c.ops.ok.dn _ _ _ h2
  obtain ⟨od, J⟩ := inst_at I ha
  obtain ⟨mf, F⟩ := I.fr
  obtain ⟨cd, hcd, hn⟩ := c.ops.inI _ _ _ h1 hk
  have s1 := c.ops.side _ _ _ h1 hk T hT
  have s2 : (PySem.W.findIn X.K (.type T) (G.nm (opk op + 1))).isSome = true := c.ops.side _ _ _ h2 (by
    cases op <;> first | decide | (exfalso; revert hk; decide)) T hT
  obtain ⟨fo, s1⟩ := Option.isSome_iff_exists.mp s1
  obtain ⟨ro, s2⟩ := Option.isSome_iff_exists.mp s2
  rw [e1] at s1
  rw [e2] at s2
  obtain ⟨m11, m12, m13⟩ := m1
  obtain ⟨m21, m22, m23⟩ := m2
  rw [e1] at m11
  rw [e2] at m21
  exact own_side_in F I.mod.kin J hu sf hcd hn m11 m12 m21 (.inr ⟨_, rfl⟩) s1 s2 (c.ops.sub _ _ _ h1 (by omega) T hT) h
theorem op2_inL (c : Ctx X G W Γ kx) (op : Operator) : Op2 X G B W (inplaceOp op) (ownL G Γ (opk op)) := by
  rintro pins s σ H Q x y v u I rx ry ⟨ρ, M, J, K1, E1, d, e, sr, r1, r2, t, ok, er⟩
  unfold ownL at t
  obtain ⟨cc, fs, hi, hs, hk, h2, t⟩ := instX_ok t
  · skip
    obtain ⟨i, h1, run⟩ := own_of c I sr r1 r2 rx ry hi t ok er
    obtain ⟨j, h2⟩ := Option.isSome_iff_exists.mp h2
    obtain ⟨a, dx, vfs, rfl, ha, _⟩ := instD_ok sr.good r1 hi
    obtain rfl : v = Value.ref a := rx
    unfold sameOrSide at hs
    split at hs
    · unfold Rep at r2; subst r2
      obtain rfl : u = Value.none := ry
      exact side_in c I ha (T := "NoneType") (by decide) (PySem.W.Looks.of_pure rfl) hk h1 h2 run
    · unfold Rep at r2; subst r2
      obtain rfl : u = Value.bool _ := ry
      exact side_in c I ha (T := "bool") (by decide) (PySem.W.Looks.of_pure rfl) hk h1 h2 run
    · unfold Rep at r2; subst r2
      obtain ⟨tk, rfl⟩ := ry
      exact side_in c I ha (T := "int") (by decide) (PySem.W.Looks.of_pure rfl) hk h1 h2 run
    · unfold Rep at r2; subst r2
      obtain ⟨tk, rfl⟩ := ry
      exact side_in c I ha (T := "str") (by decide) (PySem.W.Looks.of_pure rfl) hk h1 h2 run
    · unfold Rep at r2
      obtain ⟨b, vs, rfl, hb, _⟩ := r2
      obtain rfl : u = Value.ref b := ry
      obtain ⟨its, _, ⟨o, n, ho, hc, _⟩, _⟩ := I.list (sr.good.sub.sql hb)
      exact side_in c I ha (T := "list") (by decide) (by rw [← hc]; exact looks_ty ho) hk h1 h2 run
    · unfold Rep at r2
      obtain ⟨b, vs, rfl, hb, _⟩ := r2
      obtain rfl : u = Value.ref b := ry
      obtain ⟨its, _, ⟨o, ho, hc, _⟩, _⟩ := I.tuple (sr.good.sub.sqt hb)
      exact side_in c I ha (T := "tuple") (by decide) (by rw [← hc]; exact looks_ty ho) hk h1 h2 run
    · obtain ⟨c', fs', hj, hs⟩ := instX_ok hs
      · subst hs
        obtain ⟨b, dy, vgs, rfl, hb, _⟩ := instD_ok sr.good r2 hj
        obtain rfl : u = Value.ref b := ry
        obtain ⟨e1, e2⟩ := dunder_nm c.ops hk
        obtain ⟨_, ⟨m11, m12, m13⟩, sf⟩ := c.ops.ok.dn _ _ _ h1
        obtain ⟨cd, hcd, hn⟩ := c.ops.inI _ _ _ h1 hk
        obtain ⟨od, J1⟩ := inst_at I ha
        obtain ⟨od2, J2⟩ := inst_at I hb
        obtain ⟨mf, F⟩ := I.fr
        rw [e1] at m11
        exact own_same_in F I.mod.kin J1 J2 sf hcd hn m11 m12 run
theorem op2_inp (c : Ctx X G W Γ kx) (op : Operator) : Op2 X G B W (inplaceOp op) (inpD G Γ op) := by
  rintro pins s σ H Q x y v u I rx ry ⟨ρ, M, J, K1, E1, d, e, sr, r1, r2, t, ok, er⟩
  unfold inpD at t
  split at t
  · rename_i i
    split at t
    · rename_i j
      unfold Rep at r1 r2
      subst r1 r2
      obtain ⟨tk, rfl⟩ := rx
      obtain ⟨tk2, rfl⟩ := ry
      exact int_in I t.1 (intBin_imp t.2 fun n h m e => by cases e; exact fin_ok sr ok rep_int h)
    · exact t.elim
  · rename_i p
    split at t
    · rename_i q
      obtain ⟨rfl, hz, t⟩ := t
      unfold Rep at r1 r2
      subst r1 r2
      exact iop_add_str pins s σ H _ _ _ _ Q I rx ry ⟨p, q, rfl, rfl, line_le hz, fin_ok sr ok rep_str t⟩
    · exact t.elim
  · exact op2_inL c op pins s σ H Q x y v u I rx ry ⟨ρ, M, J, K1, E1, _, _, sr, r1, r2, t, ok, er⟩
  · exact op2_inL c op pins s σ H Q x y v u I rx ry ⟨ρ, M, J, K1, E1, _, _, sr, r1, r2, t, ok, er⟩
  · exact t.elim
/-- x op= e -/
def augS (G : Gam) (Γ : Nat → SpD) (op : Operator) (i : Nat) (te : TD) : TSd := fun ρ M En => match ρ[i]? with
  | some (some x) => te ρ M (fun y M1 => inpD G Γ op x y ρ M1 (fun z M2 => En.nx (ρ.set i (some z)) M2) (erE En ρ)) (erE En ρ)
  | _ => False
theorem pds_aug (c : Ctx X G W Γ kx) {i : Nat} {x : Str} {e : Expr} {op : Operator} {t : TD} {pos pos' : Pos} (hN : X.N.Nodup) (hi : X.N[i]? = some x) (hx : L2.Loc X.env.scope x) (he : PE X e (TEx X.K G B W t)) (hf : X.fn x = true ∨ X.env.scope.names.lookup x = some .local) :
    PS X (.AugAssign (.Name x pos') op e pos) (TSx X.K G B W (augS G Γ op i t)) := by
  refine ⟨fun pins s σ H D I h => ?_⟩
  obtain ⟨ρ, M, J, En, sr, t, ok⟩ := h
  unfold augS at t
  split at t
  · rename_i d hd
    obtain ⟨xv, e1, r0⟩ := sr.env.2 i d hd
    obtain ⟨m, hn, hl⟩ := I.loc
    have vis : Vis X.env.scope x := by rcases hx with k | k; exact .inl k; exact .inr (.inl k)
    obtain ⟨u, r, l⟩ := hl i x xv hi e1 vis
    refine wpAny_AugAssign_Name ?_
    have go : wpAny (model X.prog X.w) X.A (eval e X.env) (fun w s₂ => wpAny (model X.prog X.w) X.A (inplaceOp op u w) (fun r s₃ => wpAny (model X.prog X.w) X.A (storeName X.env x r) (fun _ => SP X pins D .next) X.xe s₃) X.xe s₂) X.xe s := by
      refine run_e (f := fun y ρ M1 _ _ => inpD G Γ op d y ρ M1 (fun z M2 => En.nx (ρ.set i (some z)) M2) (erE En ρ)) (K1 := fun _ _ => True) he I sr t (erC ok) fun w s1 y H1 M1 J1 dy I1 r1 x1 sr1 q1 t1 => ?_
      refine thn (op2_inp c op pins s1 σ H1 (fun z H2 => ∃ M2 J2 dz, Ext J1 J2 ∧ SR X.K G B σ H2 ρ M2 J2 ∧ Rep X.K G J2 dz z ∧ En.nx (ρ.set i (some dz)) M2) xv y u w I1 r r1 ⟨ρ, M1, J1, _, _, d, dy, sr1, r0.ext x1, q1, t1, fun z M2 v H2 J2 k e s' r => ⟨M2, J2, z, e, s', r, k⟩, erC ok⟩) fun z s2 ⟨zv, H2, I2, r2, M2, J2, dz, e2, sr2, q2, k2⟩ => ?_
      exact store_ok I2 hN hi hx r2 (fun s3 I3 => ⟨_, H2, I3, ok.nx _ _ _ _ _ k2 (sr2.set q2)⟩) hf
    rcases l with ⟨hk, hm⟩ | ⟨hk, c, hc, hcell⟩
    · exact wpAny_loadName_local I.ok.kind hk hn hm go
    · rcases hk with hk | hk
      · exact wpAny_loadName_cell I.ok.kind hk hc hcell go
      · rcases hx with k | k
        · have : X.env.scope.names.lookup x = some .free := hk
          rw [k] at this; cases this
        · have : X.env.scope.names.lookup x = some .free := hk
          rw [k] at this; cases this
  · exact t.elim
/-- several names at once -/
def unpS (g : D → Slots → Option Slots) (t : TD) : TSd := fun ρ M En => t ρ M (fun d M' => match g d ρ with
  | some ρ1 => En.nx ρ1 M'
  | none => False) (erE En ρ)
theorem pds_unp {tg e : Expr} {t : TD} {g : D → Slots → Option Slots} {gv : TG} {pos : Pos} (he : PE X e (TEx X.K G B W t)) (hg : PGd X G B tg g gv) (hs : swapsWithSole [tg] e pos.line X.env = pure false) (hw : swappedStores [tg] e X.env = pure none)
    (h1 : (assignEach [tg] X.env).map (·.2) = [assign tg X.env]) : PS X (.Assign [tg] e pos) (TSx X.K G B W (unpS g t)) := by
  refine PS.imp (ps_asg he hg.1 hs hw h1) fun D σ H ⟨ρ, M, J, En, sr, t, ok⟩ => ?_
  refine ⟨ρ, M, J, _, _, sr, t, fun d M' v H' J' k e s' r => ?_, erC ok⟩
  dsimp only at k
  split at k
  · rename_i ρ1 h
    exact hg.2 d v σ H' ρ ρ1 M' J' _ s' r h fun σ1 s1 => ok.nx _ _ _ _ _ k s1
  · exact k.elim
/-- a, b = x, y stored as one -/
def parS (is : List Nat) (t : TDs) : TSd := fun ρ M En => t ρ M (fun ds M' => match setAll is ds ρ with
  | some ρ1 => En.nx ρ1 M'
  | none => False) (erE En ρ)
theorem pds_par2 {i j : Nat} {x y : Str} {a b : Expr} {t : TDs} {px py pt pos : Pos} {kt k2 pt2} (hc : X.calm = true) (hN : X.N.Nodup) (hi : X.N[i]? = some x) (hj : X.N[j]? = some y) (hij : i ≠ j)
    (hx : X.env.scope.names.lookup x = some .local) (hy : X.env.scope.names.lookup y = some .local) (ha : PA X [a, b] (TAx X.K G B W t))
    (hw : swappedStores [.Tuple [.Name x px, .Name y py] kt pt] (.Tuple [a, b] k2 pt2) X.env = pure (some [x, y])) :
    PS X (.Assign [.Tuple [.Name x px, .Name y py] kt pt] (.Tuple [a, b] k2 pt2) pos) (TSx X.K G B W (parS [i, j] t)) := by
  refine PS.imp (ps_par hc hN hi hj hij hx hy ha hw) fun D σ H ⟨ρ, M, J, En, sr, t, ok⟩ => ?_
  refine ⟨ρ, M, J, _, _, sr, t, fun ds M' vs H' J' k e s' r => ?_, erC ok⟩
  dsimp only at k
  split at k
  · rename_i ρ1 h
    have hl := setAll_len h
    match ds, hl with
    | [d1, d2], _ =>
      obtain ⟨v, w, rfl, r1, r2⟩ := reps2 r
      unfold setAll at h
      unfold setAll at h
      unfold setAll at h
      cases h
      exact ⟨v, w, rfl, ok.nx _ _ _ _ _ k ((s'.set r1).set r2)⟩
  · exact k.elim
theorem pds_par3 {i j l : Nat} {x y z : Str} {a b d : Expr} {t : TDs} {px py pz pt pos : Pos} {kt k2 pt2} (hc : X.calm = true) (hN : X.N.Nodup) (hi : X.N[i]? = some x) (hj : X.N[j]? = some y) (hl : X.N[l]? = some z) (hij : i ≠ j) (hil : i ≠ l) (hjl : j ≠ l)
    (hx : X.env.scope.names.lookup x = some .local) (hy : X.env.scope.names.lookup y = some .local) (hz : X.env.scope.names.lookup z = some .local) (ha : PA X [a, b, d] (TAx X.K G B W t))
    (hw : swappedStores [.Tuple [.Name x px, .Name y py, .Name z pz] kt pt] (.Tuple [a, b, d] k2 pt2) X.env = pure (some [x, y, z])) :
    PS X (.Assign [.Tuple [.Name x px, .Name y py, .Name z pz] kt pt] (.Tuple [a, b, d] k2 pt2) pos) (TSx X.K G B W (parS [i, j, l] t)) := by
  refine PS.imp (ps_par3 hc hN hi hj hl hij hil hjl hx hy hz ha hw) fun D σ H ⟨ρ, M, J, En, sr, t, ok⟩ => ?_
  refine ⟨ρ, M, J, _, _, sr, t, fun ds M' vs H' J' k e s' r => ?_, erC ok⟩
  dsimp only at k
  split at k
  · rename_i ρ1 h
    have hl := setAll_len h
    match ds, hl with
    | [d1, d2, d3], _ =>
      unfold Reps at r
      obtain ⟨u, q, rfl, r0, r⟩ := r
      obtain ⟨v, w, rfl, r1, r2⟩ := reps2 r
      unfold setAll at h
      unfold setAll at h
      unfold setAll at h
      unfold setAll at h
      cases h
      exact ⟨u, v, w, rfl, ok.nx _ _ _ _ _ k (((s'.set r0).set r1).set r2)⟩
  · exact k.elim
/-- a list or a tuple is walked -/
def iSeq (K : PySem.W.Frag) (tl : TE) : TI := fun σ H R => tl σ H fun x H1 => ∃ a, x = .ref a ∧ (((∃ xs, SqL K H1 a xs) ∧ R (Itl K a) H1) ∨ ((∃ xs, SqT K H1 a xs) ∧ R (Itt K a) H1))
theorem pi_seq {tg l : Expr} {tl : TE} (hl : PE X l tl) : PI X tg l (iSeq X.K tl) := by
  refine ⟨fun pins s σ H R I h => ?_⟩
  refine thn (hl.run pins s σ H _ I h) fun v s1 ⟨x, H1, I1, r1, q1⟩ => ?_
  obtain ⟨a, rfl, q⟩ := q1
  obtain rfl : v = Value.ref a := r1
  have own : ∀ b ∈ [s1.heap.objs.size], FpOk X pins H1 b := fun b hb => by
    obtain rfl := List.mem_singleton.mp hb
    exact I1.fpOk (Nat.le_refl _) (I1.hok.fresh (Nat.le_refl _))
  rcases q with ⟨⟨xs, hq⟩, q⟩ | ⟨⟨xs, hq⟩, q⟩
  · obtain ⟨its, rv, p, hz⟩ := I1.list hq
    exact wpAny_pyIter_list p.isList ⟨s1.heap.objs.size, _, _, _, H1, rfl, I1.kept (t' := s1.toks) fun b o e => Heap.get?_push_of_some _ e, turn_list a _, ⟨_, Heap.get?_push_size _ rfl, rfl, rfl⟩, own, q⟩
  · obtain ⟨its, rv, p, hz⟩ := I1.tuple hq
    exact wpAny_pyIter_tuple (show s1.heap.IsTuple a its.toArray from p) ⟨s1.heap.objs.size, _, _, _, H1, rfl, I1.kept (t' := s1.toks) fun b o e => Heap.get?_push_of_some _ e, turn_tuple a _, ⟨_, Heap.get?_push_size _ rfl, rfl, rfl⟩, own, q⟩
def seqI (t : TD) : TDs := fun ρ M K E => t ρ M (fun d M' => match d with
  | .lst ds => K ds M'
  | .tup ds => K ds M'
  | _ => False) E
theorem pid_seq {tg e : Expr} {t : TD} (h : PE X e (TEx X.K G B W t)) : PId X G B W tg e (seqI t) := by
  refine ⟨_, pi_seq h, fun σ H ρ M I K1 E1 R s q er k => ?_⟩
  refine ⟨ρ, M, I, _, _, s, q, fun d M' v H' I' z e s' r => ?_, er⟩
  dsimp only at z
  split at z
  · unfold Rep at r
    obtain ⟨a, vs, rfl, hs, hr⟩ := r
    exact ⟨a, rfl, .inl ⟨⟨vs, s'.good.sub.sql hs⟩, k _ _ _ _ _ z e s' (walk_list hs hr)⟩⟩
  · unfold Rep at r
    obtain ⟨a, vs, rfl, hs, hr⟩ := r
    exact ⟨a, rfl, .inr ⟨⟨vs, s'.good.sub.sqt hs⟩, k _ _ _ _ _ z e s' (walk_tup hs hr)⟩⟩
  · exact z.elim
end
end PyD
set_option Elab.async false
set_option linter.all false
set_option autoImplicit false
set_option maxRecDepth 100000
set_option maxHeartbeats 4000000
/-! # Statements, resolved -/
namespace PyD
open PySem PySem.Spec L2

inductive It where
  | seq (e : E) | rng (e : E)
mutual
inductive S where
  | pass | brk | cont | nev
  | asg (i : Nat) (e : E) | unp (is : List Nat) (e : E) | par (is : List Nat) (es : Es) | setf (o : E) (k : Nat) (e : E) | seti (o i e : E) | aug (op : Operator) (i : Nat) (e : E)
  | ret (e : E) | retn | drop (e : E)
  | ite (c : E) (a b : Ss) | whl (c : E) (b : Ss) | for1 (i : Nat) (it : It) (b : Ss) | forT (is : List Nat) (it : It) (b : Ss)
inductive Ss where
  | nil | cons (s : S) (r : Ss)
end
/-- names as targets -/
def chkN (s : Sc) : List Nat → List Expr → Bool
  | [], xs => xs.isEmpty
  | i :: is, xs => match xs with
    | .Name y _ :: t => (s.N[i]? == some y) && locB s y && chkN s is t
    | _ => false
def noSwap : Expr → Bool
  | .Tuple vs _ _ => vs.all (foldedForSure 8)
  | _ => true
def lcl (s : Sc) (y : Str) : Bool := s.sc.names.lookup y == some .local
/-- two, three local names that are stored as one -/
def swap2 (s : Sc) (i j : Nat) (ts vs : List Expr) : Bool := match ts, vs with
  | [.Name x p, .Name y q], [a, b] => (s.N[i]? == some x) && (s.N[j]? == some y) && !(i == j) && lcl s x && lcl s y && (q.line == p.line) && !([a, b].all (foldedForSure 8)) && !([a, b].all (constantsAlone 8)) && noStar a && noStar b && !(x == y)
  | _, _ => false
def swap3 (s : Sc) (i j l : Nat) (ts vs : List Expr) : Bool := match ts, vs with
  | [.Name x p, .Name y q, .Name z r], [a, b, c] => (s.N[i]? == some x) && (s.N[j]? == some y) && (s.N[l]? == some z) && !(i == j) && !(i == l) && !(j == l) && lcl s x && lcl s y && lcl s z && (q.line == p.line) && (r.line == p.line) && !([a, b, c].all (foldedForSure 8)) && !([a, b, c].all (constantsAlone 8)) && noStar a && noStar b && noStar c && !(x == y) && !(x == z) && !(y == z)
  | _, _ => false
section
variable (G : Gam)
def chkI (s : Sc) : It → Expr → Bool
  | .seq e, x => chk G s e x
  | .rng e, x => match x with
    | .Call (.Name y _) [a] [] _ => (y == "range") && glB s y && chk G s e a && noStar a
    | _ => false
mutual
def chkS (s : Sc) : S → Stmt → Bool
  | .nev, _ => true
  | .pass, x => match x with
    | .Pass _ => true
    | _ => false
  | .brk, x => match x with
    | .Break _ => true
    | _ => false
  | .cont, x => match x with
    | .Continue _ => true
    | _ => false
  | .asg i e, x => match x with
    | .Assign [.Name y _] v _ => (s.N[i]? == some y) && locB s y && chk G s e v && noCompr v
    | _ => false
  | .unp is e, x => match x with
    | .Assign [.Tuple ts _ _] v _ => chkN s is ts && chk G s e v && noCompr v && noSwap v
    | _ => false
  | .par is es, x => match x with
    | .Assign [.Tuple ts _ _] (.Tuple vs _ _) _ => chks G s es vs && (match is with
      | [i, j] => swap2 s i j ts vs
      | [i, j, l] => swap3 s i j l ts vs
      | _ => false)
    | _ => false
  | .setf o k e, x => match x with
    | .Assign [.Attribute b m _] v _ => chk G s o b && (m == G.nm k) && chk G s e v && noCompr v
    | _ => false
  | .seti o i e, x => match x with
    | .Assign [.Subscript b d _] v _ => chk G s o b && chk G s i d && noSlice d && chk G s e v && noCompr v
    | _ => false
  | .aug op i e, x => match x with
    | .AugAssign (.Name y _) p v _ => (s.N[i]? == some y) && locB s y && (p == op) && chk G s e v
    | _ => false
  | .ret e, x => match x with
    | .Return (some v) _ => chk G s e v
    | _ => false
  | .retn, x => match x with
    | .Return none _ => true
    | _ => false
  | .drop e, x => match x with
    | .Expr v _ => chk G s e v && noCompr v
    | _ => false
  | .ite c a b, x => match x with
    | .If t p q _ => chk G s c t && chkSs s a p && chkSs s b q
    | _ => false
  | .whl c b, x => match x with
    | .While t p [] _ => chk G s c t && chkSs s b p
    | _ => false
  | .for1 i it b, x => match x with
    | .For (.Name y _) t p [] _ => (s.N[i]? == some y) && locB s y && chkI G s it t && noSet t && chkSs s b p
    | _ => false
  | .forT is it b, x => match x with
    | .For (.Tuple ts _ _) t p [] _ => chkN s is ts && chkI G s it t && noSet t && chkSs s b p
    | _ => false
def chkSs (s : Sc) : Ss → List Stmt → Bool
  | .nil, xs => xs.isEmpty
  | .cons a r, xs => match xs with
    | x :: t => chkS s a x && chkSs s r t
    | [] => false
end
variable (Γ : Nat → SpD)
def semI : It → TDs
  | .seq e => seqI (sem G Γ e).1
  | .rng e => rng1I (consD (sem G Γ e).1 nilD)
mutual
def semS : S → TSd
  | .nev => fun _ _ _ => False
  | .pass => nextS
  | .brk => fun ρ M En => En.bk ρ M
  | .cont => fun ρ M En => En.ct ρ M
  | .asg i e => asgS i (sem G Γ e).1
  | .unp is e => unpS (setT is) (sem G Γ e).1
  | .par is es => parS is (sems G Γ es)
  | .setf o k e => setfS (G := G) k (sem G Γ o).1 (sem G Γ e).1
  | .seti o i e => setiS (sem G Γ o).1 (sem G Γ i).1 (sem G Γ e).1
  | .aug op i e => augS G Γ op i (sem G Γ e).1
  | .ret e => retS (sem G Γ e).1
  | .retn => retnS
  | .drop e => dropS (sem G Γ e).1
  | .ite c a b => iteS (sem G Γ c).2 (semSs a) (semSs b)
  | .whl c b => fun ρ M En => ∃ n, whlS (sem G Γ c).2 (semSs b) n ρ M En
  | .for1 i it b => fun ρ M En => semI G Γ it ρ M (fun ds M' => forS (set1 i) (semSs b) ds ρ M' En) (erE En ρ)
  | .forT is it b => fun ρ M En => semI G Γ it ρ M (fun ds M' => forS (setT is) (semSs b) ds ρ M' En) (erE En ρ)
def semSs : Ss → TSd
  | .nil => nextS
  | .cons a r => seqS (semS a) (semSs r)
end
end
section
variable {X : Cx} {G : Gam} {B : Bs} {W : WX} {Γ : Nat → SpD} {kx : Nat}
theorem names_ok {s : Sc} (i : In X s) : ∀ {is : List Nat} {ts : List Expr}, chkN s is ts = true → PGs X ts (gAll is) ∧ (assignEach ts X.env).length = is.length ∧ (assignEach ts X.env).findIdx? (·.1) = none
  | [], xs, h => by
    unfold chkN at h
    obtain rfl := List.isEmpty_iff.mp h
    exact ⟨pgs_nil, rfl, rfl⟩
  | k :: is, xs, h => by
    unfold chkN at h
    split at h
    · rename_i y p t
      obtain ⟨h, h3⟩ := and2 h
      obtain ⟨h1, h2⟩ := and2 h
      obtain ⟨q1, q2, q3⟩ := names_ok i h3
      refine ⟨pgs_cons (pg_name i.nd (by rw [i.N]; exact beq_iff_eq.mp h1) (loc_of i h2) (i.fn y)) q1 rfl, ?_, ?_⟩
      · show (assignEach t X.env).length + 1 = is.length + 1
        rw [q2]
      · show List.findIdx? (·.1) ((false, assign (.Name y p) X.env) :: assignEach t X.env) = none
        rw [List.findIdx?_cons]
        simp [q3]
    · cases h
theorem noSwap_ok {ts : List Expr} {k : Nat} {p : Pos} {v : Expr} {env : Env} (h : noSwap v = true) : swappedStores [.Tuple ts k p] v env = pure none := by
  unfold swappedStores
  cases v <;> first | rfl | skip
  rename_i vs k2 p2
  have h' : vs.all (foldedForSure 8) = true := h
  dsimp only
  split
  · rfl
  · split
    · rfl
    · split
      · rfl
      · first | rfl | rw [if_pos h']
theorem noSwap_sub {a b : Expr} {p : Pos} {v : Expr} {env : Env} : swappedStores [.Subscript a b p] v env = pure none := by
  unfold swappedStores
  cases v <;> rfl
theorem block_of {s : Sc} (i : In X s) : X.env.blockKind = .function := by
  unfold Env.blockKind
  rw [i.fk]
  rfl
theorem sole_of {t e : Expr} {l : Nat} {env : Env} (h : noCompr e = true) : swapsWithSole [t] e l env = pure false := by
  unfold swapsWithSole
  exact swaps_of h
theorem any_star {f : Expr → Bool} (hf : ∀ e, noStar e = true → f e = false) : ∀ {es : List Expr}, es.all noStar = true → es.any f = false
  | [], _ => rfl
  | e :: es, h => by
    rw [List.all_cons, Bool.and_eq_true] at h
    rw [List.any_cons, hf e h.1, any_star hf h.2]
    rfl
theorem swap2_ok {s : Sc} (i : In X s) {n m k k2 : Nat} {p2 p3 : Pos} {ts vs : List Expr} (h : swap2 s n m ts vs = true) :
    ∃ x px y py a b, ts = [.Name x px, .Name y py] ∧ vs = [a, b] ∧ X.N[n]? = some x ∧ X.N[m]? = some y ∧ n ≠ m ∧ X.env.scope.names.lookup x = some .local ∧ X.env.scope.names.lookup y = some .local ∧
      swappedStores [.Tuple [.Name x px, .Name y py] k p2] (.Tuple [a, b] k2 p3) X.env = pure (some [x, y]) := by
  unfold swap2 at h
  split at h
  · rename_i x p y q a b
    simp only [Bool.and_eq_true, Bool.not_eq_true', lcl, beq_iff_eq, beq_eq_false_iff_ne] at h
    obtain ⟨⟨⟨⟨⟨⟨⟨⟨⟨⟨h1, h2⟩, h3⟩, h4⟩, h5⟩, h6⟩, h7⟩, h8⟩, h9⟩, h10⟩, h11⟩ := h
    have l1 : X.env.scope.names.lookup x = some .local := by rw [i.sc]; exact h4
    have l2 : X.env.scope.names.lookup y = some .local := by rw [i.sc]; exact h5
    refine ⟨x, p, y, q, a, b, rfl, rfl, by rw [i.N]; exact h1, by rw [i.N]; exact h2, h3, l1, l2, ?_⟩
    have k1 : X.env.kindOf x = some .local := l1
    have k2 : X.env.kindOf y = some .local := l2
    have hb := block_of i
    have hyx : (y == x) = false := beq_eq_false_iff_ne.mpr fun z => h11 z.symm
    unfold swappedStores
    dsimp only
    refine (if_neg ?_).trans ((if_neg ?_).trans ((if_neg ?_).trans ((if_neg ?_).trans ((if_neg ?_).trans ?_))))
    · rw [hb]; simp
    · rw [any_star (es := [a, b]) (fun e he => by cases e <;> first | rfl | cases he) (by simp [h9, h10])]
      exact Bool.false_ne_true
    · simp [List.filterMap_cons, k1, k2, h6, Expr.pos, List.eraseDups_cons, hyx]
    · rw [h7]; exact Bool.false_ne_true
    · rw [h8]; exact Bool.false_ne_true
    · simp [List.filterMap_cons, k1, k2, h6, Expr.pos]
  · cases h
theorem swap3_ok {s : Sc} (i : In X s) {n m l k k2 : Nat} {p2 p3 : Pos} {ts vs : List Expr} (h : swap3 s n m l ts vs = true) :
    ∃ x px y py z pz a b c, ts = [.Name x px, .Name y py, .Name z pz] ∧ vs = [a, b, c] ∧ X.N[n]? = some x ∧ X.N[m]? = some y ∧ X.N[l]? = some z ∧ n ≠ m ∧ n ≠ l ∧ m ≠ l ∧ X.env.scope.names.lookup x = some .local ∧ X.env.scope.names.lookup y = some .local ∧ X.env.scope.names.lookup z = some .local ∧
      swappedStores [.Tuple [.Name x px, .Name y py, .Name z pz] k p2] (.Tuple [a, b, c] k2 p3) X.env = pure (some [x, y, z]) := by
  unfold swap3 at h
  split at h
  · rename_i x p y q z r a b c
    simp only [Bool.and_eq_true, Bool.not_eq_true', lcl, beq_iff_eq, beq_eq_false_iff_ne] at h
    obtain ⟨⟨⟨⟨⟨⟨⟨⟨⟨⟨⟨⟨⟨⟨⟨⟨⟨⟨h1, h2⟩, h3⟩, h4⟩, h5⟩, h6⟩, h7⟩, h8⟩, h9⟩, h10⟩, h11⟩, h12⟩, h13⟩, h14⟩, h15⟩, h16⟩, h17⟩, h18⟩, h19⟩ := h
    have l1 : X.env.scope.names.lookup x = some .local := by rw [i.sc]; exact h7
    have l2 : X.env.scope.names.lookup y = some .local := by rw [i.sc]; exact h8
    have l3 : X.env.scope.names.lookup z = some .local := by rw [i.sc]; exact h9
    refine ⟨x, p, y, q, z, r, a, b, c, rfl, rfl, by rw [i.N]; exact h1, by rw [i.N]; exact h2, by rw [i.N]; exact h3, h4, h5, h6, l1, l2, l3, ?_⟩
    have k1 : X.env.kindOf x = some .local := l1
    have k2 : X.env.kindOf y = some .local := l2
    have k3 : X.env.kindOf z = some .local := l3
    have hb := block_of i
    have hyx : (y == x) = false := beq_eq_false_iff_ne.mpr fun z => h17 z.symm
    have hzx : (z == x) = false := beq_eq_false_iff_ne.mpr fun z => h18 z.symm
    have hzy : (z == y) = false := beq_eq_false_iff_ne.mpr fun z => h19 z.symm
    unfold swappedStores
    dsimp only
    refine (if_neg ?_).trans ((if_neg ?_).trans ((if_neg ?_).trans ((if_neg ?_).trans ((if_neg ?_).trans ?_))))
    · rw [hb]; simp
    · rw [any_star (es := [a, b, c]) (fun e he => by cases e <;> first | rfl | cases he) (by simp [h14, h15, h16])]
      exact Bool.false_ne_true
    · simp [List.filterMap_cons, k1, k2, k3, h10, h11, Expr.pos, List.eraseDups_cons, hyx, hzx, hzy]
    · rw [h12]; exact Bool.false_ne_true
    · rw [h13]; exact Bool.false_ne_true
    · simp [List.filterMap_cons, k1, k2, k3, h10, h11, Expr.pos]
  · cases h
theorem it_ok (c : Ctx X G W Γ kx) {s : Sc} (i : In X s) {tg : Expr} : ∀ (it : It) {x : Expr}, chkI G s it x = true → PId X G B W tg x (semI G Γ it)
  | .seq e, x, h => pid_seq (sem_ok c i e h).1
  | .rng e, x, h => by
    dsimp only [chkI] at h
    split at h
    · rename_i y p a pos
      obtain ⟨h, h4⟩ := and2 h
      obtain ⟨h, h3⟩ := and2 h
      obtain ⟨h1, h2⟩ := and2 h
      obtain rfl := beq_iff_eq.mp h1
      exact pid_rng1 (gl_of i h2) (c.gg.blt _ (by decide)) (pd_cons (sem_ok c i e h3).1 pd_nil (star_cons h4)) (star_cons h4)
    · cases h
mutual
theorem semS_ok (c : Ctx X G W Γ kx) {s : Sc} (i : In X s) : ∀ (st : S) {x : Stmt} {B : Bs}, chkS G s st x = true → PS X x (TSx X.K G B W (semS G Γ st))
  | .nev, x, B, h => pds_never
  | .pass, x, B, h => by
    unfold chkS at h
    split at h
    · exact pds_pass
    · cases h
  | .brk, x, B, h => by
    unfold chkS at h
    split at h
    · exact pds_break
    · cases h
  | .cont, x, B, h => by
    unfold chkS at h
    split at h
    · exact PS.imp ps_continue fun D σ H ⟨ρ, M, I, En, s, t, ok⟩ => ok.ct _ _ _ _ _ t s
    · cases h
  | .asg n e, x, B, h => by
    unfold chkS at h
    split at h
    · rename_i y p v pos
      obtain ⟨h, h4⟩ := and2 h
      obtain ⟨h, h3⟩ := and2 h
      obtain ⟨h1, h2⟩ := and2 h
      exact pds_asg i.nd (by rw [i.N]; exact beq_iff_eq.mp h1) (loc_of i h2) (sem_ok c i e h3).1 (swaps_of h4) (i.fn y)
    · cases h
  | .unp is e, x, B, h => by
    unfold chkS at h
    split at h
    · obtain ⟨h, h4⟩ := and2 h
      obtain ⟨h, h3⟩ := and2 h
      obtain ⟨h1, h2⟩ := and2 h
      obtain ⟨q1, q2, q3⟩ := names_ok i h1
      exact pds_unp (sem_ok c i e h2).1 (pgd_tup (pg_tup c.calm q1 q2 q3)) (sole_of h3) (noSwap_ok h4) rfl
    · cases h
  | .par is es, x, B, h => by
    unfold chkS at h
    split at h
    · obtain ⟨h1, h2⟩ := and2 h
      have q := (sems_ok (B := B) c i es h1).1
      split at h2
      · obtain ⟨x, px, y, py, a, b, rfl, rfl, n1, n2, hne, l1, l2, hw⟩ := swap2_ok i h2
        exact pds_par2 c.calm i.nd n1 n2 hne l1 l2 q hw
      · obtain ⟨x, px, y, py, z, pz, a, b, d, rfl, rfl, n1, n2, n3, d1, d2, d3, l1, l2, l3, hw⟩ := swap3_ok i h2
        exact pds_par3 c.calm i.nd n1 n2 n3 d1 d2 d3 l1 l2 l3 q hw
      · cases h2
    · cases h
  | .setf o k e, x, B, h => by
    unfold chkS at h
    split at h
    · obtain ⟨h, h4⟩ := and2 h
      obtain ⟨h, h3⟩ := and2 h
      obtain ⟨h1, h2⟩ := and2 h
      obtain rfl := beq_iff_eq.mp h2
      exact pds_setf c.ops.ok (sem_ok c i o h1).1 (sem_ok c i e h3).1 (swaps_of h4)
    · cases h
  | .seti o d e, x, B, h => by
    unfold chkS at h
    split at h
    · rename_i b dx p v pos
      obtain ⟨h, h5⟩ := and2 h
      obtain ⟨h, h4⟩ := and2 h
      obtain ⟨h, h3⟩ := and2 h
      obtain ⟨h1, h2⟩ := and2 h
      refine pds_seti (sem_ok c i o h1).1 (sem_ok c i d h2).1 (sem_ok c i e h4).1 (fun v => ?_) (sole_of h5) noSwap_sub rfl
      cases dx <;> first | rfl | cases h3
    · cases h
  | .aug op n e, x, B, h => by
    unfold chkS at h
    split at h
    · rename_i y p o v pos
      obtain ⟨h, h4⟩ := and2 h
      obtain ⟨h, h3⟩ := and2 h
      obtain ⟨h1, h2⟩ := and2 h
      obtain rfl := beq_iff_eq.mp h3
      exact pds_aug c i.nd (by rw [i.N]; exact beq_iff_eq.mp h1) (loc_of i h2) (sem_ok c i e h4).1 (i.fn y)
    · cases h
  | .ret e, x, B, h => by
    unfold chkS at h
    split at h
    · exact pds_ret (sem_ok c i e h).1
    · cases h
  | .retn, x, B, h => by
    unfold chkS at h
    split at h
    · exact pds_retn
    · cases h
  | .drop e, x, B, h => by
    unfold chkS at h
    split at h
    · obtain ⟨h1, h2⟩ := and2 h
      exact pds_drop (sem_ok c i e h1).1 (swaps_of h2)
    · cases h
  | .ite t a b, x, B, h => by
    unfold chkS at h
    split at h
    · obtain ⟨h, h3⟩ := and2 h
      obtain ⟨h1, h2⟩ := and2 h
      exact pds_if (sem_ok c i t h1).2 (semSs_ok c i a h2) (semSs_ok c i b h3)
    · cases h
  | .whl t b, x, B, h => by
    unfold chkS at h
    split at h
    · obtain ⟨h1, h2⟩ := and2 h
      exact pds_while c.own (sem_ok c i t h1).2 (semSs_ok c i b h2)
    · cases h
  | .for1 n it b, x, B, h => by
    unfold chkS at h
    split at h
    · rename_i y p t bd pos
      obtain ⟨h, h5⟩ := and2 h
      obtain ⟨h, h4⟩ := and2 h
      obtain ⟨h, h3⟩ := and2 h
      obtain ⟨h1, h2⟩ := and2 h
      exact pds_for c.own c.calm (it_ok c i it h3) (fun B => pgd_name (pg_name i.nd (by rw [i.N]; exact beq_iff_eq.mp h1) (loc_of i h2) (i.fn y))) (fun B => semSs_ok c i b h5) (folds_of h4)
    · cases h
  | .forT is it b, x, B, h => by
    unfold chkS at h
    split at h
    · obtain ⟨h, h4⟩ := and2 h
      obtain ⟨h, h3⟩ := and2 h
      obtain ⟨h1, h2⟩ := and2 h
      obtain ⟨q1, q2, q3⟩ := names_ok i h1
      exact pds_for c.own c.calm (it_ok c i it h2) (fun B => pgd_tup (pg_tup c.calm q1 q2 q3)) (fun B => semSs_ok c i b h4) (folds_of h3)
    · cases h
theorem semSs_ok (c : Ctx X G W Γ kx) {s : Sc} (i : In X s) : ∀ (st : Ss) {x : List Stmt} {B : Bs}, chkSs G s st x = true → PSs X x (TSx X.K G B W (semSs G Γ st))
  | .nil, x, B, h => by
    unfold chkSs at h
    obtain rfl := List.isEmpty_iff.mp h
    exact pds_nil
  | .cons a r, x, B, h => by
    unfold chkSs at h
    split at h
    · obtain ⟨h1, h2⟩ := and2 h
      exact pds_cons (semS_ok c i a h1) (semSs_ok c i r h2)
    · cases h
end
end
end PyD
set_option Elab.async false
set_option linter.all false
set_option autoImplicit false
set_option maxRecDepth 100000
set_option maxHeartbeats 4000000
/-! # The end of a law -/
namespace PyD
open PySem PySem.Spec L2

section
variable {P : Program} {w : World} {K : PySem.W.Frag} {mg mb : Str → Option Value} {G : Gam} {k : Nat} {fa a : Addr} {sd : SpD} {s : Shared} {vs : List Value} {ns : List Int}
/-- where nothing but the script is followed -/
theorem law_from (H : Hp) (KX : K.In s.heap) (hns : s.heap.Ns mainGlobals mg) (hb : s.heap.Ns builtinsNs mb) (hbb : ∀ x : Str, x ≠ "__name__" → mb x = bootBuiltins x) (hlim : s.heap.NoLimit) (hg : s.gens = #[])
    (ha : s.heap.get? a = some { cls := .type "list", data := .seq vs.toArray }) (hr : Room k callerA) (hN : ∀ b u, H b = some u → b = a ∧ ∃ o xs, u = .frz o (.lst xs)) (hS : SqL K H a (ns.map V.int)) (hok : HOk P w H s.heap) (hK : H a ≠ none → K.lookup a = none)
    (F : ∀ base : Heap, K.In base → base.Ns mainGlobals mg → FnD P w K mg base G k (.ref fa) [] sd) (hsd : sd [.lst (ns.map D.int)] (fun _ => none) (fun d _ => d = .bl true) (fun _ _ _ => False)) :
    codeAny (model P w) callerA (.call (.ref fa) ⟨[.ref a], []⟩) (fun r s' => r = .ok (.ret (.bool true)) ∧ OldK s.heap s'.heap ∧ s'.os = s.os ∧ PyProof.Rows.AllBare s'.gens) s := by
  have only : ∀ {b : Addr} {o : Obj}, s.heap.get? b = some o → (b = a → K.lookup a = none → False) → H b = none := by
    intro b o e q
    cases h : H b with
    | none => rfl
    | some u =>
      obtain ⟨rfl, _⟩ := hN b u h
      exact (q rfl (hK (by rw [h]; exact fun z => nomatch z))).elim
  have dicts : ∀ {b : Addr} {m : Str → Option Value}, s.heap.Ns b m → (hidT s.heap H).Ns b m := by
    rintro b m ⟨o, es, ep, e, d, r⟩
    refine ⟨o, es, ep, hidT_get e (only e fun z _ => ?_), d, r⟩
    subst z
    rw [ha] at e
    cases e
    exact (nomatch d)
  have kin : K.In (hidT s.heap H) := fun b o e => hidT_get (KX b o e) (only (KX b o e) fun z q => by
    subst z
    rw [q] at e
    cases e)
  have md : Mod K mg (hidT s.heap H) := ⟨kin, dicts hns, ⟨mb, dicts hb, hbb⟩, by
    obtain ⟨mc, h1, h2⟩ := hlim
    exact ⟨mc, dicts h1, h2⟩⟩
  have env : Env0 P w K mg (hidT s.heap H) callerA [] s H := ⟨rfl, md, fun b o e => of_hidT e, Nat.le_of_eq (hidT_size _ _), trivial, fun b q => (List.not_mem_nil q).elim, hok, .of_eq hg⟩
  have gd : Good K G H (fun _ => none) H := ⟨fun b o h => .inl h, fun b mo h => (nomatch h), fun b u h => by
    obtain ⟨_, o, xs, rfl⟩ := hN b u h
    exact .inr (.inr (.inr (.inr ⟨o, _, rfl⟩)))⟩
  have rp : Reps K G H [.lst (ns.map D.int)] [.ref a] := .cons (by unfold Rep; exact ⟨a, _, rfl, hS, Reps.ints ns⟩) .nil
  refine codeAny_mono ((F _ kin (dicts hns)).run callerA [] s H [.ref a] [] [.ref a] _ _ H (fun d _ => d = .bl true) (fun _ _ _ => False) (fun v _ => v = .bl true) (fun _ _ _ => False) hr rfl env (.cons (show RelV (V.ref a) (Value.ref a) from rfl) .nil) rfl gd rp hsd
    (fun d M' v H' I' e g f r => by subst e; unfold Rep at r; exact r) (fun _ _ _ _ _ _ _ h _ _ _ => h.elim)) fun r s' h => ?_
  cases r with
  | error e =>
    obtain ⟨_, _, _, _, _, _, _, _, _, _, _, _, z⟩ := h
    exact z.elim
  | ok fl =>
    cases fl with
    | next => exact False.elim h
    | brk => exact False.elim h
    | cont => exact False.elim h
    | ret u =>
      obtain ⟨v, H', os, bare, un, hok', rv, rfl⟩ := h
      obtain rfl : u = Value.bool true := rv
      refine ⟨rfl, OldK.of_keep fun b o e => ?_, os, bare⟩
      cases q : H b with
      | none => exact un.keep b o e q (fun z => (List.not_mem_nil z).elim) (by simp)
      | some t =>
        obtain ⟨rfl, ob, xs, rfl⟩ := hN b t q
        have later := un.frzs b ob _ q
        obtain ⟨at0, _⟩ := hok b _ q
        obtain ⟨at1, _⟩ := hok' b _ later
        rw [e] at at0
        cases at0
        exact at1
theorem law_run (KX : K.In s.heap) (hns : s.heap.Ns mainGlobals mg) (hb : s.heap.Ns builtinsNs mb) (hbb : ∀ x : Str, x ≠ "__name__" → mb x = bootBuiltins x) (hlim : s.heap.NoLimit) (hg : s.gens = #[])
    (ha : s.heap.get? a = some { cls := .type "list", data := .seq vs.toArray }) (hi : PyProof.Rows.IntsAre vs ns) (hl : ns.length ≤ sizeLine) (hr : Room k callerA)
    (F : ∀ base : Heap, K.In base → base.Ns mainGlobals mg → FnD P w K mg base G k (.ref fa) [] sd) (hsd : sd [.lst (ns.map D.int)] (fun _ => none) (fun d _ => d = .bl true) (fun _ _ _ => False)) :
    codeAny (model P w) callerA (.call (.ref fa) ⟨[.ref a], []⟩) (fun r s' => r = .ok (.ret (.bool true)) ∧ OldK s.heap s'.heap ∧ s'.os = s.os ∧ PyProof.Rows.AllBare s'.gens) s := by
  have rel := vals_ints hi
  have same := hi.length
  cases hk : K.lookup a with
  | some o =>
    have e := KX a o hk
    rw [ha] at e
    cases e
    refine law_from (fun _ => none) KX hns hb hbb hlim hg ha hr (fun b u q => (nomatch q)) (.inr ⟨_, vs.toArray, _, hk, rfl, rfl, rfl, ?_, ?_⟩) (fun b u q => (nomatch q)) (fun q => (q rfl).elim) F hsd
    · rw [List.size_toArray, same]; exact hl
    · simpa using rel
  | none =>
    have at_ : ∀ b u, (if b = a then some (HO.frz { cls := .type "list", data := .seq vs.toArray } (.lst (ns.map V.int))) else none) = some u → b = a ∧ u = HO.frz { cls := .type "list", data := .seq vs.toArray } (.lst (ns.map V.int)) := by
      intro b u q
      by_cases c : b = a
      · rw [if_pos c] at q
        cases q
        exact ⟨c, rfl⟩
      · rw [if_neg c] at q
        cases q
    refine law_from (fun b => if b = a then some (.frz { cls := .type "list", data := .seq vs.toArray } (.lst (ns.map V.int))) else none) KX hns hb hbb hlim hg ha hr (fun b u q => ?_) (.inl (.inr ⟨_, if_pos rfl⟩)) (fun b u q => ?_) (fun _ => hk) F hsd
    · obtain ⟨h1, h2⟩ := at_ b u q
      exact ⟨h1, _, _, h2⟩
    · obtain ⟨rfl, rfl⟩ := at_ b u q
      exact ⟨ha, by rw [List.length_map]; exact hl, vs, _, rel, ha⟩
end
/-- a law, by the meaning of its def -/
theorem walk_ofD {l : PySem.W.OpenLaw} {n k : Nat} {q : Program} {loose : List Str} {XP : (Str → Option Value) → Heap → Prop} {YP : World → Heap → Prop} {d : DefRec}
    (hn : l.most = some n) (hn2 : n ≤ sizeLine) (hdf : d.params.defaults = []) (hr : Room k callerA)
    (F : ∀ (w : World) (mg : Str → Option Value) (fa : Addr) (h : Heap), YP w h → h.Ns mainGlobals mg → mg d.name = some (.ref fa) →
      ∃ (K : PySem.W.Frag) (G : Gam) (sd : SpD), K.In h ∧ (∀ ns : List Int, ns.length ≤ n → sd [.lst (ns.map D.int)] (fun _ => none) (fun d _ => d = .bl true) (fun _ _ _ => False)) ∧
        ∀ base : Heap, K.In base → base.Ns mainGlobals mg → FnD l.prog w K mg base G k (.ref fa) [] sd) :
    PySem.W.WalkO q loose XP YP l.row.toRowW d [] (fun f vs => PySem.call f vs) := by
  refine Att.attach_call hn hdf fun w s0 s1 mg mb fa o pm cd doc a vs ns Gr Y ho hd hcd hmg hobj hints hlen hg => ?_
  obtain ⟨K, G, sd, kin, hsd, hF⟩ := F w mg fa _ Y Gr.T.g hmg
  exact law_run kin Gr.T.g Gr.T.b Gr.T.builtins Gr.T.nolimit hg hobj hints (Nat.le_trans hlen hn2) hr hF (hsd ns hlen)
end PyD
set_option Elab.async false
set_option linter.all false
set_option autoImplicit false
set_option maxRecDepth 100000
set_option maxHeartbeats 4000000
/-! # Tables of a text, checked on the heap behind its top -/
namespace PyD
open PySem PySem.Spec L2

/-- where a callable stands: a global, a method, the getter of a property, a static method, a class method -/
inductive At where
  | glo (x : Str) | meth (c m : Str) | prop (c m : Str) | stat (c m : Str) | cmet (c m : Str)
  deriving DecidableEq
def recA (K : PySem.W.Frag) (a : Addr) (t : String) : Addr := match PySem.W.recIn K a t with
  | some (.ref g :: _) => g
  | _ => 0
def At.ad (K : PySem.W.Frag) : At → Addr
  | .glo x => He.ga K x
  | .meth c m => He.ma K (He.ga K c) m
  | .prop c m => recA K (He.ma K (He.ga K c) m) "property"
  | .stat c m => recA K (He.ma K (He.ga K c) m) "staticmethod"
  | .cmet c m => recA K (He.ma K (He.ga K c) m) "classmethod"
structure Tb where
  cls : List Str
  nms : List Str
  fld : List (Nat × Nat)
  dn : List (Nat × Nat × Nat)
  pr : List (Nat × Nat × Nat)
  dm : List (Nat × Nat × List Str × Nat)
  sm : List (Nat × Nat × List Str × Nat)
  cm : List (Nat × Nat × List Str × Nat)
  at_ : List At
  ks : List (List Str)
  gn : List (Option Str)
  kon : List (Str × D)
  ist : List (Ty × Ty × Bool)
  isC : List Nat
  mks : List Nat
def find3 (l : List (Nat × Nat × Nat)) (c k : Nat) : Option Nat := match l with
  | [] => none
  | (a, b, i) :: r => if a = c ∧ b = k then some i else find3 r c k
def find4 (l : List (Nat × Nat × List Str × Nat)) (c k : Nat) (n : List Str) : Option Nat := match l with
  | [] => none
  | (a, b, m, i) :: r => if a = c ∧ b = k ∧ m = n then some i else find4 r c k n
def findT (l : List (Ty × Ty × Bool)) (a b : Ty) : Option Bool := match l with
  | [] => none
  | (x, y, z) :: r => if x = a ∧ y = b then some z else findT r a b
theorem find3_mem : ∀ {l : List (Nat × Nat × Nat)} {c k i : Nat}, find3 l c k = some i → (c, k, i) ∈ l
  | [], _, _, _, h => by cases h
  | (a, b, j) :: r, c, k, i, h => by
    unfold find3 at h
    split at h
    · rename_i q
      obtain ⟨rfl, rfl⟩ := q
      cases h
      exact List.mem_cons_self
    · exact List.mem_cons_of_mem _ (find3_mem h)
theorem find4_mem : ∀ {l : List (Nat × Nat × List Str × Nat)} {c k : Nat} {n : List Str} {i : Nat}, find4 l c k n = some i → (c, k, n, i) ∈ l
  | [], _, _, _, _, h => by cases h
  | (a, b, m, j) :: r, c, k, n, i, h => by
    unfold find4 at h
    split at h
    · rename_i q
      obtain ⟨rfl, rfl, rfl⟩ := q
      cases h
      exact List.mem_cons_self
    · exact List.mem_cons_of_mem _ (find4_mem h)
theorem findT_mem : ∀ {l : List (Ty × Ty × Bool)} {a b : Ty} {z : Bool}, findT l a b = some z → (a, b, z) ∈ l
  | [], _, _, _, h => by cases h
  | (x, y, w) :: r, a, b, z, h => by
    unfold findT at h
    split at h
    · rename_i q
      obtain ⟨rfl, rfl⟩ := q
      cases h
      exact List.mem_cons_self
    · exact List.mem_cons_of_mem _ (findT_mem h)
def nmAll (l : List Str) (i : Nat) : Str := match (dunders ++ l)[i]? with
  | some x => x
  | none => ⟨Array.replicate (1000 + i) 0⟩
def okN (l : List Str) : Bool := decide ((dunders ++ l).Nodup) && (dunders ++ l).all fun x => decide (x.cps.size < 1000)
theorem nmAll_inj {l : List Str} (h : okN l = true) : ∀ i j, nmAll l i = nmAll l j → i = j := by
  obtain ⟨h1, h2⟩ := and2 h
  have nd : (dunders ++ l).Nodup := of_decide_eq_true h1
  have sz : ∀ {i : Nat} {x : Str}, (dunders ++ l)[i]? = some x → x.cps.size < 1000 := fun {i x} e => of_decide_eq_true (List.all_eq_true.mp h2 x (List.mem_of_getElem? e))
  intro i j e
  unfold nmAll at e
  cases a : (dunders ++ l)[i]? with
  | none =>
    rw [a] at e
    cases b : (dunders ++ l)[j]? with
    | none =>
      rw [b] at e
      have := congrArg (fun x : Str => x.cps.size) e
      simp only [Array.size_replicate] at this
      omega
    | some y =>
      rw [b] at e
      have := congrArg (fun x : Str => x.cps.size) e
      simp only [Array.size_replicate] at this
      have := sz b
      omega
  | some x =>
    rw [a] at e
    cases b : (dunders ++ l)[j]? with
    | none =>
      rw [b] at e
      have := congrArg (fun x : Str => x.cps.size) e
      simp only [Array.size_replicate] at this
      have := sz a
      omega
    | some y =>
      rw [b] at e
      dsimp only at e
      subst e
      exact (List.getElem?_inj (List.getElem?_eq_some_iff.mp a).1 nd).mp (a.trans b.symm)
/-- a class's address; numbers of no class stand apart -/
def clA (T : Tb) (K : PySem.W.Frag) (c : Nat) : Addr := match T.cls[c]? with
  | some x => He.ga K x
  | none => 1000000000 + c
def gamOf (T : Tb) (hN : okN T.nms = true) (K : PySem.W.Frag) : Gam where
  cl := clA T K
  nm := nmAll T.nms
  inj := nmAll_inj hN
  fld c k := T.fld.contains (c, k)
  dn := find3 T.dn
  pr := find3 T.pr
  dm := find4 T.dm
  sm := find4 T.sm
  cm := find4 T.cm
  adr i := match T.at_[i]? with
    | some a => a.ad K
    | none => 0
  ks i := match T.ks[i]? with
    | some l => l
    | none => []
  gn i := match T.gn[i]? with
    | some o => o
    | none => none
  cn c := T.cls[c]?
  kon j := T.kon[j]?
  ist := findT T.ist
  isC i := T.isC.contains i
/-! ## the checks -/
section
variable (K : PySem.W.Frag)
def clsB (C : Addr) : Bool := PySem.W.plainGet K C Str.empty && (PySem.W.hasDictIn K C && (PySem.W.plainOver K C && He.eqO (PySem.W.findIn K (.ref C) "__setattr__") (some (some (.builtin "object.__setattr__")))))
def methB (C : Addr) (m : Str) (f : Addr) : Bool := He.eqO (PySem.W.findIn K (.ref C) m) (some (some (.ref f))) && (PySem.W.isFn K (.ref f) && PySem.W.keepIn K (.ref f))
def opsAll : List Operator := [.Add, .Sub, .Mult, .FloorDiv, .Mod, .BitOr, .BitAnd]
def noIB (C : Addr) (k : Nat) : Bool := opsAll.all fun op => !(opk op == k) || (match PySem.W.clsIn K C with
  | some cd => cd.mro.all fun t => He.eqO (PySem.W.findIn K t (PySem.dunderI op.info.2)) (some none)
  | none => false)
def dnB (C : Addr) (k : Nat) (m : Str) (f : Addr) : Bool := clsB K C && (methB K C m f && (PySem.W.selfFirst K C && ((!decide (k < 14) || ((sideTs.all fun T => (PySem.W.findIn K (.type T) m).isSome) && noIB K C k)) &&
  ((!decide (k < 19) || ((sideTs.all fun T => decide (PySem.W.subIn K (.type T) (.ref C) = some false)) && decide (PySem.W.subIn K (.ref C) (.type "int") = some false))) &&
  (!(k == 18) || (He.eqO (PySem.W.findIn K (.ref C) "__ne__") (some (some (.builtin "object.__ne__"))) && decide (PySem.W.mroIn K C (.type "object") = some true)))))))
def prB (C : Addr) (m : Str) (f : Addr) : Bool := clsB K C && (He.eqO (PySem.W.findIn K (.ref C) m) (some (some (.ref (He.ma K C m)))) && (He.eqO (PySem.W.specialIn K (.ref (He.ma K C m)) "__get__") (some (some (.builtin "property.__get__"))) &&
  (decide (PySem.W.takesIn K (.ref (He.ma K C m)) = some true) && (match PySem.W.recIn K (He.ma K C m) "property" with
    | some (.ref g :: _) => g == f
    | _ => false))))
def readB (C : Addr) : Bool := He.eqO (PySem.W.specialIn K (.ref C) "__getattribute__") (some (some (.builtin "type.__getattribute__"))) && (match PySem.W.typeIn K (.ref C) with
  | some mc => PySem.W.readsIn K C mc
  | none => false)
def getB (C : Addr) (m : Str) (g : String) (p : Addr) : Bool := match PySem.W.typeIn K (.ref C) with
  | some mc => (match PySem.W.findCls K (.ref C) mc m with
    | some (.get (.builtin h) (.ref q) .none (.ref D)) => (h == g) && ((q == p) && (D == C))
    | _ => false)
  | none => false
def smB (C : Addr) (m : Str) (f : Addr) : Bool := readB K C && (getB K C m "staticmethod.__get__" (He.ma K C m) && ((match PySem.W.recIn K (He.ma K C m) "staticmethod" with
    | some (.ref g :: _) => g == f
    | _ => false) && PySem.W.keepIn K (.ref f)))
def cmB (C : Addr) (m : Str) (f : Addr) : Bool := readB K C && (getB K C m "classmethod.__get__" (He.ma K C m) && ((match PySem.W.recIn K (He.ma K C m) "classmethod" with
    | some (.ref g :: _) => g == f
    | _ => false) && PySem.W.fnIn K f))
def insB (C : Addr) : Bool := clsB K C && (He.eqO (PySem.W.findIn K (.ref C) "__class__") (some (some (.builtin "object.__class__"))) && (He.eqO (PySem.W.specialIn K (.builtin "object.__class__") "__get__") (some (some (.builtin "getset_descriptor.__get__"))) &&
  (decide (PySem.W.takesIn K (.builtin "object.__class__") = some true) && decide (PySem.W.mroIn K C (.type "object") = some true))))
mutual
/-- a constant is this datum -/
def konB : D → Value → Bool
  | .non, v => (match v with
    | .none => true
    | _ => false)
  | .bl b, v => (match v with
    | .bool c => b == c
    | _ => false)
  | .int i, v => (match v with
    | .int j _ => decide (i = j)
    | _ => false)
  | .str x, v => (match v with
    | .str y _ => decide (x = y)
    | _ => false)
  | .tup ds, v => (match v with
    | .ref a => (match K.lookup a with
      | some ⟨.type n, _, .seq its _, _⟩ => (n == "tuple") && (decide (its.size ≤ sizeLine) && konBs ds its.toList)
      | _ => false)
    | _ => false)
  | .lst ds, v => (match v with
    | .ref a => (match K.lookup a with
      | some ⟨.type n, none, .seq its _, _⟩ => (n == "list") && (decide (its.size ≤ sizeLine) && konBs ds its.toList)
      | _ => false)
    | _ => false)
  | _, _ => false
def konBs : List D → List Value → Bool
  | [], vs => vs.isEmpty
  | d :: ds, vs => (match vs with
    | v :: r => konB d v && konBs ds r
    | [] => false)
end
end
section
variable {K : PySem.W.Frag} {G : Gam}
mutual
theorem konB_ok : ∀ (d : D) {u : Value}, konB K d u = true → ∃ v, RelV v u ∧ ∀ I, Rep K G I d v
  | .non, u, h => by
    unfold konB at h
    split at h
    · exact ⟨.non, rfl, fun I => rep_non⟩
    · cases h
  | .bl b, u, h => by
    unfold konB at h
    split at h
    · obtain rfl := beq_iff_eq.mp h
      exact ⟨.bl _, rfl, fun I => rep_bl⟩
    · cases h
  | .int i, u, h => by
    unfold konB at h
    split at h
    · obtain rfl := of_decide_eq_true h
      exact ⟨.int _, ⟨_, rfl⟩, fun I => rep_int⟩
    · cases h
  | .str x, u, h => by
    unfold konB at h
    split at h
    · obtain rfl := of_decide_eq_true h
      exact ⟨.str _, ⟨_, rfl⟩, fun I => rep_str⟩
    · cases h
  | .tup ds, u, h => by
    unfold konB at h
    split at h
    · rename_i a
      split at h
      · rename_i n od its m sl hl
        obtain ⟨h1, h⟩ := and2 h
        obtain ⟨h2, h3⟩ := and2 h
        obtain rfl := beq_iff_eq.mp h1
        obtain ⟨vs, r, q⟩ := konBs_ok ds h3
        exact ⟨.ref a, rfl, fun I => by unfold Rep; exact ⟨a, vs, rfl, .inr ⟨_, its, m, hl, rfl, rfl, of_decide_eq_true h2, r⟩, q I⟩⟩
      · cases h
    · cases h
  | .lst ds, u, h => by
    unfold konB at h
    split at h
    · rename_i a
      split at h
      · rename_i n its m sl hl
        obtain ⟨h1, h⟩ := and2 h
        obtain ⟨h2, h3⟩ := and2 h
        obtain rfl := beq_iff_eq.mp h1
        obtain ⟨vs, r, q⟩ := konBs_ok ds h3
        exact ⟨.ref a, rfl, fun I => by unfold Rep; exact ⟨a, vs, rfl, .inr ⟨_, its, m, hl, rfl, rfl, rfl, of_decide_eq_true h2, r⟩, q I⟩⟩
      · cases h
    · cases h
  | .dct _, u, h => by unfold konB at h; cases h
  | .obj _ _, u, h => by unfold konB at h; cases h
  | .loc _, u, h => by unfold konB at h; cases h
  | .cls _, u, h => by unfold konB at h; cases h
  | .ty _, u, h => by unfold konB at h; cases h
theorem konBs_ok : ∀ (ds : List D) {us : List Value}, konBs K ds us = true → ∃ vs, Vals vs us ∧ ∀ I, Reps K G I ds vs
  | [], us, h => by
    unfold konBs at h
    obtain rfl := List.isEmpty_iff.mp h
    exact ⟨[], .nil, fun I => .nil⟩
  | d :: ds, us, h => by
    unfold konBs at h
    split at h
    · obtain ⟨h1, h2⟩ := and2 h
      obtain ⟨v, r, q⟩ := konB_ok d h1
      obtain ⟨vs, rs, qs⟩ := konBs_ok ds h2
      exact ⟨v :: vs, .cons r rs, fun I => .cons (q I) (qs I)⟩
    · cases h
end
theorem clsB_ok {C : Addr} (h : clsB K C = true) : Cls K C := by
  obtain ⟨h1, h⟩ := and2 h
  obtain ⟨h2, h⟩ := and2 h
  obtain ⟨h3, h4⟩ := and2 h
  exact ⟨h1, h2, h3, He.eqO_ok h4⟩
theorem methB_ok {C f : Addr} {m : Str} (h : methB K C m f = true) : Meth K C m f := by
  obtain ⟨h1, h⟩ := and2 h
  obtain ⟨h2, h3⟩ := and2 h
  exact ⟨He.eqO_ok h1, h2, h3⟩
theorem insB_ok {C : Addr} (h : insB K C = true) : InsOf K C := by
  obtain ⟨h1, h⟩ := and2 h
  obtain ⟨h2, h⟩ := and2 h
  obtain ⟨h3, h⟩ := and2 h
  obtain ⟨h4, h5⟩ := and2 h
  exact ⟨clsB_ok h1, He.eqO_ok h2, He.eqO_ok h3, of_decide_eq_true h4, of_decide_eq_true h5⟩
theorem rec_is {p f : Addr} {t : String} (h : (match PySem.W.recIn K p t with
    | some (.ref g :: _) => g == f
    | _ => false) = true) : ∃ rest, PySem.W.recIn K p t = some (.ref f :: rest) := by
  split at h
  · rename_i g r e
    obtain rfl := beq_iff_eq.mp h
    exact ⟨r, e⟩
  · cases h
theorem readB_ok {C : Addr} (h : readB K C = true) : ∃ mc, PySem.W.specialIn K (.ref C) "__getattribute__" = some (some (.builtin "type.__getattribute__")) ∧ PySem.W.typeIn K (.ref C) = some mc ∧ PySem.W.readsIn K C mc = true := by
  obtain ⟨h1, h⟩ := and2 h
  split at h
  · rename_i mc e
    exact ⟨mc, He.eqO_ok h1, e, h⟩
  · cases h
theorem getB_ok {C p : Addr} {m : Str} {g : String} {mc : Value} (h : getB K C m g p = true) (e : PySem.W.typeIn K (.ref C) = some mc) : PySem.W.findCls K (.ref C) mc m = some (.get (.builtin g) (.ref p) .none (.ref C)) := by
  unfold getB at h
  rw [e] at h
  dsimp only at h
  split at h
  · rename_i a b d e
    obtain ⟨h1, h⟩ := and2 h
    obtain ⟨h2, h3⟩ := and2 h
    obtain rfl := beq_iff_eq.mp h1
    obtain rfl := beq_iff_eq.mp h2
    obtain rfl := beq_iff_eq.mp h3
    exact e
  · cases h
end
end PyD
set_option Elab.async false
set_option linter.all false
set_option autoImplicit false
set_option maxRecDepth 100000
set_option maxHeartbeats 4000000
/-! # The tables say what the layer wants -/
namespace PyD
open PySem PySem.Spec L2
section
variable (T : Tb) (hN : okN T.nms = true) (K : PySem.W.Frag)
def adA (i : Nat) : Addr := match T.at_[i]? with
  | some a => a.ad K
  | none => 0
def ksA (i : Nat) : List Str := match T.ks[i]? with
  | some l => l
  | none => []
def gloB (x : Str) (a : Addr) : Bool := He.eqO (PySem.W.nsIn K mainGlobals x) (some (some (.ref a)))
def Ty.w (T : Tb) (K : PySem.W.Frag) : Ty → Value
  | Ty.b n => .type n
  | Ty.c j => .ref (clA T K j)
def mkB (C : Addr) : Bool := PySem.W.makesIn K C && (He.eqO (PySem.W.findIn K (.ref C) "__init__") (some (some (.ref (He.ma K C "__init__")))) && (PySem.W.isFn K (.ref (He.ma K C "__init__")) && PySem.W.keepIn K (.ref C)))
/-- all of it -/
def tbB : Bool :=
  (decide ((T.cls.map (He.ga K)).Nodup) && (T.cls.all fun x => decide (He.ga K x < 1000000000) && (gloB K x (He.ga K x) && !(x == ("__debug__" : Str))))) &&
  ((T.fld.all fun q => clsB K (clA T K q.1) && He.eqO (PySem.W.findIn K (.ref (clA T K q.1)) (nmAll T.nms q.2)) (some none)) &&
  ((T.dn.all fun q => dnB K (clA T K q.1) q.2.1 (nmAll T.nms q.2.1) (adA T K q.2.2)) &&
  ((T.pr.all fun q => prB K (clA T K q.1) (nmAll T.nms q.2.1) (adA T K q.2.2) && ((ksA T q.2.2).isEmpty && !(T.isC.contains q.2.2))) &&
  ((T.dm.all fun q => clsB K (clA T K q.1) && (methB K (clA T K q.1) (nmAll T.nms q.2.1) (adA T K q.2.2.2) && (ksA T q.2.2.2 == q.2.2.1))) &&
  ((T.sm.all fun q => smB K (clA T K q.1) (nmAll T.nms q.2.1) (adA T K q.2.2.2) && (ksA T q.2.2.2 == q.2.2.1)) &&
  ((T.cm.all fun q => cmB K (clA T K q.1) (nmAll T.nms q.2.1) (adA T K q.2.2.2) && (ksA T q.2.2.2 == q.2.2.1)) &&
  (((List.range T.gn.length).all fun i => match T.gn[i]? with
    | some (some x) => gloB K x (adA T K i) && (PySem.W.keepIn K (.ref (adA T K i)) && !(x == ("__debug__" : Str)))
    | _ => true) &&
  ((T.kon.all fun q => (match PySem.W.nsIn K mainGlobals q.1 with
    | some (some v) => konB K q.2 v
    | _ => false) && !(q.1 == ("__debug__" : Str))) &&
  ((T.ist.all fun q => decide (PySem.W.kitOne K (q.1.w T K) (q.2.1.w T K) = some q.2.2) && (match q.1 with
    | .c c => insB K (clA T K c)
    | .b _ => true)) &&
  ((bltNames.all fun x => He.eqO (PySem.W.nsIn K mainGlobals x) (some none)) && (T.mks.all fun c => mkB K (clA T K c))))))))))))
end
section
variable {T : Tb} {hN : okN T.nms = true} {K : PySem.W.Frag} {h : Heap} {mg : Str → Option Value}
theorem far {a c : Nat} (h : a < 1000000000) (e : 1000000000 + c = a) : False := by omega
theorem near {c d : Nat} (e : 1000000000 + c = 1000000000 + d) : c = d := by omega
theorem clA_inj (h1 : (T.cls.map (He.ga K)).Nodup) (h2 : ∀ x ∈ T.cls, He.ga K x < 1000000000) : ∀ c d, clA T K c = clA T K d → c = d := by
  intro c d e
  unfold clA at e
  cases a : T.cls[c]? with
  | none =>
    rw [a] at e
    cases b : T.cls[d]? with
    | none => rw [b] at e; exact near e
    | some y => rw [b] at e; exact (far (h2 y (List.mem_of_getElem? b)) e).elim
  | some x =>
    rw [a] at e
    cases b : T.cls[d]? with
    | none => rw [b] at e; exact (far (h2 x (List.mem_of_getElem? a)) e.symm).elim
    | some y =>
      rw [b] at e
      dsimp only at e
      have l := (List.getElem?_eq_some_iff.mp a).1
      have p : (T.cls.map (He.ga K))[c]? = (T.cls.map (He.ga K))[d]? := by
        rw [List.getElem?_map, List.getElem?_map, a, b]
        show some (He.ga K x) = some (He.ga K y)
        rw [e]
      exact (List.getElem?_inj (by rw [List.length_map]; exact l) h1).mp p
theorem dnB_ok {C f : Addr} {k : Nat} {m : Str} (q : dnB K C k m f = true) : (Cls K C ∧ Meth K C m f ∧ PySem.W.selfFirst K C = true) ∧ (k < 14 → (∀ t ∈ sideTs, (PySem.W.findIn K (.type t) m).isSome = true) ∧ noIB K C k = true) ∧
    (k < 19 → (∀ t ∈ sideTs, PySem.W.subIn K (.type t) (.ref C) = some false) ∧ PySem.W.subIn K (.ref C) (.type "int") = some false) ∧
    (k = 18 → PySem.W.findIn K (.ref C) "__ne__" = some (some (.builtin "object.__ne__")) ∧ PySem.W.mroIn K C (.type "object") = some true) := by
  obtain ⟨q1, q⟩ := and2 q
  obtain ⟨q2, q⟩ := and2 q
  obtain ⟨q3, q⟩ := and2 q
  obtain ⟨q4, q⟩ := and2 q
  obtain ⟨q5, q6⟩ := and2 q
  refine ⟨⟨clsB_ok q1, methB_ok q2, q3⟩, fun lt => ?_, fun lt => ?_, fun e => ?_⟩
  · rcases Bool.or_eq_true_iff.mp q4 with z | z
    · simp [lt] at z
    · obtain ⟨z1, z2⟩ := and2 z
      exact ⟨fun t ht => List.all_eq_true.mp z1 t ht, z2⟩
  · rcases Bool.or_eq_true_iff.mp q5 with z | z
    · simp [lt] at z
    · obtain ⟨z1, z2⟩ := and2 z
      exact ⟨fun t ht => of_decide_eq_true (List.all_eq_true.mp z1 t ht), of_decide_eq_true z2⟩
  · rcases Bool.or_eq_true_iff.mp q6 with z | z
    · subst e; cases z
    · obtain ⟨z1, z2⟩ := and2 z
      exact ⟨He.eqO_ok z1, of_decide_eq_true z2⟩
theorem noIB_ok {C : Addr} {op : Operator} (q : noIB K C (opk op) = true) (hk : opk op < 14) : ∃ cd, PySem.W.clsIn K C = some cd ∧ ∀ t ∈ cd.mro, PySem.W.findIn K t (PySem.dunderI op.info.2) = some none := by
  have mem : op ∈ opsAll := by
    cases op <;> first | decide | (exfalso; revert hk; decide)
  have z := List.all_eq_true.mp q op mem
  rcases Bool.or_eq_true_iff.mp z with z | z
  · simp at z
  · split at z
    · rename_i cd e
      exact ⟨cd, e, fun t ht => He.eqO_ok (List.all_eq_true.mp z t ht)⟩
    · cases z
theorem not_of_not {b : Bool} (h : (!b) = true) : b = false := by
  cases b
  · rfl
  · cases h
theorem gg_of (X : K.In h) (N : h.Ns mainGlobals mg) (q : tbB T K = true) : GG K mg (gamOf T hN K) := by
  obtain ⟨q0, q⟩ := and2 q
  obtain ⟨q1, q2⟩ := and2 q0
  obtain ⟨q3, q⟩ := and2 q
  obtain ⟨q4, q⟩ := and2 q
  obtain ⟨q5, q⟩ := and2 q
  obtain ⟨q6, q⟩ := and2 q
  obtain ⟨q7, q⟩ := and2 q
  obtain ⟨q8, q⟩ := and2 q
  obtain ⟨q9, q⟩ := and2 q
  obtain ⟨q10, q⟩ := and2 q
  obtain ⟨q11, q⟩ := and2 q
  obtain ⟨q12, _⟩ := and2 q
  have one : ∀ x ∈ T.cls, He.ga K x < 1000000000 ∧ gloB K x (He.ga K x) = true ∧ (x == ("__debug__" : Str)) = false := fun x hx => by
    obtain ⟨z1, z⟩ := and2 (List.all_eq_true.mp q2 x hx)
    obtain ⟨z2, z3⟩ := and2 z
    exact ⟨of_decide_eq_true z1, z2, by simpa using z3⟩
  have dn : ∀ c k i, find3 T.dn c k = some i → dnB K (clA T K c) k (nmAll T.nms k) (adA T K i) = true := fun c k i e => List.all_eq_true.mp q4 (c, k, i) (find3_mem e)
  have ops : GOps K (gamOf T hN K) := by
    refine ⟨⟨fun c k e => ?_, fun c k i e => (dnB_ok (dn c k i e)).1⟩, fun i hi => ?_, fun c k i e lt t ht => ((dnB_ok (dn c k i e)).2.1 lt).1 t ht, fun c k i e lt t ht => ((dnB_ok (dn c k i e)).2.2.1 lt).1 t ht,
      fun c k i e lt => ((dnB_ok (dn c k i e)).2.2.1 lt).2, clA_inj (of_decide_eq_true q1) fun x hx => (one x hx).1, fun c op i e lt => noIB_ok ((dnB_ok (dn c _ i e)).2.1 lt).2 lt, fun c i e => (dnB_ok (dn c 18 i e)).2.2.2 rfl⟩
    · have z := List.all_eq_true.mp q3 (c, k) (List.contains_iff_mem.mp e)
      obtain ⟨z1, z2⟩ := and2 z
      exact ⟨clsB_ok z1, He.eqO_ok z2⟩
    · show nmAll T.nms i = _
      unfold nmAll
      rw [List.getElem?_append_left hi, List.getElem?_eq_getElem hi]
      rw [List.getD_eq_getElem?_getD, List.getElem?_eq_getElem hi]
      rfl
  refine ⟨ops, fun c k n i e => ?_, fun c k i e => ?_, fun c k n i e => ?_, fun c k n i e => ?_, fun i x e => ?_, fun c x e => ?_, fun j x d e => ?_, fun t u b e => ?_, fun c t b e => ?_, fun x hx => ?_⟩
  · obtain ⟨z1, z⟩ := and2 (List.all_eq_true.mp q6 (c, k, n, i) (find4_mem e))
    obtain ⟨z2, z3⟩ := and2 z
    exact ⟨clsB_ok z1, methB_ok z2, beq_iff_eq.mp z3⟩
  · obtain ⟨z1, z⟩ := and2 (List.all_eq_true.mp q5 (c, k, i) (find3_mem e))
    obtain ⟨z2, z3⟩ := and2 z
    obtain ⟨y1, y⟩ := and2 z1
    obtain ⟨y2, y⟩ := and2 y
    obtain ⟨y3, y⟩ := and2 y
    obtain ⟨y4, y5⟩ := and2 y
    exact ⟨clsB_ok y1, List.isEmpty_iff.mp z2, not_of_not z3, _, He.eqO_ok y2, He.eqO_ok y3, of_decide_eq_true y4, rec_is y5⟩
  · obtain ⟨z1, z2⟩ := and2 (List.all_eq_true.mp q7 (c, k, n, i) (find4_mem e))
    obtain ⟨y1, y⟩ := and2 z1
    obtain ⟨y2, y⟩ := and2 y
    obtain ⟨y3, y4⟩ := and2 y
    obtain ⟨mc, r1, r2, r3⟩ := readB_ok y1
    obtain ⟨rest, r4⟩ := rec_is y3
    exact ⟨⟨mc, _, rest, r1, r2, r3, getB_ok y2 r2, r4, rfl, y4⟩, beq_iff_eq.mp z2⟩
  · obtain ⟨z1, z2⟩ := and2 (List.all_eq_true.mp q8 (c, k, n, i) (find4_mem e))
    obtain ⟨y1, y⟩ := and2 z1
    obtain ⟨y2, y⟩ := and2 y
    obtain ⟨y3, y4⟩ := and2 y
    obtain ⟨mc, r1, r2, r3⟩ := readB_ok y1
    exact ⟨⟨mc, _, ⟨r3, r1⟩, ⟨getB_ok y2 r2, rec_is y3, y4⟩⟩, beq_iff_eq.mp z2⟩
  · have e' : (match T.gn[i]? with
      | some o => o
      | none => none) = some x := e
    split at e'
    · rename_i o ho
      subst e'
      have lt := (List.getElem?_eq_some_iff.mp ho).1
      have z := List.all_eq_true.mp q9 i (List.mem_range.mpr lt)
      rw [ho] at z
      obtain ⟨z1, z⟩ := and2 z
      obtain ⟨z2, z3⟩ := and2 z
      exact ⟨PySem.W.mg_of X N (He.eqO_ok z1), z2, by simpa using z3⟩
    · cases e'
  · have e' : T.cls[c]? = some x := e
    obtain ⟨z1, z2, z3⟩ := one x (List.mem_of_getElem? e')
    refine ⟨?_, z3⟩
    show mg x = some (.ref (clA T K c))
    unfold clA
    rw [e']
    exact PySem.W.mg_of X N (He.eqO_ok z2)
  · obtain ⟨z1, z2⟩ := and2 (List.all_eq_true.mp q10 (x, d) (List.mem_of_getElem? e))
    refine ⟨?_, by simpa using z2⟩
    split at z1
    · rename_i v hv
      obtain ⟨w, r, p⟩ := konB_ok (G := gamOf T hN K) d z1
      exact ⟨v, w, PySem.W.mg_of X N hv, r, p⟩
    · cases z1
  · obtain ⟨z1, z2⟩ := and2 (List.all_eq_true.mp q11 (t, u, b) (findT_mem e))
    have z := of_decide_eq_true z1
    cases t <;> cases u <;> exact z
  · obtain ⟨z1, z2⟩ := and2 (List.all_eq_true.mp q11 (.c c, t, b) (findT_mem e))
    exact insB_ok z2
  · exact PySem.W.mg_none_of X N (He.eqO_ok (List.all_eq_true.mp q12 x hx))
end
theorem mk_of {T : Tb} {K : PySem.W.Frag} (q : tbB T K = true) {c : Nat} (hc : c ∈ T.mks) : Mk K (clA T K c) (He.ma K (clA T K c) "__init__") := by
  obtain ⟨_, q⟩ := and2 q
  obtain ⟨_, q⟩ := and2 q
  obtain ⟨_, q⟩ := and2 q
  obtain ⟨_, q⟩ := and2 q
  obtain ⟨_, q⟩ := and2 q
  obtain ⟨_, q⟩ := and2 q
  obtain ⟨_, q⟩ := and2 q
  obtain ⟨_, q⟩ := and2 q
  obtain ⟨_, q⟩ := and2 q
  obtain ⟨_, q⟩ := and2 q
  obtain ⟨_, q⟩ := and2 q
  obtain ⟨z1, z⟩ := and2 (List.all_eq_true.mp q c hc)
  obtain ⟨z2, z⟩ := and2 z
  obtain ⟨z3, z4⟩ := and2 z
  exact ⟨z1, He.eqO_ok z2, z3, z4⟩
/-! ## the defs -/
structure Df where
  at_ : At
  name : Str
  qual : Str
  params : Arguments
  body : List Stmt
  scope : Scope
  dfl : List D
def fnAt (K : PySem.W.Frag) (f : Addr) : He.FnW := match K.lookup f with
  | some ⟨_, _, .func fd, _⟩ => some (fd.name, fd.qualname, fd.params, fd.body, fd.scope, fd.globals, fd.closure, fd.builtins)
  | _ => none
def Df.val (d : Df) : He.FnW := some (d.name, d.qual, d.params, .stmts d.body, d.scope, mainGlobals, [], builtinsNs)
def dflD (K : PySem.W.Frag) (dV : Value) : List D → Bool
  | [] => (match dV with
    | .none => true
    | _ => false)
  | d :: ds => (match dV with
    | .ref T => (match K.lookup T with
      | some ⟨_, _, .seq its _, _⟩ => konBs K (d :: ds) its.toList
      | _ => false)
    | _ => false)
def Df.ok (K : PySem.W.Frag) (d : Df) : Bool := PySem.W.keepIn K (.ref (d.at_.ad K)) && (match K.lookup (d.at_.ad K) with
  | some ⟨_, _, .func fd, _⟩ => PySem.W.codeIn K fd.code d.qual && dflD K fd.defaults d.dfl
  | _ => false)
theorem dflD_ok {K : PySem.W.Frag} {G : Gam} {dV : Value} {ds : List D} (h : dflD K dV ds = true) : ∃ vs, DflV K dV vs ∧ ∀ I, Reps K G I ds vs := by
  cases ds with
  | nil =>
    cases dV with
    | none => exact ⟨[], .inl ⟨rfl, rfl⟩, fun I => .nil⟩
    | _ => cases h
  | cons d ds =>
    cases dV with
    | ref T =>
      have h : (match K.lookup T with
        | some ⟨_, _, .seq its _, _⟩ => konBs K (d :: ds) its.toList
        | _ => false) = true := h
      split at h
      · rename_i oc od its n sl hl
        obtain ⟨vs, r, q⟩ := konBs_ok (G := G) (d :: ds) h
        refine ⟨vs, .inr ⟨?_, T, _, its.toList, n, rfl, hl, by simp, r⟩, q⟩
        intro z
        have := (q (fun _ => none)).length
        rw [z] at this
        simp at this
      · cases h
    | _ => cases h
theorem Df.funD {K : PySem.W.Frag} {G : Gam} {d : Df} (e : fnAt K (d.at_.ad K) = d.val) (c : d.ok K = true) : ∃ fd vs, FunD K d.name d.qual d.params d.body d.scope vs [] (d.at_.ad K) fd ∧ ∀ I, Reps K G I d.dfl vs := by
  obtain ⟨kp, c⟩ := and2 c
  unfold fnAt at e
  split at c
  · rename_i oc od fd sl hl
    rw [hl] at e
    dsimp only at e
    obtain ⟨k1, k2⟩ := and2 c
    obtain ⟨vs, k3, k4⟩ := dflD_ok (G := G) k2
    obtain ⟨n1, n2, n3, n4, n5, n6, n7, n8, n9, n10, n11, n12, n13, n14, n15⟩ := fd
    unfold Df.val at e
    simp only [Option.some.injEq, Prod.mk.injEq] at e
    obtain ⟨e1, e2, e3, e4, e5, e6, e7, e8⟩ := e
    subst e1 e2 e3 e4 e5 e6 e7 e8
    exact ⟨_, vs, ⟨⟨oc, od, n8, n9, n10, n11, n12, n13, n14, sl, rfl, hl, k1, k3, .inl rfl⟩, kp⟩, k4⟩
  · cases c
/-! ## the Hook -/
def asP (g : Addr → Option Obj) : Nat → List Addr
  | 0 => [mainGlobals, cStatics]
  | n + 1 => He.growD g (asP g n)
def obsP (T : Tb) (fn : List Df) (K : PySem.W.Frag) : He.AlD := (tbB T K && fn.all fun d => d.ok K, fn.map fun d => fnAt K (d.at_.ad K))
def valP (fn : List Df) : He.AlD := (true, fn.map Df.val)
def SaysP (T : Tb) (fn : List Df) (K : PySem.W.Frag) : Prop := obsP T fn K = valP fn
def obsPG (n : Nat) (T : Tb) (fn : List Df) (g : Addr → Option Obj) : He.AlD := obsP T fn (He.frG g (asP g n))
def hookP (n : Nat) (T : Tb) (fn : List Df) : PySem.W.Hook where
  α := He.AlD
  obs := fun s => obsPG n T fn s.heap.get?
  val := fun _ => valP fn
  says := fun _ h => ∃ K : PySem.W.Frag, K.In h ∧ SaysP T fn K
  of := fun _ _ e => ⟨_, He.frG_in, e⟩
  keeps := fun _ _ _ ⟨K, kin, c⟩ k => ⟨K, PySem.W.Frag.In.keeps kin k, c⟩
theorem obsPG_eq {n : Nat} {T : Tb} {fn : List Df} {g : Addr → Option Obj} {s : Shared} (h : ∀ a, g a = s.heap.get? a) : obsPG n T fn g = (hookP n T fn).obs s := by
  obtain rfl : g = s.heap.get? := funext h
  rfl
theorem SaysP.tb {T : Tb} {fn : List Df} {K : PySem.W.Frag} (c : SaysP T fn K) : tbB T K = true := (and2 (show (tbB T K && fn.all fun d => d.ok K) = true from congrArg (fun z : He.AlD => z.1) c)).1
theorem SaysP.df {T : Tb} {fn : List Df} {K : PySem.W.Frag} {G : Gam} (c : SaysP T fn K) {d : Df} (hd : d ∈ fn) : ∃ fd vs, FunD K d.name d.qual d.params d.body d.scope vs [] (d.at_.ad K) fd ∧ ∀ I, Reps K G I d.dfl vs := by
  have c2 := (and2 (show (tbB T K && fn.all fun d => d.ok K) = true from congrArg (fun z : He.AlD => z.1) c)).2
  have e : fn.map (fun d => fnAt K (d.at_.ad K)) = fn.map Df.val := congrArg (fun z : He.AlD => z.2) c
  have e2 : fnAt K (d.at_.ad K) = d.val := List.map_inj_left.mp e d hd
  exact Df.funD e2 (List.all_eq_true.mp c2 d hd)
end PyD
set_option Elab.async false
set_option linter.all false
set_option autoImplicit false
set_option maxRecDepth 100000
set_option maxHeartbeats 4000000
/-! # All defs of a text keep what is said of them -/
namespace PyD
open PySem PySem.Spec L2

def pick {α : Type} (sel : List (Bool × Nat)) (l its : List α) : List α := sel.filterMap fun q => if q.1 then its[q.2]? else l[q.2]?
/-- a callable: its def (a class: its __init__), its names, its parameters, how many values a call gives by position, where each parameter's value comes from, its body -/
structure Cb where
  d : Df
  N : List Str
  ps : List Str
  n : Nat
  sel : List (Bool × Nat)
  body : Ss
  cl : Option Nat := none
def selB (sel : List (Bool × Nat)) (n m : Nat) : Bool := sel.all fun q => if q.1 then decide (q.2 < m) else decide (q.2 < n)
def scB (N ps : List Str) (s : Scope) : Bool := (s.kind == .function) && (!s.isCoroutine && (!s.isGenerator && (decide N.Nodup && ((N.take ps.length == ps) && ((ps.all fun x => (s.names.lookup x == some .local) || (s.names.lookup x == some .cell)) && (s.names.all fun y => !(y.2 == .free)))))))
def cbB (T : Tb) (G : Gam) (i : Nat) (cb : Cb) : Bool := scB cb.N cb.ps cb.d.scope && (chkSs G ⟨cb.N, cb.d.scope⟩ cb.body cb.d.body && (decide (cb.sel.length = cb.ps.length) && (selB cb.sel (cb.n + (G.ks i).length) cb.d.dfl.length && (match cb.cl with
  | none => decide (T.at_[i]? = some cb.d.at_) && !(T.isC.contains i)
  | some c => T.isC.contains i && (T.mks.contains c && (match T.cls[c]? with
    | some x => decide (T.at_[i]? = some (.glo x)) && decide (cb.d.at_ = .meth x "__init__")
    | none => false))))))
def cbsB (T : Tb) (G : Gam) (cbs : List Cb) : Bool := (List.range cbs.length).all fun i => match cbs[i]? with
  | some cb => cbB T G i cb
  | none => true
theorem scB_ok {N ps : List Str} {s : Scope} (h : scB N ps s = true) : FnScope N ps s := by
  obtain ⟨h1, h⟩ := and2 h
  obtain ⟨h2, h⟩ := and2 h
  obtain ⟨h3, h⟩ := and2 h
  obtain ⟨h4, h⟩ := and2 h
  obtain ⟨h5, h⟩ := and2 h
  obtain ⟨h6, h7⟩ := and2 h
  refine ⟨beq_iff_eq.mp h1, not_of_not h2, not_of_not h3, of_decide_eq_true h4, beq_iff_eq.mp h5, fun x hx => ?_, fun y hy z => ?_⟩
  · rcases Bool.or_eq_true_iff.mp (List.all_eq_true.mp h6 x hx) with z | z
    · exact .inl (beq_iff_eq.mp z)
    · exact .inr (beq_iff_eq.mp z)
  · have := List.all_eq_true.mp h7 y hy
    rw [z] at this
    exact absurd this (by decide)
theorem pick_length {α : Type} : ∀ {sel : List (Bool × Nat)} {l its : List α}, selB sel l.length its.length = true → (pick sel l its).length = sel.length
  | [], _, _, _ => rfl
  | (b, i) :: sel, l, its, h => by
    obtain ⟨h1, h2⟩ := and2 (show (_ && sel.all _) = true from h)
    have ih := pick_length (sel := sel) (l := l) (its := its) h2
    unfold pick at ih ⊢
    cases b with
    | true =>
      have lt : i < its.length := of_decide_eq_true h1
      simp only [List.filterMap_cons, if_true, List.getElem?_eq_getElem lt, List.length_cons, ih]
    | false =>
      have lt : i < l.length := of_decide_eq_true h1
      simp only [List.filterMap_cons, Bool.false_eq_true, if_false, List.getElem?_eq_getElem lt, List.length_cons, ih]
theorem pick_vals : ∀ {sel : List (Bool × Nat)} {vs dv : List V} {us its : List Value}, Vals vs us → Vals dv its → Vals (pick sel vs dv) (pick sel us its)
  | [], _, _, _, _, _, _ => .nil
  | (b, i) :: sel, vs, dv, us, its, r, q => by
    have ih := pick_vals (sel := sel) r q
    unfold pick at ih ⊢
    have one : ∀ {xs : List V} {ys : List Value}, Vals xs ys → (∃ x y, xs[i]? = some x ∧ ys[i]? = some y ∧ RelV x y) ∨ (xs[i]? = none ∧ ys[i]? = none) := by
      intro xs ys r
      cases e : xs[i]? with
      | some x =>
        obtain ⟨y, e1, e2⟩ := r.get e
        exact .inl ⟨x, y, rfl, e1, e2⟩
      | none =>
        refine .inr ⟨rfl, ?_⟩
        rw [List.getElem?_eq_none_iff] at e ⊢
        rw [← r.length]
        exact e
    cases b with
    | true =>
      simp only [List.filterMap_cons, if_true]
      rcases one q with ⟨x, y, e1, e2, e3⟩ | ⟨e1, e2⟩
      · rw [e1, e2]; exact .cons e3 ih
      · rw [e1, e2]; exact ih
    | false =>
      simp only [List.filterMap_cons, Bool.false_eq_true, if_false]
      rcases one r with ⟨x, y, e1, e2, e3⟩ | ⟨e1, e2⟩
      · rw [e1, e2]; exact .cons e3 ih
      · rw [e1, e2]; exact ih
theorem pick_reps {K : PySem.W.Frag} {G : Gam} {I : Hp} : ∀ {sel : List (Bool × Nat)} {ds dd : List D} {vs dv : List V}, Reps K G I ds vs → Reps K G I dd dv → Reps K G I (pick sel ds dd) (pick sel vs dv)
  | [], _, _, _, _, _, _ => .nil
  | (b, i) :: sel, ds, dd, vs, dv, r, q => by
    have ih := pick_reps (sel := sel) r q
    unfold pick at ih ⊢
    have one : ∀ {xs : List D} {ys : List V}, Reps K G I xs ys → (∃ x y, xs[i]? = some x ∧ ys[i]? = some y ∧ Rep K G I x y) ∨ (xs[i]? = none ∧ ys[i]? = none) := by
      intro xs ys r
      cases e : xs[i]? with
      | some x =>
        obtain ⟨y, e1, e2⟩ := r.get e
        exact .inl ⟨x, y, rfl, e1, e2⟩
      | none =>
        refine .inr ⟨rfl, ?_⟩
        rw [List.getElem?_eq_none_iff] at e ⊢
        rw [r.length]
        exact e
    cases b with
    | true =>
      simp only [List.filterMap_cons, if_true]
      rcases one q with ⟨x, y, e1, e2, e3⟩ | ⟨e1, e2⟩
      · rw [e1, e2]; exact .cons e3 ih
      · rw [e1, e2]; exact ih
    | false =>
      simp only [List.filterMap_cons, Bool.false_eq_true, if_false]
      rcases one r with ⟨x, y, e1, e2, e3⟩ | ⟨e1, e2⟩
      · rw [e1, e2]; exact .cons e3 ih
      · rw [e1, e2]; exact ih
/-- how the values of a call come to the parameters -/
def BindH (cb : Cb) (ks : List Str) : Prop := ∀ (T : Addr) (kV doc pm : Value) (an : Option Addr) (cdv ct : Value) (us ws its : List Value), us.length = cb.n → ws.length = ks.length → its.length = cb.d.dfl.length →
  (match cb.d.dfl with
  | [] => bindArgs (PySem.W.fnOf cb.d.name cb.d.qual cb.d.params cb.d.body cb.d.scope .none kV doc pm an cdv ct) ⟨us, ks.zip ws⟩ = pure (cb.ps.zip (pick cb.sel (us ++ ws) its))
  | _ :: _ => ∃ k, bindArgs (PySem.W.fnOf cb.d.name cb.d.qual cb.d.params cb.d.body cb.d.scope (.ref T) kV doc pm an cdv ct) ⟨us, ks.zip ws⟩ = seqItems? (.ref T) >>= k ∧ k (some its.toArray) = pure (cb.ps.zip (pick cb.sel (us ++ ws) its)))
theorem arg_cb {K : PySem.W.Frag} {G : Gam} {cb : Cb} {f : Addr} {fd : FuncData} {dvs : List V} {ks : List Str} (F : FunD K cb.d.name cb.d.qual cb.d.params cb.d.body cb.d.scope dvs [] f fd) (hd : ∀ I, Reps K G I cb.d.dfl dvs) (hb : BindH cb ks)
    (hs : selB cb.sel (cb.n + ks.length) cb.d.dfl.length = true) (hl : cb.sel.length = cb.ps.length) : ArgOk K G fd cb.ps ks cb.n (fun ds => pick cb.sel ds cb.d.dfl) := by
  obtain ⟨oc, od, dV, kV, doc, pm, an, cdv, ct, osl, rfl, lk, hcd, hD, _⟩ := F.ex
  intro s us ws vs ds I kin hu hw r q
  have lv : vs.length = cb.n + ks.length := by rw [r.length, List.length_append, hu, hw]
  have ld : dvs.length = cb.d.dfl.length := (hd I).length
  have len : (pick cb.sel vs dvs).length = cb.ps.length := by
    rw [pick_length (by rw [lv, ld]; exact hs), hl]
  rcases hD with ⟨e1, rfl⟩ | ⟨e1, T, o, its, m, rfl, lT, oT, rT⟩
  · subst e1
    have e0 : cb.d.dfl = [] := List.length_eq_zero_iff.mp ld.symm
    have h := hb 0 kV doc pm an cdv ct us ws [] hu hw (by rw [e0]; rfl)
    rw [e0] at h
    exact ⟨_, _, .of_eq h, pick_vals r .nil, len, pick_reps q (hd I)⟩
  · have h := hb T kV doc pm an cdv ct us ws its hu hw (by rw [← rT.length, ld])
    cases e0 : cb.d.dfl with
    | nil =>
      rw [e0] at ld
      exact absurd (List.length_eq_zero_iff.mp ld) e1
    | cons d0 dr =>
      rw [e0] at h
      obtain ⟨k, h1, h2⟩ := h
      rw [e0] at hd
      exact ⟨_, _, BindsTo.of_defaults (fd := PySem.W.fnOf cb.d.name cb.d.qual cb.d.params cb.d.body cb.d.scope (.ref T) kV doc pm an cdv ct) rfl (kin _ _ lT) oT h1 h2, pick_vals r rT, len, pick_reps q (hd I)⟩
end PyD
set_option Elab.async false
set_option linter.all false
set_option autoImplicit false
set_option maxRecDepth 100000
set_option maxHeartbeats 4000000
/-! # From bodies to calls -/
namespace PyD
open PySem PySem.Spec L2

/-- what a body does with the values of a call -/
def bodySp (G : Gam) (Γ : Nat → SpD) (cb : Cb) (ks : List Str) : SpD := fun ds M K E => ds.length = cb.n + ks.length ∧ semSs G Γ cb.body (startD cb.N (pick cb.sel ds cb.d.dfl)) M { nx := fun _ M' => K .non M', rt := K, er := fun c fs _ M' => E c fs M' }
/-- only what stands below -/
def below (lv : Nat → Nat) (n : Nat) (Γ : Nat → SpD) : Nat → SpD := fun j => if lv j < n then Γ j else fun _ _ _ _ => False
/-- what is left to be shown of a callable -/
def SpecOk (G : Gam) (Γ : Nat → SpD) (lv : Nat → Nat) (i : Nat) (cb : Cb) : Prop := match cb.cl with
  | none => ∀ ds M K1 E1, Γ i ds M K1 E1 → bodySp G (below lv (lv i) Γ) cb (G.ks i) ds M K1 E1
  | some c => ∀ ds M K1 E1, Γ i ds M K1 E1 → ∀ a, M a = none → bodySp G (below lv (lv i) Γ) cb (G.ks i) (.loc a :: ds) (updM M a (.inst c [])) (fun d M' => d = .non ∧ ((∃ fs, M' a = some (.inst c fs) ∧ K1 (.obj c fs) (delM M' a)) ∨ K1 (.loc a) M')) E1
section
variable {P : Program} {w : World} {K : PySem.W.Frag} {mg : Str → Option Value} {base : Heap} {G : Gam} {Γ : Nat → SpD} {kx : Nat}
theorem fnd_cb (gg : GG K mg G) (calls : ∀ i ds M K1 E1, Γ i ds M K1 E1 → FnQ P w K mg base G kx (G.isC i) (.ref (G.adr i)) (G.ks i) (Γ i)) {cb : Cb} {f : Addr} {fd : FuncData} {dvs : List V} {ks : List Str}
    (F : FunD K cb.d.name cb.d.qual cb.d.params cb.d.body cb.d.scope dvs [] f fd) (hd : ∀ I, Reps K G I cb.d.dfl dvs) (hb : BindH cb ks) (hs : scB cb.N cb.ps cb.d.scope = true) (hc : chkSs G ⟨cb.N, cb.d.scope⟩ cb.body cb.d.body = true)
    (hsel : selB cb.sel (cb.n + ks.length) cb.d.dfl.length = true) (hl : cb.sel.length = cb.ps.length) : FnD P w K mg base G (kx + 7) (.ref f) ks (bodySp G Γ cb ks) := by
  have S := scB_ok hs
  refine fnd_of (k := kx + 6) F S (arg_cb F hd hb hsel hl) (fun ds M K1 E1 h => h.1) (fun cdv A outer s H E B hr hg => ?_) fun ds M K1 E1 h => h.2
  have c : Ctx (cxOf (CX P w) P w K mg base cb.N cb.d.qual cb.d.scope f cdv A outer s H E) G (fun cls dx _ H => E cls dx H) Γ kx := ⟨gg, calls, hr, hg, takes_cx, rfl, passes_cx⟩
  exact semSs_ok c (s := ⟨cb.N, cb.d.scope⟩) ⟨rfl, rfl, S.nd, fun y => .inl rfl, S.kind⟩ cb.body hc
theorem all_ok {T : Tb} {hN : okN T.nms = true} {fn : List Df} {cbs : List Cb} {lv : Nat → Nat} (gg : GG K mg (gamOf T hN K)) (c : SaysP T fn K) (mem : ∀ cb ∈ cbs, cb.d ∈ fn) (chk : cbsB T (gamOf T hN K) cbs = true)
    (bind : ∀ i cb, cbs[i]? = some cb → BindH cb (ksA T i)) (no : ∀ i, cbs[i]? = none → ∀ ds M K1 E1, ¬ Γ i ds M K1 E1) (spec : ∀ i cb, cbs[i]? = some cb → SpecOk (gamOf T hN K) Γ lv i cb) :
    ∀ n i, lv i < n → ∀ ds M K1 E1, Γ i ds M K1 E1 → FnQ P w K mg base (gamOf T hN K) (8 * lv i + 8) ((gamOf T hN K).isC i) (.ref ((gamOf T hN K).adr i)) ((gamOf T hN K).ks i) (Γ i) := by
  intro n
  induction n with
  | zero => intro i h; omega
  | succ n ih =>
    intro i hi ds M K1 E1 hΓ
    cases e : cbs[i]? with
    | none => exact absurd hΓ (no i e _ _ _ _)
    | some cb =>
      have lt := (List.getElem?_eq_some_iff.mp e).1
      have q := List.all_eq_true.mp chk i (List.mem_range.mpr lt)
      rw [e] at q
      obtain ⟨q1, q⟩ := and2 q
      obtain ⟨q2, q⟩ := and2 q
      obtain ⟨q3, q⟩ := and2 q
      obtain ⟨q4, q⟩ := and2 q
      obtain ⟨fd, vs, F, hd⟩ := c.df (G := gamOf T hN K) (mem cb (List.mem_of_getElem? e))
      have calls : ∀ j ds M K1 E1, below lv (lv i) Γ j ds M K1 E1 → FnQ P w K mg base (gamOf T hN K) (8 * lv i) ((gamOf T hN K).isC j) (.ref ((gamOf T hN K).adr j)) ((gamOf T hN K).ks j) (below lv (lv i) Γ j) := by
        intro j ds M K1 E1 h
        unfold below at h ⊢
        by_cases lj : lv j < lv i
        · rw [if_pos lj] at h ⊢
          exact (ih j (by omega) _ _ _ _ h).mono (by omega)
        · rw [if_neg lj] at h
          exact h.elim
      have Fd := fnd_cb (P := P) (w := w) (base := base) gg calls F hd (bind i cb e) q1 q2 q4 (of_decide_eq_true q3)
      have sp := spec i cb e
      unfold SpecOk at sp
      cases hcl : cb.cl with
      | none =>
        rw [hcl] at q sp
        obtain ⟨r1, r2⟩ := and2 q
        have ha : (gamOf T hN K).adr i = cb.d.at_.ad K := by
          show (match T.at_[i]? with
            | some a => a.ad K
            | none => 0) = _
          rw [of_decide_eq_true r1]
        have hc : (gamOf T hN K).isC i = false := not_of_not r2
        rw [ha, hc]
        exact (FnD.imp Fd sp).mono (by omega)
      | some cc =>
        rw [hcl] at q sp
        obtain ⟨r1, q⟩ := and2 q
        obtain ⟨r2, q⟩ := and2 q
        split at q
        · rename_i x hx
          obtain ⟨r3, r4⟩ := and2 q
          have hc : (gamOf T hN K).isC i = true := r1
          have hcl2 : (gamOf T hN K).cl cc = He.ga K x := by
            show clA T K cc = _
            unfold clA
            rw [hx]
          have ha : (gamOf T hN K).adr i = (gamOf T hN K).cl cc := by
            rw [hcl2]
            show (match T.at_[i]? with
              | some a => a.ad K
              | none => 0) = _
            rw [of_decide_eq_true r3]
            rfl
          have mk := mk_of c.tb (List.contains_iff_mem.mp r2)
          have hf : cb.d.at_.ad K = He.ma K (clA T K cc) "__init__" := by
            rw [of_decide_eq_true r4]
            show He.ma K (He.ga K x) "__init__" = _
            rw [← hcl2]
            rfl
          rw [hf] at Fd
          rw [hc]
          exact ⟨8 * lv i + 7, cc, _, _, rfl, by rw [ha], mk, Fd, sp⟩
        · cases q
end
/-- the law's def -/
theorem law_of {l : PySem.W.OpenLaw} {n m : Nat} {q : Program} {loose : List Str} {XP : (Str → Option Value) → Heap → Prop} {d : DefRec} {T : Tb} {hN : okN T.nms = true} {fn : List Df} {cbs : List Cb} {lv : Nat → Nat} {Γ : Nat → SpD} {i : Nat}
    (hn : l.most = some n) (hn2 : n ≤ sizeLine) (hdf : d.params.defaults = []) (hr : Room (8 * lv i + 8) callerA) (mem : ∀ cb ∈ cbs, cb.d ∈ fn) (chk : ∀ K, cbsB T (gamOf T hN K) cbs = true)
    (bind : ∀ i cb, cbs[i]? = some cb → BindH cb (ksA T i)) (no : ∀ i, cbs[i]? = none → ∀ ds M K1 E1, ¬ Γ i ds M K1 E1) (spec : ∀ K i cb, cbs[i]? = some cb → SpecOk (gamOf T hN K) Γ lv i cb)
    (hg : T.gn[i]? = some (some d.name)) (hk : ksA T i = []) (hc : T.isC.contains i = false)
    (law : ∀ ns : List Int, ns.length ≤ n → Γ i [.lst (ns.map D.int)] (fun _ => none) (fun d _ => d = .bl true) (fun _ _ _ => False)) :
    PySem.W.WalkO q loose XP (hookP m T fn).says l.row.toRowW d [] (fun f vs => PySem.call f vs) := by
  refine walk_ofD (k := 8 * lv i + 8) hn hn2 hdf hr fun w mg fa h ⟨K, kin, c⟩ hns hmg => ?_
  have gg := gg_of (hN := hN) kin hns c.tb
  obtain ⟨hm, _, _⟩ := gg.gn i d.name (by
    show (match T.gn[i]? with
      | some o => o
      | none => none) = _
    rw [hg])
  rw [hmg] at hm
  injection hm with hm
  injection hm with hm
  refine ⟨K, gamOf T hN K, Γ i, kin, law, fun base _ _ => ?_⟩
  have F := all_ok (P := l.prog) (w := w) (base := base) (lv := lv) gg c mem (chk K) bind no (spec K) (lv i + 1) i (by omega) _ _ _ _ (law [] (Nat.zero_le _))
  have hc' : (gamOf T hN K).isC i = false := hc
  have hk' : (gamOf T hN K).ks i = [] := hk
  rw [hc', hk', ← hm] at F
  exact F
end PyD
set_option Elab.async false
set_option linter.all false
set_option autoImplicit false
set_option maxRecDepth 100000
set_option maxHeartbeats 4000000
/-! # Steps through a meaning -/
namespace PyD
open PySem PySem.Spec L2
section
variable {P Q : Prop}
theorem brb_t (h : P) : brb true P Q := h
theorem brb_f (h : Q) : brb false P Q := h
theorem brb_not {b : Bool} (h : brb b Q P) : brb (!b) P Q := by cases b <;> exact h
theorem brb_dec {p : Prop} [Decidable p] (h1 : p → P) (h2 : ¬ p → Q) : brb (decide p) P Q := by
  by_cases h : p
  · rw [decide_eq_true h]; exact h1 h
  · rw [decide_eq_false h]; exact h2 h
theorem brb_eqI {i j : Int} (h1 : i = j → P) (h2 : i ≠ j → Q) : brb (i == j) P Q := by
  by_cases h : i = j
  · subst h; rw [beq_self_eq_true]; exact h1 rfl
  · rw [beq_eq_false_iff_ne.mpr h]; exact h2 h
theorem brb_neI {i j : Int} (h1 : i ≠ j → P) (h2 : i = j → Q) : brb (i != j) P Q := by
  by_cases h : i = j
  · subst h; rw [bne_self_eq_false]; exact h2 rfl
  · rw [bne_iff_ne.mpr h]; exact h1 h
theorem brb_eqS {i j : Str} (h1 : i = j → P) (h2 : i ≠ j → Q) : brb (i == j) P Q := by
  by_cases h : i = j
  · subst h; rw [beq_self_eq_true]; exact h1 rfl
  · rw [beq_eq_false_iff_ne.mpr h]; exact h2 h
theorem brb_i {b : Bool} (h1 : b = true → P) (h2 : b = false → Q) : brb b P Q := by
  cases b
  · exact h2 rfl
  · exact h1 rfl
theorem brb_and {a b : Bool} (h : brb a (brb b P Q) Q) : brb (a && b) P Q := by cases a <;> cases b <;> exact h
theorem brb_or {a b : Bool} (h : brb a P (brb b P Q)) : brb (a || b) P Q := by cases a <;> cases b <;> exact h
end
end PyD
set_option Elab.async false
set_option linter.all false
set_option autoImplicit false
set_option maxRecDepth 100000
set_option maxHeartbeats 4000000
set_option exponentiation.threshold 10000
/-! # The pens of the laws -/
namespace PyD
open PySem PySem.Spec L2
theorem le_d {a b : Nat} (h : Nat.ble a b = true) : a ≤ b := Nat.le_of_ble_eq_true h
theorem top_ints : ∀ cs : List Int, toPs (cs.map D.int) = some (cs.map PyData.int)
  | [] => by rfl
  | c :: cs => by
    show toPs (.int c :: cs.map D.int) = _
    unfold toPs
    rw [top_ints cs]
    rfl
theorem lay_ints : ∀ cs : List Int, PyData.canLayAll0 (cs.map PyData.int) = true ∧ PyData.depthAll (cs.map PyData.int) ≤ 1
  | [] => by simp [PyData.canLayAll0, PyData.depthAll]
  | c :: cs => by
    have := lay_ints cs
    simp only [List.map_cons, PyData.canLayAll0, PyData.canLay0, PyData.depthAll, PyData.depth, this, Bool.true_and]
    refine ⟨trivial, ?_⟩
    have := this.2
    omega
theorem shaped_ints (cs : List Int) : SeqAt.shaped (.list (cs.map PyData.int)) = true := by
  have := lay_ints cs
  unfold SeqAt.shaped
  rw [show (PyData.list (cs.map PyData.int)).canLay0 = true from by unfold PyData.canLay0; exact this.1, Bool.true_and]
  refine decide_eq_true ?_
  unfold PyData.depth
  have h2 := this.2
  omega
section
variable {G : Gam} {Γ : Nat → SpD}
theorem ne_ints {cs : List Int} {K : KB} {M : Mst} {E : ED} (h : K (!cs.isEmpty) M) : neC G Γ (.lst (cs.map D.int)) (.lst []) K M E := by
  show neP G Γ _ _ K M E
  unfold neP
  have e1 : toP (.lst (cs.map D.int)) = some (.list (cs.map PyData.int)) := by
    unfold toP
    rw [top_ints]
    rfl
  rw [e1, show toP (.lst []) = some (.list []) from rfl]
  refine ⟨shaped_ints cs, by decide, ?_⟩
  cases cs <;> exact h
/-- the pen, among what else there is -/
def Pen (M0 : Mst) (a : Addr) (n : Nat) (M : Mst) : Prop := M0 a = none ∧ ∃ (cs : List Int) (at_ g : Int), M = updM M0 a (.lst [.lst (cs.map D.int), .int at_, .int g]) ∧ 0 ≤ at_ ∧ at_ ≤ n ∧ 0 ≤ g
theorem Pen.up {M0 M : Mst} {a : Addr} {n m : Nat} (h : Pen M0 a n M) (l : n ≤ m) : Pen M0 a m M := by
  obtain ⟨h0, cs, p, g, e, h1, h2, h3⟩ := h
  exact ⟨h0, cs, p, g, e, h1, by omega, h3⟩
structure DrawK where
  k0 : Int
  k1 : Int
  p0 : Int
  k2 : Int
  k3 : Int
  p1 : Int
  k4 : Int
  k5 : Int
  k6 : Int
  p2 : Int
def drawHead (k : DrawK) (r : Ss) : Ss :=
    (.cons (.ite (.cmp .Gt (.sub (.var 0) (.con (.int 2))) (.con (.int 0)))
    (.cons (.asg 2 (.bin .Mod (.blt .int (.cons (.sub (.var 0) (.con (.int 2))) .nil)) (.var 1)))
    (.cons (.seti (.var 0) (.con (.int 2)) (.bin .FloorDiv (.blt .int (.cons (.sub (.var 0) (.con (.int 2))) .nil)) (.var 1)))
    (.cons (.ret (.var 2))
    .nil)))
    .nil)
    (.cons (.asg 3 (.sub (.var 0) (.con (.int 1))))
    (.cons (.seti (.var 0) (.con (.int 1)) (.bin .Add (.var 3) (.con (.int 1))))
    (.cons (.asg 4 (.bin .Add (.bin .Mult (.con (.int k.k0)) (.var 3)) (.con (.int k.k1))))
    (.cons (.ite (.cmp .NotEq (.sub (.var 0) (.con (.int 0))) (.lst .nil))
    (.cons (.asg 4 (.sub (.sub (.var 0) (.con (.int 0))) (.bin .Mod (.blt .int (.cons (.var 3) .nil)) (.blt .len (.cons (.sub (.var 0) (.con (.int 0))) .nil)))))
    .nil)
    .nil)
    (.cons (.ite (.and (.cmp .Lt (.var 3) (.blt .len (.cons (.sub (.var 0) (.con (.int 0))) .nil))) (.cmp .GtE (.blt .abs (.cons (.var 4) .nil)) (.bin .Pow (.con (.int 10)) (.con (.int 18)))))
    (.cons (.asg 5 (.bin .Add (.bin .Mult (.con (.int 2)) (.bin .Sub (.blt .abs (.cons (.var 4) .nil)) (.bin .Pow (.con (.int 10)) (.con (.int 18))))) (.blt .int (.cons (.cmp .Lt (.var 4) (.con (.int 0))) .nil))))
    (.cons (.seti (.var 0) (.con (.int 2)) (.bin .FloorDiv (.blt .int (.cons (.var 5) .nil)) (.var 1)))
    (.cons (.ret (.bin .Mod (.blt .int (.cons (.var 5) .nil)) (.var 1)))
    .nil)))
    .nil) r))))))
def mix1 (k : DrawK) : S := (.asg 6 (.bin .Mod (.blt .int (.cons (.bin .Pow (.bin .Add (.bin .Add (.bin .Mod (.blt .int (.cons (.var 4) .nil)) (.con (.int k.p0))) (.bin .Mult (.con (.int k.k2)) (.var 3))) (.con (.int k.k3))) (.con (.int 5))) .nil)) (.con (.int k.p1))))
/-- the draw of most laws -/
def drawA (k : DrawK) : Ss := drawHead k
    (.cons (mix1 k)
    (.cons (.asg 6 (.bin .Mod (.blt .int (.cons (.bin .Pow (.bin .Add (.bin .Add (.bin .Mult (.var 6) (.bin .Add (.bin .Mult (.con (.int 2)) (.var 3)) (.con (.int k.k4)))) (.bin .Mult (.bin .Mult (.con (.int k.k5)) (.var 3)) (.var 3))) (.con (.int k.k6))) (.con (.int 3))) .nil)) (.con (.int k.p2))))
    (.cons (.ret (.bin .Mod (.blt .int (.cons (.bin .FloorDiv (.var 6) (.con (.int 32))) .nil)) (.var 1)))
    .nil)))
/-- the constants of a draw -/
def DrawK.ok (k : DrawK) : Bool := decide (0 ≤ k.k0 ∧ k.k0 < 2 ^ 32 ∧ 0 < k.p0 ∧ k.p0 < 2 ^ 32 ∧ 0 ≤ k.k2 ∧ k.k2 < 2 ^ 32 ∧ 0 ≤ k.k3 ∧ k.k3 < 2 ^ 32 ∧ 0 < k.p1 ∧ k.p1 < 2 ^ 32 ∧ 0 ≤ k.k4 ∧ k.k4 < 2 ^ 20 ∧ 0 ≤ k.k5 ∧ k.k5 < 2 ^ 20 ∧ 0 ≤ k.k6 ∧ k.k6 < 2 ^ 32 ∧ 0 < k.p2)
theorem bd_nn {n : Nat} {i : Int} (h0 : 0 ≤ i) (h : i < (2 ^ n : Nat)) : Bd n i := by
  show i.natAbs < 2 ^ n
  omega
theorem fmod_lt {i m : Int} (h : 0 < m) : 0 ≤ i.fmod m ∧ i.fmod m < m := ⟨Int.fmod_nonneg_of_pos _ h, Int.fmod_lt_of_pos _ h⟩
theorem at_ints {cs : List Int} {i : Int} (f1 : 0 ≤ i) (f2 : i < (((cs.map D.int).length : Nat) : Int)) : ∃ z, atI (cs.map D.int) i = some (.int z) := by
  have l : i.toNat < cs.length := by rw [List.length_map] at f2; omega
  refine ⟨cs[i.toNat], ?_⟩
  unfold atI ixN
  rw [if_pos f1, if_pos f2]
  show (cs.map D.int)[i.toNat]? = _
  rw [List.getElem?_map, List.getElem?_eq_getElem l]
  rfl
variable {M0 M : Mst} {a : Addr} {n : Nat} {m : Int} {En : EndD}
theorem head_ok {k : DrawK} {r : Ss} (hk : k.ok = true) (hp : Pen M0 a n M) (hn : n < 2 ^ 19) (h0 : 0 < m) (hm : m < 2 ^ 40)
    (h : ∀ v M', 0 ≤ v → v < m → Pen M0 a (n + 1) M' → En.rt (.int v) M')
    (hr : ∀ (c at_ : Int) M', 0 ≤ at_ → at_ ≤ n → Pen M0 a (n + 1) M' → semSs G Γ r [some (.loc a), some (.int m), none, some (.int at_), some (.int c), none, none] M' En) :
    semSs G Γ (drawHead k r) [some (.loc a), some (.int m), none, none, none, none, none] M En := by
  obtain ⟨p0, cs, t, g, rfl, t1, t2, t3⟩ := hp
  have hk := of_decide_eq_true hk
  obtain ⟨c1, c2, c3, c4, c5, c6, c7, c8, c9, c10, c11, c12, c13, c14, c15, c16, c17⟩ := hk
  have dm : DivOk m := ⟨by omega, bd_nn (n := 8000) (by omega) (by
    have : (2 : Nat) ^ 40 < 2 ^ 8000 := Nat.pow_lt_pow_right (by omega) (by omega)
    omega)⟩
  refine ⟨_, updM_same, .int g, rfl, ?_⟩
  refine brb_dec (fun e => ?_) (fun e => ?_)
  · refine ⟨_, updM_same, .int g, rfl, by omega, ?_⟩
    refine ⟨_, updM_same, .int g, rfl, dm, _, _, updM_same, rfl, ?_⟩
    refine h _ _ (fmod_lt h0).1 (fmod_lt h0).2 ⟨p0, cs, t, g.fdiv m, updM_updM, t1, by omega, ?_⟩
    exact Int.fdiv_nonneg (by omega) (by omega)
  · refine ⟨_, updM_same, .int t, rfl, ?_⟩
    refine ⟨_, _, updM_same, rfl, ?_⟩
    rw [updM_updM]
    have rest : ∀ c : Int, semSs G Γ (.cons (.ite (.and (.cmp .Lt (.var 3) (.blt .len (.cons (.sub (.var 0) (.con (.int 0))) .nil))) (.cmp .GtE (.blt .abs (.cons (.var 4) .nil)) (.bin .Pow (.con (.int 10)) (.con (.int 18)))))
        (.cons (.asg 5 (.bin .Add (.bin .Mult (.con (.int 2)) (.bin .Sub (.blt .abs (.cons (.var 4) .nil)) (.bin .Pow (.con (.int 10)) (.con (.int 18))))) (.blt .int (.cons (.cmp .Lt (.var 4) (.con (.int 0))) .nil))))
        (.cons (.seti (.var 0) (.con (.int 2)) (.bin .FloorDiv (.blt .int (.cons (.var 5) .nil)) (.var 1)))
        (.cons (.ret (.bin .Mod (.blt .int (.cons (.var 5) .nil)) (.var 1)))
        .nil)))
        .nil) r) [some (.loc a), some (.int m), none, some (.int t), some (.int c), none, none] (updM M0 a (.lst [.lst (cs.map D.int), .int (t + 1), .int g])) En := by
      intro c
      have pen : Pen M0 a (n + 1) (updM M0 a (.lst [.lst (cs.map D.int), .int (t + 1), .int g])) := ⟨p0, cs, t + 1, g, rfl, by omega, by omega, t3⟩
      have two : Bd 64 (10 : Int) := show (10 : Nat) < 2 ^ 64 by decide
      have two2 : Bd 63 (2 : Int) := show (2 : Nat) < 2 ^ 63 by decide
      refine ⟨_, updM_same, .lst (cs.map D.int), rfl, ?_⟩
      refine brb_dec (fun e1 => ?_) (fun e1 => hr c t _ t1 t2 pen)
      refine ⟨⟨by decide, by decide, two⟩, ?_⟩
      refine brb_dec (fun e2 => ?_) (fun e2 => hr c t _ t1 t2 pen)
      refine ⟨⟨by decide, by decide, two⟩, .inl two2, ?_⟩
      refine ⟨dm, _, _, updM_same, rfl, ?_⟩
      rw [updM_updM]
      refine ⟨by omega, h _ _ (fmod_lt h0).1 (fmod_lt h0).2 ⟨p0, cs, t + 1, _, rfl, by omega, by omega, Int.fdiv_nonneg ?_ (by omega)⟩⟩
      have e3 : (10 : Int) ^ 18 ≤ if c < 0 then -c else c := e2
      split <;> omega
    refine ⟨.inr (.inr ⟨32, 20, ?_, ?_, by omega, by omega, by omega⟩), ?_⟩
    · exact bd_nn c1 c2
    · exact bd_nn t1 (by omega)
    refine ⟨_, updM_same, .lst (cs.map D.int), rfl, ?_⟩
    refine ⟨Nat.zero_le _, ?_⟩
    dsimp only [cmpD]
    refine ne_ints ?_
    cases cs with
    | nil => exact rest _
    | cons c cs =>
      refine ⟨_, updM_same, .lst ((c :: cs).map D.int), rfl, ?_⟩
      refine ⟨_, updM_same, .lst ((c :: cs).map D.int), rfl, ?_⟩
      have lp : (0 : Int) < ((((c :: cs).map D.int).length : Nat) : Int) := by simp
      refine ⟨by omega, ?_⟩
      obtain ⟨f1, f2⟩ := fmod_lt (i := t) lp
      have ex := at_ints f1 f2
      obtain ⟨z, hz⟩ := ex
      exact ⟨_, hz, rest z⟩
theorem drawA_ok {k : DrawK} (hk : k.ok = true) (hp : Pen M0 a n M) (hn : n < 2 ^ 19) (h0 : 0 < m) (hm : m < 2 ^ 40)
    (h : ∀ v M', 0 ≤ v → v < m → Pen M0 a (n + 1) M' → En.rt (.int v) M') :
    semSs G Γ (drawA k) [some (.loc a), some (.int m), none, none, none, none, none] M En := by
  refine head_ok hk hp hn h0 hm h fun c t M' t1 t2 pen => ?_
  have hk := of_decide_eq_true hk
  obtain ⟨c1, c2, c3, c4, c5, c6, c7, c8, c9, c10, c11, c12, c13, c14, c15, c16, c17⟩ := hk
  have tb : Bd 20 t := bd_nn t1 (by omega)
  obtain ⟨x1, x2⟩ := fmod_lt (i := c) c3
  have z1 : 0 ≤ k.k2 * t := Int.mul_nonneg c5 t1
  have z2 : k.k2 * t < 2 ^ 52 := by
    have : k.k2 * t ≤ 2 ^ 32 * 2 ^ 19 := Int.mul_le_mul (by omega) (by omega) t1 (by omega)
    omega
  refine ⟨by omega, .inr (.inr ⟨32, 20, bd_nn c5 c6, tb, by omega, by omega, by omega⟩), ?_⟩
  refine ⟨⟨by decide, by decide, bd_nn (n := 64) (by omega) (by omega)⟩, by omega, ?_⟩
  obtain ⟨y1, y2⟩ := fmod_lt (i := (c.fmod k.p0 + k.k2 * t + k.k3) ^ Int.toNat 5) c9
  have w1 : 0 ≤ ((c.fmod k.p0 + k.k2 * t + k.k3) ^ Int.toNat 5).fmod k.p1 * (2 * t + k.k4) := Int.mul_nonneg y1 (by omega)
  have w2 : ((c.fmod k.p0 + k.k2 * t + k.k3) ^ Int.toNat 5).fmod k.p1 * (2 * t + k.k4) ≤ 2 ^ 32 * 2 ^ 21 := Int.mul_le_mul (by omega) (by omega) (by omega) (by omega)
  have v1 : 0 ≤ k.k5 * t := Int.mul_nonneg c13 t1
  have v2 : k.k5 * t ≤ 2 ^ 20 * 2 ^ 19 := Int.mul_le_mul (by omega) (by omega) t1 (by omega)
  have v3 : 0 ≤ k.k5 * t * t := Int.mul_nonneg v1 t1
  have v4 : k.k5 * t * t ≤ 2 ^ 39 * 2 ^ 19 := Int.mul_le_mul (by omega) (by omega) t1 (by omega)
  have two2 : Bd 63 (2 : Int) := show (2 : Nat) < 2 ^ 63 by decide
  refine ⟨.inl two2, .inl (bd_nn y1 (by omega)), .inl (bd_nn c13 (by omega)), .inl (bd_nn v1 (by omega)), ⟨by decide, by decide, bd_nn (n := 64) (by omega) (by omega)⟩, by omega, ?_⟩
  refine ⟨⟨by decide, show (32 : Nat) < 2 ^ 8000 from Nat.lt_of_lt_of_le (by decide : 32 < 2 ^ 6) (Nat.pow_le_pow_right (by omega) (by omega))⟩, by omega, ?_⟩
  exact h _ _ (fmod_lt h0).1 (fmod_lt h0).2 pen
end
end PyD
set_option Elab.async false
set_option linter.all false
set_option autoImplicit false
set_option maxRecDepth 100000
set_option maxHeartbeats 4000000
set_option exponentiation.threshold 10000
/-! # What can be shown -/
namespace PyD
open PySem PySem.Spec L2
def leaf : PyData → Prop
  | .none => True
  | .bool _ => True
  | .int i => i.natAbs < 2 ^ 250
  | _ => False
def leaves : List PyData → Prop
  | [] => True
  | x :: xs => leaf x ∧ leaves xs
theorem log_of {n k : Nat} (h : n < 2 ^ k) (hk : 0 < k) : n.log2 < k := by
  by_cases e : n = 0
  · subst e; exact hk
  · exact (Nat.log2_lt e).mpr h
theorem leaf_ok {x : PyData} (h : leaf x) : PyData.showable x = true ∧ PyData.hasDict x = false ∧ PyData.depth x = 0 ∧ PyData.leavesShort 260 x = true ∧ PyData.weight x ≤ 260 := by
  cases x with
  | none => exact ⟨rfl, rfl, rfl, rfl, le_d rfl⟩
  | bool b => exact ⟨rfl, rfl, rfl, rfl, le_d rfl⟩
  | int i =>
    have h : i.natAbs < 2 ^ 250 := h
    have l := log_of h (by omega)
    have s := int_text_length_le (by omega : 0 < 250) l
    refine ⟨decide_eq_true (by omega), rfl, rfl, decide_eq_true ?_, ?_⟩
    · show (Str.ofString (toString i)).length ≤ 260
      rw [PySem.ofString_length]
      omega
    · show (if i == 0 then 0 else i.natAbs.log2 + 1) ≤ 260
      split <;> omega
  | _ => exact h.elim
theorem leaves_ok : ∀ {xs : List PyData}, leaves xs → PyData.showableAll xs = true ∧ PyData.hasDictAll xs = false ∧ PyData.depthAll xs = 0 ∧ PyData.leavesShortAll 260 xs = true ∧ PyData.weightAll xs ≤ 261 * xs.length
  | [], _ => by simp [PyData.showableAll, PyData.hasDictAll, PyData.depthAll, PyData.leavesShortAll, PyData.weightAll]
  | x :: xs, h => by
    obtain ⟨a1, a2, a3, a4, a5⟩ := leaf_ok h.1
    obtain ⟨b1, b2, b3, b4, b5⟩ := leaves_ok h.2
    refine ⟨?_, ?_, ?_, ?_, ?_⟩
    · unfold PyData.showableAll; rw [a1, b1]; rfl
    · unfold PyData.hasDictAll; rw [a2, b2]; rfl
    · unfold PyData.depthAll; rw [a3, b3]; rfl
    · unfold PyData.leavesShortAll; rw [a4, b4]; rfl
    · unfold PyData.weightAll; rw [List.length_cons]; omega
theorem repr_go {xs : List PyData} (h : leaves xs) (hl : xs.length ≤ 14) : PyData.showable (.list xs) = true ∧ PyData.depth (.list xs) ≤ 50 ∧ PyData.hasDict (.list xs) = false ∧ (PyData.shown (.list xs)).length ≤ 1000000 := by
  obtain ⟨b1, b2, b3, b4, b5⟩ := leaves_ok h
  have s := PyData.shown_le 260 (by omega) (.list xs) b4
  refine ⟨b1, ?_, b2, ?_⟩
  · show PyData.depthAll xs + 1 ≤ 50
    omega
  · have : PyData.weight (.list xs) ≤ 261 * 14 := by
      show PyData.weightAll xs ≤ _
      omega
    omega
end PyD
set_option Elab.async false
set_option linter.all false
set_option autoImplicit false
set_option maxRecDepth 100000
set_option maxHeartbeats 4000000
namespace PyD
open PySem PySem.Spec L2
namespace L02
def prog : Program := PySem.Challenge.pw_gangruns_k02_amounts_put_together
def top (i : Nat) : Stmt := PySem.Challenge.pw_gangruns_k02_amounts_put_together.main.body.getD i (.Pass ⟨0, 0, 0, 0⟩)
def s0 : Stmt := top 1
def N0 : List Str := ["value"]
/-- is_integer -/
def b0 : Ss :=
    (.cons (.ret (.and (.blt .isi (.cons (.var 0) (.cons (.ty "int") .nil))) (.not (.blt .isi (.cons (.var 0) (.cons (.ty "bool") .nil))))))
    .nil)
def s1 : Stmt := top 11
def N1 : List Str := ["one", "other"]
/-- shared_divisor -/
def b1 : Ss :=
    (.cons (.whl (.cmp .NotEq (.var 1) (.con (.int 0)))
    (.cons (.par [0, 1] (.cons (.var 1) (.cons (.bin .Mod (.var 0) (.var 1)) .nil)))
    .nil))
    (.cons (.ret (.var 0))
    .nil))
def s2 : Stmt := top 12
def N2 : List Str := ["number"]
/-- parts_of -/
def b2 : Ss :=
    (.cons (.ret (.ite (.blt .isi (.cons (.var 0) (.cons (.kls 0) .nil))) (.tup (.cons (.att (.var 0) 29) (.cons (.att (.var 0) 30) .nil))) (.tup (.cons (.var 0) (.cons (.con (.int 1)) .nil)))))
    .nil)
def s3 : Stmt := inClass (top 14) 0
def N3 : List Str := ["self", "top", "bottom", "value", "divisor"]
/-- Amount.__init__ -/
def b3 : Ss :=
    (.cons (.for1 3 (.seq (.tup (.cons (.var 1) (.cons (.var 2) .nil))))
    (.cons (.ite (.not (.call 0 (.cons (.var 3) .nil) .nil))
    (.cons .nev
    .nil)
    .nil)
    .nil))
    (.cons (.ite (.cmp .Eq (.var 2) (.con (.int 0)))
    (.cons .nev
    .nil)
    .nil)
    (.cons (.asg 4 (.call 1 (.cons (.blt .abs (.cons (.var 1) .nil)) (.cons (.blt .abs (.cons (.var 2) .nil)) .nil)) .nil))
    (.cons (.ite (.cmp .Lt (.var 2) (.con (.int 0)))
    (.cons (.asg 4 (.neg (.var 4)))
    .nil)
    .nil)
    (.cons (.setf (.var 0) 29 (.bin .FloorDiv (.var 1) (.var 4)))
    (.cons (.setf (.var 0) 30 (.bin .FloorDiv (.var 2) (.var 4)))
    .nil))))))
def s4 : Stmt := inClass (top 14) 1
def N4 : List Str := ["value"]
/-- Amount.is_number -/
def b4 : Ss :=
    (.cons (.ret (.or (.blt .isi (.cons (.var 0) (.cons (.kls 0) .nil))) (.call 0 (.cons (.var 0) .nil) .nil)))
    .nil)
def s5 : Stmt := inClass (top 14) 2
def N5 : List Str := ["value"]
/-- Amount.of -/
def b5 : Ss :=
    (.cons (.ite (.not (.stat 0 31 [] (.cons (.var 0) .nil) .nil))
    (.cons .nev
    .nil)
    .nil)
    (.cons (.ret (.ite (.blt .isi (.cons (.var 0) (.cons (.kls 0) .nil))) (.var 0) (.call 4 (.cons (.var 0) .nil) .nil)))
    .nil))
def s6 : Stmt := inClass (top 14) 9
def N6 : List Str := ["self", "other", "top", "bottom"]
/-- Amount.__add__ -/
def b6 : Ss :=
    (.cons (.ite (.not (.stat 0 31 [] (.cons (.var 1) .nil) .nil))
    (.cons .nev
    .nil)
    .nil)
    (.cons (.unp [2, 3] (.call 2 (.cons (.var 1) .nil) .nil))
    (.cons (.ret (.call 3 (.cons (.bin .Add (.bin .Mult (.att (.var 0) 29) (.var 3)) (.bin .Mult (.var 2) (.att (.var 0) 30))) (.cons (.bin .Mult (.att (.var 0) 30) (.var 3)) .nil)) .nil))
    .nil)))
def s7 : Stmt := inClass (top 14) 10
def N7 : List Str := ["self", "other"]
/-- Amount.__radd__ -/
def b7 : Ss :=
    (.cons (.ret (.bin .Add (.var 0) (.var 1)))
    .nil)
def s8 : Stmt := inClass (top 14) 11
def N8 : List Str := ["self", "other", "top", "bottom"]
/-- Amount.__sub__ -/
def b8 : Ss :=
    (.cons (.ite (.not (.stat 0 31 [] (.cons (.var 1) .nil) .nil))
    (.cons .nev
    .nil)
    .nil)
    (.cons (.unp [2, 3] (.call 2 (.cons (.var 1) .nil) .nil))
    (.cons (.ret (.call 3 (.cons (.bin .Sub (.bin .Mult (.att (.var 0) 29) (.var 3)) (.bin .Mult (.var 2) (.att (.var 0) 30))) (.cons (.bin .Mult (.att (.var 0) 30) (.var 3)) .nil)) .nil))
    .nil)))
def s9 : Stmt := inClass (top 14) 12
def N9 : List Str := ["self", "other"]
/-- Amount.__rsub__ -/
def b9 : Ss :=
    (.cons (.ret (.bin .Sub (.stat 0 32 [] (.cons (.var 1) .nil) .nil) (.var 0)))
    .nil)
def s10 : Stmt := inClass (top 14) 13
def N10 : List Str := ["self", "other", "top", "bottom"]
/-- Amount.__mul__ -/
def b10 : Ss :=
    (.cons (.ite (.not (.stat 0 31 [] (.cons (.var 1) .nil) .nil))
    (.cons .nev
    .nil)
    .nil)
    (.cons (.unp [2, 3] (.call 2 (.cons (.var 1) .nil) .nil))
    (.cons (.ret (.call 3 (.cons (.bin .Mult (.att (.var 0) 29) (.var 2)) (.cons (.bin .Mult (.att (.var 0) 30) (.var 3)) .nil)) .nil))
    .nil)))
def s11 : Stmt := inClass (top 14) 14
def N11 : List Str := ["self", "other"]
/-- Amount.__rmul__ -/
def b11 : Ss :=
    (.cons (.ret (.bin .Mult (.var 0) (.var 1)))
    .nil)
def s12 : Stmt := inClass (top 14) 15
def N12 : List Str := ["self"]
/-- Amount.__neg__ -/
def b12 : Ss :=
    (.cons (.ret (.call 3 (.cons (.neg (.att (.var 0) 29)) (.cons (.att (.var 0) 30) .nil)) .nil))
    .nil)
def s13 : Stmt := inClass (top 14) 16
def N13 : List Str := ["self", "other", "top", "bottom"]
/-- Amount.__lt__ -/
def b13 : Ss :=
    (.cons (.unp [2, 3] (.call 2 (.cons (.var 1) .nil) .nil))
    (.cons (.ret (.cmp .Lt (.bin .Mult (.att (.var 0) 29) (.var 3)) (.bin .Mult (.var 2) (.att (.var 0) 30))))
    .nil))
def s14 : Stmt := inClass (top 14) 17
def N14 : List Str := ["self", "other", "top", "bottom"]
/-- Amount.__le__ -/
def b14 : Ss :=
    (.cons (.unp [2, 3] (.call 2 (.cons (.var 1) .nil) .nil))
    (.cons (.ret (.cmp .LtE (.bin .Mult (.att (.var 0) 29) (.var 3)) (.bin .Mult (.var 2) (.att (.var 0) 30))))
    .nil))
def s15 : Stmt := inClass (top 14) 18
def N15 : List Str := ["self", "other", "top", "bottom"]
/-- Amount.__gt__ -/
def b15 : Ss :=
    (.cons (.unp [2, 3] (.call 2 (.cons (.var 1) .nil) .nil))
    (.cons (.ret (.cmp .Gt (.bin .Mult (.att (.var 0) 29) (.var 3)) (.bin .Mult (.var 2) (.att (.var 0) 30))))
    .nil))
def s16 : Stmt := inClass (top 14) 19
def N16 : List Str := ["self", "other", "top", "bottom"]
/-- Amount.__ge__ -/
def b16 : Ss :=
    (.cons (.unp [2, 3] (.call 2 (.cons (.var 1) .nil) .nil))
    (.cons (.ret (.cmp .GtE (.bin .Mult (.att (.var 0) 29) (.var 3)) (.bin .Mult (.var 2) (.att (.var 0) 30))))
    .nil))
def s17 : Stmt := inClass (top 14) 20
def N17 : List Str := ["self", "other"]
/-- Amount.__eq__ -/
def b17 : Ss :=
    (.cons (.ite (.not (.stat 0 31 [] (.cons (.var 1) .nil) .nil))
    (.cons (.ret (.con (.bl false)))
    .nil)
    .nil)
    (.cons (.ret (.cmp .Eq (.tup (.cons (.att (.var 0) 29) (.cons (.att (.var 0) 30) .nil))) (.call 2 (.cons (.var 1) .nil) .nil)))
    .nil))
def s18 : Stmt := inClass (top 14) 21
def N18 : List Str := ["self"]
/-- Amount.__bool__ -/
def b18 : Ss :=
    (.cons (.ret (.blt .bool (.cons (.cmp .NotEq (.att (.var 0) 29) (.con (.int 0))) .nil)))
    .nil)
def s19 : Stmt := inClass (top 14) 5
def N19 : List Str := ["self"]
/-- Amount.floor -/
def b19 : Ss :=
    (.cons (.ret (.bin .FloorDiv (.att (.var 0) 29) (.att (.var 0) 30)))
    .nil)
def s20 : Stmt := inClass (top 14) 6
def N20 : List Str := ["self"]
/-- Amount.ceiling -/
def b20 : Ss :=
    (.cons (.ret (.neg (.bin .FloorDiv (.neg (.att (.var 0) 29)) (.att (.var 0) 30))))
    .nil)
def s21 : Stmt := inClass (top 14) 7
def N21 : List Str := ["self"]
/-- Amount.is_whole -/
def b21 : Ss :=
    (.cons (.ret (.cmp .Eq (.att (.var 0) 30) (.con (.int 1))))
    .nil)
def s22 : Stmt := inClass (top 14) 8
def N22 : List Str := ["self", "number", "top", "bottom"]
/-- Amount.over -/
def b22 : Ss :=
    (.cons (.ite (.or (.not (.stat 0 31 [] (.cons (.var 1) .nil) .nil)) (.cmp .Eq (.var 1) (.con (.int 0))))
    (.cons .nev
    .nil)
    .nil)
    (.cons (.unp [2, 3] (.call 2 (.cons (.var 1) .nil) .nil))
    (.cons (.ret (.call 3 (.cons (.bin .Mult (.att (.var 0) 29) (.var 3)) (.cons (.bin .Mult (.att (.var 0) 30) (.var 2)) .nil)) .nil))
    .nil)))
def s23 : Stmt := inClass (top 14) 3
def N23 : List Str := ["numbers", "found", "number"]
/-- Amount.sum_of -/
def b23 : Ss :=
    (.cons (.asg 1 (.call 4 (.cons (.con (.int 0)) .nil) .nil))
    (.cons (.for1 2 (.seq (.var 0))
    (.cons (.asg 1 (.bin .Add (.var 1) (.var 2)))
    .nil))
    (.cons (.ret (.var 1))
    .nil)))
def s24 : Stmt := top 16
def N24 : List Str := ["_law_script"]
/-- _law_pen -/
def b24 : Ss :=
    (.cons (.ret (.mlst (.cons (.blt .list (.cons (.cut (.var 0) .no (.con (.int 63))) .nil)) (.cons (.con (.int 0)) (.cons (.con (.int 0)) .nil)))))
    .nil)
def s25 : Stmt := top 17
def N25 : List Str := ["_law_pen_here", "_law_many", "_law_digit", "_law_at", "_law_cell", "_law_great", "_law_mixed"]
/-- _law_draw -/
def b25 : Ss :=
    (.cons (.ite (.cmp .Gt (.sub (.var 0) (.con (.int 2))) (.con (.int 0)))
    (.cons (.asg 2 (.bin .Mod (.blt .int (.cons (.sub (.var 0) (.con (.int 2))) .nil)) (.var 1)))
    (.cons (.seti (.var 0) (.con (.int 2)) (.bin .FloorDiv (.blt .int (.cons (.sub (.var 0) (.con (.int 2))) .nil)) (.var 1)))
    (.cons (.ret (.var 2))
    .nil)))
    .nil)
    (.cons (.asg 3 (.sub (.var 0) (.con (.int 1))))
    (.cons (.seti (.var 0) (.con (.int 1)) (.bin .Add (.var 3) (.con (.int 1))))
    (.cons (.asg 4 (.bin .Add (.bin .Mult (.con (.int 61053)) (.var 3)) (.con (.int 1217))))
    (.cons (.ite (.cmp .NotEq (.sub (.var 0) (.con (.int 0))) (.lst .nil))
    (.cons (.asg 4 (.sub (.sub (.var 0) (.con (.int 0))) (.bin .Mod (.blt .int (.cons (.var 3) .nil)) (.blt .len (.cons (.sub (.var 0) (.con (.int 0))) .nil)))))
    .nil)
    .nil)
    (.cons (.ite (.and (.cmp .Lt (.var 3) (.blt .len (.cons (.sub (.var 0) (.con (.int 0))) .nil))) (.cmp .GtE (.blt .abs (.cons (.var 4) .nil)) (.bin .Pow (.con (.int 10)) (.con (.int 18)))))
    (.cons (.asg 5 (.bin .Add (.bin .Mult (.con (.int 2)) (.bin .Sub (.blt .abs (.cons (.var 4) .nil)) (.bin .Pow (.con (.int 10)) (.con (.int 18))))) (.blt .int (.cons (.cmp .Lt (.var 4) (.con (.int 0))) .nil))))
    (.cons (.seti (.var 0) (.con (.int 2)) (.bin .FloorDiv (.blt .int (.cons (.var 5) .nil)) (.var 1)))
    (.cons (.ret (.bin .Mod (.blt .int (.cons (.var 5) .nil)) (.var 1)))
    .nil)))
    .nil)
    (.cons (.asg 6 (.bin .Mod (.blt .int (.cons (.bin .Pow (.bin .Add (.bin .Add (.bin .Mod (.blt .int (.cons (.var 4) .nil)) (.con (.int 2147483549))) (.bin .Mult (.con (.int 71071)) (.var 3))) (.con (.int 725))) (.con (.int 5))) .nil)) (.con (.int 2147483629))))
    (.cons (.asg 6 (.bin .Mod (.blt .int (.cons (.bin .Pow (.bin .Add (.bin .Add (.bin .Mult (.var 6) (.bin .Add (.bin .Mult (.con (.int 2)) (.var 3)) (.con (.int 313)))) (.bin .Mult (.bin .Mult (.con (.int 59053)) (.var 3)) (.var 3))) (.con (.int 45))) (.con (.int 3))) .nil)) (.con (.int 2147483587))))
    (.cons (.ret (.bin .Mod (.blt .int (.cons (.bin .FloorDiv (.var 6) (.con (.int 32))) .nil)) (.var 1)))
    .nil)))))))))
def s26 : Stmt := top 18
def N26 : List Str := ["_law_pen_here", "_law_some"]
/-- _law_pick -/
def b26 : Ss :=
    (.cons (.ret (.sub (.var 1) (.call 30 (.cons (.var 0) (.cons (.blt .len (.cons (.var 1) .nil)) .nil)) .nil)))
    .nil)
def s27 : Stmt := top 19
def N27 : List Str := ["_law_upper", "_law_lower", "_law_one", "_law_other", "_law_sign"]
/-- _law_low -/
def b27 : Ss :=
    (.cons (.par [2, 3] (.cons (.blt .abs (.cons (.var 0) .nil)) (.cons (.blt .abs (.cons (.var 1) .nil)) .nil)))
    (.cons (.whl (.cmp .NotEq (.var 3) (.con (.int 0)))
    (.cons (.par [2, 3] (.cons (.var 3) (.cons (.bin .Mod (.blt .int (.cons (.var 2) .nil)) (.var 3)) .nil)))
    .nil))
    (.cons (.asg 4 (.ite (.cmp .Lt (.var 1) (.con (.int 0))) (.neg (.con (.int 1))) (.con (.int 1))))
    (.cons (.ret (.tup (.cons (.bin .FloorDiv (.bin .Mult (.var 4) (.var 0)) (.var 2)) (.cons (.bin .FloorDiv (.bin .Mult (.var 4) (.var 1)) (.var 2)) .nil))))
    .nil))))
def s28 : Stmt := top 20
def N28 : List Str := ["_law_pen_here", "_law_size"]
/-- _law_number -/
def b28 : Ss :=
    (.cons (.asg 1 (.call 31 (.cons (.var 0) (.cons (.lst (.cons (.con (.int 0)) (.cons (.con (.int 1)) (.cons (.con (.int 2)) (.cons (.con (.int 7)) (.cons (.call 30 (.cons (.var 0) (.cons (.con (.int 60)) .nil)) .nil) (.cons (.bin .Add (.bin .Pow (.con (.int 10)) (.con (.int 20))) (.call 30 (.cons (.var 0) (.cons (.con (.int 99)) .nil)) .nil)) (.cons (.bin .Pow (.con (.int 10)) (.con (.int 30))) .nil)))))))) .nil)) .nil))
    (.cons (.ret (.bin .Mult (.var 1) (.call 31 (.cons (.var 0) (.cons (.lst (.cons (.con (.int 1)) (.cons (.con (.int 1)) (.cons (.neg (.con (.int 1))) .nil)))) .nil)) .nil)))
    .nil))
def s29 : Stmt := top 21
def N29 : List Str := ["_law_pen_here", "_law_lower"]
/-- _law_pair -/
def b29 : Ss :=
    (.cons (.asg 1 (.bin .Mult (.call 31 (.cons (.var 0) (.cons (.lst (.cons (.con (.int 1)) (.cons (.con (.int 2)) (.cons (.con (.int 3)) (.cons (.con (.int 12)) (.cons (.bin .Add (.con (.int 1)) (.call 30 (.cons (.var 0) (.cons (.con (.int 30)) .nil)) .nil)) (.cons (.bin .Pow (.con (.int 10)) (.con (.int 30))) .nil))))))) .nil)) .nil) (.call 31 (.cons (.var 0) (.cons (.lst (.cons (.con (.int 1)) (.cons (.con (.int 1)) (.cons (.neg (.con (.int 1))) .nil)))) .nil)) .nil)))
    (.cons (.ret (.tup (.cons (.call 33 (.cons (.var 0) .nil) .nil) (.cons (.var 1) .nil))))
    .nil))
def s30 : Stmt := top 22
def N30 : List Str := ["_law_made", "_law_upper", "_law_lower"]
/-- _law_is -/
def b30 : Ss :=
    (.cons (.ret (.and (.blt .isi (.cons (.var 0) (.cons (.kls 0) .nil))) (.cmp .Eq (.tup (.cons (.att (.var 0) 29) (.cons (.att (.var 0) 30) .nil))) (.call 32 (.cons (.var 1) (.cons (.var 2) .nil)) .nil))))
    .nil)
def s31 : Stmt := top 23
def N31 : List Str := ["_law_made", "_law_upper", "_law_lower", "_law_high", "_law_low_here", "_law_told", "_law_due"]
/-- _law_alone_right -/
def b31 : Ss :=
    (.cons (.ite (.or (.not (.call 35 (.cons (.var 0) (.cons (.var 1) (.cons (.var 2) .nil))) .nil)) (.not (.call 35 (.cons (.neg (.var 0)) (.cons (.neg (.var 1)) (.cons (.var 2) .nil))) .nil)))
    (.cons (.ret (.con (.bl false)))
    .nil)
    .nil)
    (.cons (.unp [3, 4] (.call 32 (.cons (.var 1) (.cons (.var 2) .nil)) .nil))
    (.cons (.asg 5 (.lst (.cons (.att (.var 0) 33) (.cons (.att (.var 0) 34) (.cons (.att (.var 0) 35) (.cons (.blt .bool (.cons (.var 0) .nil)) (.cons (.cmp .Eq (.var 0) (.var 3)) (.cons (.stat 0 31 [] (.cons (.var 0) .nil) .nil) .nil))))))))
    (.cons (.asg 6 (.lst (.cons (.bin .FloorDiv (.var 3) (.var 4)) (.cons (.bin .Sub (.con (.int 0)) (.bin .FloorDiv (.bin .Sub (.con (.int 0)) (.var 3)) (.var 4))) (.cons (.cmp .Eq (.var 4) (.con (.int 1))) (.cons (.cmp .NotEq (.var 3) (.con (.int 0))) (.cons (.cmp .Eq (.var 4) (.con (.int 1))) (.cons (.con (.bl true)) .nil))))))))
    (.cons (.ret (.and (.cmp .Eq (.blt .repr (.cons (.var 5) .nil)) (.blt .repr (.cons (.var 6) .nil))) (.and (.cmp .Eq (.stat 0 32 [] (.cons (.var 0) .nil) .nil) (.var 0)) (.cmp .Eq (.stat 0 32 ["value"] .nil (.cons (.var 3) .nil)) (.var 3)))))
    .nil)))))
def s32 : Stmt := top 24
def N32 : List Str := ["_law_first", "_law_one", "_law_second", "_law_other", "_law_gap", "_law_told"]
/-- _law_two_right -/
def b32 : Ss :=
    (.cons (.ite (.not (.call 35 (.cons (.bin .Add (.var 0) (.var 2)) (.cons (.bin .Add (.bin .Mult (.sub (.var 1) (.con (.int 0))) (.sub (.var 3) (.con (.int 1)))) (.bin .Mult (.sub (.var 3) (.con (.int 0))) (.sub (.var 1) (.con (.int 1))))) (.cons (.bin .Mult (.sub (.var 1) (.con (.int 1))) (.sub (.var 3) (.con (.int 1)))) .nil))) .nil))
    (.cons (.ret (.con (.bl false)))
    .nil)
    .nil)
    (.cons (.ite (.not (.call 35 (.cons (.bin .Sub (.var 0) (.var 2)) (.cons (.bin .Sub (.bin .Mult (.sub (.var 1) (.con (.int 0))) (.sub (.var 3) (.con (.int 1)))) (.bin .Mult (.sub (.var 3) (.con (.int 0))) (.sub (.var 1) (.con (.int 1))))) (.cons (.bin .Mult (.sub (.var 1) (.con (.int 1))) (.sub (.var 3) (.con (.int 1)))) .nil))) .nil))
    (.cons (.ret (.con (.bl false)))
    .nil)
    .nil)
    (.cons (.ite (.not (.call 35 (.cons (.bin .Mult (.var 0) (.var 2)) (.cons (.bin .Mult (.sub (.var 1) (.con (.int 0))) (.sub (.var 3) (.con (.int 0)))) (.cons (.bin .Mult (.sub (.var 1) (.con (.int 1))) (.sub (.var 3) (.con (.int 1)))) .nil))) .nil))
    (.cons (.ret (.con (.bl false)))
    .nil)
    .nil)
    (.cons (.ite (.and (.cmp .NotEq (.sub (.var 3) (.con (.int 0))) (.con (.int 0))) (.not (.call 35 (.cons (.meth (.var 0) 36 [] (.cons (.var 2) .nil) .nil) (.cons (.bin .Mult (.sub (.var 1) (.con (.int 0))) (.sub (.var 3) (.con (.int 1)))) (.cons (.bin .Mult (.sub (.var 1) (.con (.int 1))) (.sub (.var 3) (.con (.int 0)))) .nil))) .nil)))
    (.cons (.ret (.con (.bl false)))
    .nil)
    .nil)
    (.cons (.asg 4 (.bin .Mult (.bin .Sub (.bin .Mult (.sub (.var 1) (.con (.int 0))) (.sub (.var 3) (.con (.int 1)))) (.bin .Mult (.sub (.var 3) (.con (.int 0))) (.sub (.var 1) (.con (.int 1))))) (.ite (.cmp .Lt (.bin .Mult (.sub (.var 1) (.con (.int 1))) (.sub (.var 3) (.con (.int 1)))) (.con (.int 0))) (.neg (.con (.int 1))) (.con (.int 1)))))
    (.cons (.asg 5 (.lst (.cons (.cmp .Lt (.var 0) (.var 2)) (.cons (.cmp .LtE (.var 0) (.var 2)) (.cons (.cmp .Gt (.var 0) (.var 2)) (.cons (.cmp .GtE (.var 0) (.var 2)) (.cons (.cmp .Eq (.var 0) (.var 2)) (.cons (.cmp .NotEq (.var 0) (.var 2)) .nil))))))))
    (.cons (.ret (.cmp .Eq (.blt .repr (.cons (.var 5) .nil)) (.blt .repr (.cons (.lst (.cons (.cmp .Lt (.var 4) (.con (.int 0))) (.cons (.cmp .LtE (.var 4) (.con (.int 0))) (.cons (.cmp .Gt (.var 4) (.con (.int 0))) (.cons (.cmp .GtE (.var 4) (.con (.int 0))) (.cons (.cmp .Eq (.var 4) (.con (.int 0))) (.cons (.cmp .NotEq (.var 4) (.con (.int 0))) .nil))))))) .nil))))
    .nil)))))))
def s33 : Stmt := top 25
def N33 : List Str := ["_law_first", "_law_one", "_law_many", "_law_upper", "_law_lower", "_law_gap", "_law_told", "_law_due"]
/-- _law_whole_right -/
def b33 : Ss :=
    (.cons (.unp [3, 4] (.var 1))
    (.cons (.ite (.not (.call 35 (.cons (.bin .Add (.var 0) (.var 2)) (.cons (.bin .Add (.var 3) (.bin .Mult (.var 2) (.var 4))) (.cons (.var 4) .nil))) .nil))
    (.cons (.ret (.con (.bl false)))
    .nil)
    .nil)
    (.cons (.ite (.not (.call 35 (.cons (.bin .Add (.var 2) (.var 0)) (.cons (.bin .Add (.var 3) (.bin .Mult (.var 2) (.var 4))) (.cons (.var 4) .nil))) .nil))
    (.cons (.ret (.con (.bl false)))
    .nil)
    .nil)
    (.cons (.ite (.not (.call 35 (.cons (.bin .Sub (.var 0) (.var 2)) (.cons (.bin .Sub (.var 3) (.bin .Mult (.var 2) (.var 4))) (.cons (.var 4) .nil))) .nil))
    (.cons (.ret (.con (.bl false)))
    .nil)
    .nil)
    (.cons (.ite (.not (.call 35 (.cons (.bin .Sub (.var 2) (.var 0)) (.cons (.bin .Sub (.bin .Mult (.var 2) (.var 4)) (.var 3)) (.cons (.var 4) .nil))) .nil))
    (.cons (.ret (.con (.bl false)))
    .nil)
    .nil)
    (.cons (.ite (.or (.not (.call 35 (.cons (.bin .Mult (.var 0) (.var 2)) (.cons (.bin .Mult (.var 3) (.var 2)) (.cons (.var 4) .nil))) .nil)) (.not (.call 35 (.cons (.bin .Mult (.var 2) (.var 0)) (.cons (.bin .Mult (.var 3) (.var 2)) (.cons (.var 4) .nil))) .nil)))
    (.cons (.ret (.con (.bl false)))
    .nil)
    .nil)
    (.cons (.ite (.and (.cmp .NotEq (.var 2) (.con (.int 0))) (.not (.call 35 (.cons (.meth (.var 0) 36 ["number"] .nil (.cons (.var 2) .nil)) (.cons (.var 3) (.cons (.bin .Mult (.var 4) (.var 2)) .nil))) .nil)))
    (.cons (.ret (.con (.bl false)))
    .nil)
    .nil)
    (.cons (.asg 5 (.bin .Mult (.bin .Sub (.var 3) (.bin .Mult (.var 2) (.var 4))) (.ite (.cmp .Lt (.var 4) (.con (.int 0))) (.neg (.con (.int 1))) (.con (.int 1)))))
    (.cons (.asg 6 (.lst (.cons (.cmp .Lt (.var 0) (.var 2)) (.cons (.cmp .LtE (.var 0) (.var 2)) (.cons (.cmp .Gt (.var 0) (.var 2)) (.cons (.cmp .GtE (.var 0) (.var 2)) (.cons (.cmp .Eq (.var 0) (.var 2)) (.cons (.cmp .Eq (.var 2) (.var 0)) .nil))))))))
    (.cons (.asg 6 (.bin .Add (.var 6) (.lst (.cons (.cmp .Lt (.var 2) (.var 0)) (.cons (.cmp .LtE (.var 2) (.var 0)) (.cons (.cmp .Gt (.var 2) (.var 0)) (.cons (.cmp .GtE (.var 2) (.var 0)) .nil)))))))
    (.cons (.asg 7 (.lst (.cons (.cmp .Lt (.var 5) (.con (.int 0))) (.cons (.cmp .LtE (.var 5) (.con (.int 0))) (.cons (.cmp .Gt (.var 5) (.con (.int 0))) (.cons (.cmp .GtE (.var 5) (.con (.int 0))) (.cons (.cmp .Eq (.var 5) (.con (.int 0))) (.cons (.cmp .Eq (.var 5) (.con (.int 0))) (.cons (.cmp .Gt (.var 5) (.con (.int 0))) (.cons (.cmp .GtE (.var 5) (.con (.int 0))) (.cons (.cmp .Lt (.var 5) (.con (.int 0))) (.cons (.cmp .LtE (.var 5) (.con (.int 0))) .nil))))))))))))
    (.cons (.ret (.cmp .Eq (.blt .repr (.cons (.var 6) .nil)) (.blt .repr (.cons (.var 7) .nil))))
    .nil))))))))))))
def s34 : Stmt := top 26
def N34 : List Str := ["_law_first", "_law_second", "_law_many", "_law_held", "_law_more", "_law_less"]
/-- _law_in_place_right -/
def b34 : Ss :=
    (.cons (.par [3, 4, 5] (.cons (.var 0) (.cons (.var 0) (.cons (.var 0) .nil))))
    (.cons (.aug .Add 3 (.var 1))
    (.cons (.aug .Mult 4 (.var 2))
    (.cons (.aug .Sub 5 (.var 1))
    (.cons (.ret (.and (.cmp .Eq (.var 3) (.bin .Add (.var 0) (.var 1))) (.and (.cmp .Eq (.var 4) (.bin .Mult (.var 0) (.var 2))) (.cmp .Eq (.var 5) (.bin .Sub (.var 0) (.var 1))))))
    .nil)))))
def s35 : Stmt := top 27
def N35 : List Str := ["_law_script", "_law_pen_here", "_law_turns", "_law_one", "_law_other", "_law_many", "_law_first", "_law_second", "_law_lent"]
/-- law -/
def b35 : Ss :=
    (.cons (.asg 1 (.call 29 (.cons (.var 0) .nil) .nil))
    (.cons (.for1 2 (.rng (.con (.int 8)))
    (.cons (.par [3, 4, 5] (.cons (.call 34 (.cons (.var 1) .nil) .nil) (.cons (.call 34 (.cons (.var 1) .nil) .nil) (.cons (.call 33 (.cons (.var 1) .nil) .nil) .nil))))
    (.cons (.par [6, 7] (.cons (.call 3 (.cons (.sub (.var 3) (.con (.int 0))) (.cons (.sub (.var 3) (.con (.int 1))) .nil)) .nil) (.cons (.call 5 .nil (.cons (.sub (.var 4) (.con (.int 1))) (.cons (.sub (.var 4) (.con (.int 0))) .nil))) .nil)))
    (.cons (.ite (.or (.not (.call 36 (.cons (.var 6) (.cons (.sub (.var 3) (.con (.int 0))) (.cons (.sub (.var 3) (.con (.int 1))) .nil))) .nil)) (.not (.call 36 (.cons (.var 7) (.cons (.sub (.var 4) (.con (.int 0))) (.cons (.sub (.var 4) (.con (.int 1))) .nil))) .nil)))
    (.cons (.ret (.con (.bl false)))
    .nil)
    .nil)
    (.cons (.ite (.or (.not (.call 37 (.cons (.var 6) (.cons (.var 3) (.cons (.var 7) (.cons (.var 4) .nil)))) .nil)) (.not (.call 37 (.cons (.var 7) (.cons (.var 4) (.cons (.var 6) (.cons (.var 3) .nil)))) .nil)))
    (.cons (.ret (.con (.bl false)))
    .nil)
    .nil)
    (.cons (.ite (.or (.not (.call 38 (.cons (.var 6) (.cons (.var 3) (.cons (.var 5) .nil))) .nil)) (.not (.call 39 (.cons (.var 6) (.cons (.var 7) (.cons (.var 5) .nil))) .nil)))
    (.cons (.ret (.con (.bl false)))
    .nil)
    .nil)
    (.cons (.asg 8 (.lst (.cons (.var 6) (.cons (.var 5) (.cons (.var 7) .nil)))))
    (.cons (.ite (.or (.cmp .NotEq (.stat 0 37 [] (.cons (.var 8) .nil) .nil) (.bin .Add (.bin .Add (.var 6) (.var 7)) (.var 5))) (.or (.cmp .NotEq (.var 8) (.lst (.cons (.var 6) (.cons (.var 5) (.cons (.var 7) .nil))))) (.cmp .NotEq (.stat 0 37 [] (.cons (.tup .nil) .nil) .nil) (.con (.int 0)))))
    (.cons (.ret (.con (.bl false)))
    .nil)
    .nil)
    (.cons (.ite (.or (.not (.call 35 (.cons (.var 6) (.cons (.sub (.var 3) (.con (.int 0))) (.cons (.sub (.var 3) (.con (.int 1))) .nil))) .nil)) (.not (.call 35 (.cons (.call 4 (.cons (.var 5) .nil) .nil) (.cons (.var 5) (.cons (.con (.int 1)) .nil))) .nil)))
    (.cons (.ret (.con (.bl false)))
    .nil)
    .nil)
    .nil)))))))))
    (.cons (.ret (.cmp .Eq (.stat 0 37 ["numbers"] .nil (.cons (.tup (.cons (.con (.int 1)) (.cons (.call 3 (.cons (.con (.int 1)) (.cons (.con (.int 2)) .nil)) .nil) .nil))) .nil)) (.call 3 (.cons (.con (.int 3)) (.cons (.con (.int 2)) .nil)) .nil)))
    .nil)))
def d0 : Df := ⟨.glo "is_integer", "is_integer", "is_integer", defArgs s0, defBody s0, defScope s0, []⟩
def d1 : Df := ⟨.glo "shared_divisor", "shared_divisor", "shared_divisor", defArgs s1, defBody s1, defScope s1, []⟩
def d2 : Df := ⟨.glo "parts_of", "parts_of", "parts_of", defArgs s2, defBody s2, defScope s2, []⟩
def d3 : Df := ⟨.meth "Amount" "__init__", "__init__", "Amount.__init__", defArgs s3, defBody s3, defScope s3, [(.int 1)]⟩
def d4 : Df := ⟨.stat "Amount" "is_number", "is_number", "Amount.is_number", defArgs s4, defBody s4, defScope s4, []⟩
def d5 : Df := ⟨.stat "Amount" "of", "of", "Amount.of", defArgs s5, defBody s5, defScope s5, []⟩
def d6 : Df := ⟨.meth "Amount" "__add__", "__add__", "Amount.__add__", defArgs s6, defBody s6, defScope s6, []⟩
def d7 : Df := ⟨.meth "Amount" "__radd__", "__radd__", "Amount.__radd__", defArgs s7, defBody s7, defScope s7, []⟩
def d8 : Df := ⟨.meth "Amount" "__sub__", "__sub__", "Amount.__sub__", defArgs s8, defBody s8, defScope s8, []⟩
def d9 : Df := ⟨.meth "Amount" "__rsub__", "__rsub__", "Amount.__rsub__", defArgs s9, defBody s9, defScope s9, []⟩
def d10 : Df := ⟨.meth "Amount" "__mul__", "__mul__", "Amount.__mul__", defArgs s10, defBody s10, defScope s10, []⟩
def d11 : Df := ⟨.meth "Amount" "__rmul__", "__rmul__", "Amount.__rmul__", defArgs s11, defBody s11, defScope s11, []⟩
def d12 : Df := ⟨.meth "Amount" "__neg__", "__neg__", "Amount.__neg__", defArgs s12, defBody s12, defScope s12, []⟩
def d13 : Df := ⟨.meth "Amount" "__lt__", "__lt__", "Amount.__lt__", defArgs s13, defBody s13, defScope s13, []⟩
def d14 : Df := ⟨.meth "Amount" "__le__", "__le__", "Amount.__le__", defArgs s14, defBody s14, defScope s14, []⟩
def d15 : Df := ⟨.meth "Amount" "__gt__", "__gt__", "Amount.__gt__", defArgs s15, defBody s15, defScope s15, []⟩
def d16 : Df := ⟨.meth "Amount" "__ge__", "__ge__", "Amount.__ge__", defArgs s16, defBody s16, defScope s16, []⟩
def d17 : Df := ⟨.meth "Amount" "__eq__", "__eq__", "Amount.__eq__", defArgs s17, defBody s17, defScope s17, []⟩
def d18 : Df := ⟨.meth "Amount" "__bool__", "__bool__", "Amount.__bool__", defArgs s18, defBody s18, defScope s18, []⟩
def d19 : Df := ⟨.prop "Amount" "floor", "floor", "Amount.floor", defArgs s19, defBody s19, defScope s19, []⟩
def d20 : Df := ⟨.prop "Amount" "ceiling", "ceiling", "Amount.ceiling", defArgs s20, defBody s20, defScope s20, []⟩
def d21 : Df := ⟨.prop "Amount" "is_whole", "is_whole", "Amount.is_whole", defArgs s21, defBody s21, defScope s21, []⟩
def d22 : Df := ⟨.meth "Amount" "over", "over", "Amount.over", defArgs s22, defBody s22, defScope s22, []⟩
def d23 : Df := ⟨.stat "Amount" "sum_of", "sum_of", "Amount.sum_of", defArgs s23, defBody s23, defScope s23, []⟩
def d24 : Df := ⟨.glo "_law_pen", "_law_pen", "_law_pen", defArgs s24, defBody s24, defScope s24, []⟩
def d25 : Df := ⟨.glo "_law_draw", "_law_draw", "_law_draw", defArgs s25, defBody s25, defScope s25, []⟩
def d26 : Df := ⟨.glo "_law_pick", "_law_pick", "_law_pick", defArgs s26, defBody s26, defScope s26, []⟩
def d27 : Df := ⟨.glo "_law_low", "_law_low", "_law_low", defArgs s27, defBody s27, defScope s27, []⟩
def d28 : Df := ⟨.glo "_law_number", "_law_number", "_law_number", defArgs s28, defBody s28, defScope s28, []⟩
def d29 : Df := ⟨.glo "_law_pair", "_law_pair", "_law_pair", defArgs s29, defBody s29, defScope s29, []⟩
def d30 : Df := ⟨.glo "_law_is", "_law_is", "_law_is", defArgs s30, defBody s30, defScope s30, []⟩
def d31 : Df := ⟨.glo "_law_alone_right", "_law_alone_right", "_law_alone_right", defArgs s31, defBody s31, defScope s31, []⟩
def d32 : Df := ⟨.glo "_law_two_right", "_law_two_right", "_law_two_right", defArgs s32, defBody s32, defScope s32, []⟩
def d33 : Df := ⟨.glo "_law_whole_right", "_law_whole_right", "_law_whole_right", defArgs s33, defBody s33, defScope s33, []⟩
def d34 : Df := ⟨.glo "_law_in_place_right", "_law_in_place_right", "_law_in_place_right", defArgs s34, defBody s34, defScope s34, []⟩
def d35 : Df := ⟨.glo "law", "law", "law", defArgs s35, defBody s35, defScope s35, []⟩
def fn : List Df := [d0, d1, d2, d3, d4, d5, d6, d7, d8, d9, d10, d11, d12, d13, d14, d15, d16, d17, d18, d19, d20, d21, d22, d23, d24, d25, d26, d27, d28, d29, d30, d31, d32, d33, d34, d35]
def c0 : Cb := ⟨d0, N0, ["value"], 1, [(false, 0)], b0, none⟩
def c1 : Cb := ⟨d1, N1, ["one", "other"], 2, [(false, 0), (false, 1)], b1, none⟩
def c2 : Cb := ⟨d2, N2, ["number"], 1, [(false, 0)], b2, none⟩
def c3 : Cb := ⟨d3, N3, ["self", "top", "bottom"], 3, [(false, 0), (false, 1), (false, 2)], b3, some 0⟩
def c4 : Cb := ⟨d3, N3, ["self", "top", "bottom"], 2, [(false, 0), (false, 1), (true, 0)], b3, some 0⟩
def c5 : Cb := ⟨d3, N3, ["self", "top", "bottom"], 1, [(false, 0), (false, 2), (false, 1)], b3, some 0⟩
def c6 : Cb := ⟨d4, N4, ["value"], 1, [(false, 0)], b4, none⟩
def c7 : Cb := ⟨d5, N5, ["value"], 1, [(false, 0)], b5, none⟩
def c8 : Cb := ⟨d5, N5, ["value"], 0, [(false, 0)], b5, none⟩
def c9 : Cb := ⟨d6, N6, ["self", "other"], 2, [(false, 0), (false, 1)], b6, none⟩
def c10 : Cb := ⟨d7, N7, ["self", "other"], 2, [(false, 0), (false, 1)], b7, none⟩
def c11 : Cb := ⟨d8, N8, ["self", "other"], 2, [(false, 0), (false, 1)], b8, none⟩
def c12 : Cb := ⟨d9, N9, ["self", "other"], 2, [(false, 0), (false, 1)], b9, none⟩
def c13 : Cb := ⟨d10, N10, ["self", "other"], 2, [(false, 0), (false, 1)], b10, none⟩
def c14 : Cb := ⟨d11, N11, ["self", "other"], 2, [(false, 0), (false, 1)], b11, none⟩
def c15 : Cb := ⟨d12, N12, ["self"], 1, [(false, 0)], b12, none⟩
def c16 : Cb := ⟨d13, N13, ["self", "other"], 2, [(false, 0), (false, 1)], b13, none⟩
def c17 : Cb := ⟨d14, N14, ["self", "other"], 2, [(false, 0), (false, 1)], b14, none⟩
def c18 : Cb := ⟨d15, N15, ["self", "other"], 2, [(false, 0), (false, 1)], b15, none⟩
def c19 : Cb := ⟨d16, N16, ["self", "other"], 2, [(false, 0), (false, 1)], b16, none⟩
def c20 : Cb := ⟨d17, N17, ["self", "other"], 2, [(false, 0), (false, 1)], b17, none⟩
def c21 : Cb := ⟨d18, N18, ["self"], 1, [(false, 0)], b18, none⟩
def c22 : Cb := ⟨d19, N19, ["self"], 1, [(false, 0)], b19, none⟩
def c23 : Cb := ⟨d20, N20, ["self"], 1, [(false, 0)], b20, none⟩
def c24 : Cb := ⟨d21, N21, ["self"], 1, [(false, 0)], b21, none⟩
def c25 : Cb := ⟨d22, N22, ["self", "number"], 2, [(false, 0), (false, 1)], b22, none⟩
def c26 : Cb := ⟨d22, N22, ["self", "number"], 1, [(false, 0), (false, 1)], b22, none⟩
def c27 : Cb := ⟨d23, N23, ["numbers"], 1, [(false, 0)], b23, none⟩
def c28 : Cb := ⟨d23, N23, ["numbers"], 0, [(false, 0)], b23, none⟩
def c29 : Cb := ⟨d24, N24, ["_law_script"], 1, [(false, 0)], b24, none⟩
def c30 : Cb := ⟨d25, N25, ["_law_pen_here", "_law_many"], 2, [(false, 0), (false, 1)], b25, none⟩
def c31 : Cb := ⟨d26, N26, ["_law_pen_here", "_law_some"], 2, [(false, 0), (false, 1)], b26, none⟩
def c32 : Cb := ⟨d27, N27, ["_law_upper", "_law_lower"], 2, [(false, 0), (false, 1)], b27, none⟩
def c33 : Cb := ⟨d28, N28, ["_law_pen_here"], 1, [(false, 0)], b28, none⟩
def c34 : Cb := ⟨d29, N29, ["_law_pen_here"], 1, [(false, 0)], b29, none⟩
def c35 : Cb := ⟨d30, N30, ["_law_made", "_law_upper", "_law_lower"], 3, [(false, 0), (false, 1), (false, 2)], b30, none⟩
def c36 : Cb := ⟨d31, N31, ["_law_made", "_law_upper", "_law_lower"], 3, [(false, 0), (false, 1), (false, 2)], b31, none⟩
def c37 : Cb := ⟨d32, N32, ["_law_first", "_law_one", "_law_second", "_law_other"], 4, [(false, 0), (false, 1), (false, 2), (false, 3)], b32, none⟩
def c38 : Cb := ⟨d33, N33, ["_law_first", "_law_one", "_law_many"], 3, [(false, 0), (false, 1), (false, 2)], b33, none⟩
def c39 : Cb := ⟨d34, N34, ["_law_first", "_law_second", "_law_many"], 3, [(false, 0), (false, 1), (false, 2)], b34, none⟩
def c40 : Cb := ⟨d35, N35, ["_law_script"], 1, [(false, 0)], b35, none⟩
def cbs : List Cb := [c0, c1, c2, c3, c4, c5, c6, c7, c8, c9, c10, c11, c12, c13, c14, c15, c16, c17, c18, c19, c20, c21, c22, c23, c24, c25, c26, c27, c28, c29, c30, c31, c32, c33, c34, c35, c36, c37, c38, c39, c40]
def T : Tb where
  cls := ["Amount"]
  nms := ["top", "bottom", "is_number", "of", "floor", "ceiling", "is_whole", "over", "sum_of"]
  fld := [(0, 29), (0, 30)]
  dn := [(0, 0, 9), (0, 1, 10), (0, 2, 11), (0, 3, 12), (0, 4, 13), (0, 5, 14), (0, 19, 15), (0, 14, 16), (0, 15, 17), (0, 16, 18), (0, 17, 19), (0, 18, 20), (0, 20, 21)]
  pr := [(0, 33, 22), (0, 34, 23), (0, 35, 24)]
  dm := [(0, 36, [], 25), (0, 36, ["number"], 26)]
  sm := [(0, 31, [], 6), (0, 32, [], 7), (0, 32, ["value"], 8), (0, 37, [], 27), (0, 37, ["numbers"], 28)]
  cm := []
  at_ := [.glo "is_integer", .glo "shared_divisor", .glo "parts_of", .glo "Amount", .glo "Amount", .glo "Amount", .stat "Amount" "is_number", .stat "Amount" "of", .stat "Amount" "of", .meth "Amount" "__add__", .meth "Amount" "__radd__", .meth "Amount" "__sub__", .meth "Amount" "__rsub__", .meth "Amount" "__mul__", .meth "Amount" "__rmul__", .meth "Amount" "__neg__", .meth "Amount" "__lt__", .meth "Amount" "__le__", .meth "Amount" "__gt__", .meth "Amount" "__ge__", .meth "Amount" "__eq__", .meth "Amount" "__bool__", .prop "Amount" "floor", .prop "Amount" "ceiling", .prop "Amount" "is_whole", .meth "Amount" "over", .meth "Amount" "over", .stat "Amount" "sum_of", .stat "Amount" "sum_of", .glo "_law_pen", .glo "_law_draw", .glo "_law_pick", .glo "_law_low", .glo "_law_number", .glo "_law_pair", .glo "_law_is", .glo "_law_alone_right", .glo "_law_two_right", .glo "_law_whole_right", .glo "_law_in_place_right", .glo "law"]
  ks := [([] : List Str), ([] : List Str), ([] : List Str), ([] : List Str), ([] : List Str), (["bottom", "top"] : List Str), ([] : List Str), ([] : List Str), (["value"] : List Str), ([] : List Str), ([] : List Str), ([] : List Str), ([] : List Str), ([] : List Str), ([] : List Str), ([] : List Str), ([] : List Str), ([] : List Str), ([] : List Str), ([] : List Str), ([] : List Str), ([] : List Str), ([] : List Str), ([] : List Str), ([] : List Str), ([] : List Str), (["number"] : List Str), ([] : List Str), (["numbers"] : List Str), ([] : List Str), ([] : List Str), ([] : List Str), ([] : List Str), ([] : List Str), ([] : List Str), ([] : List Str), ([] : List Str), ([] : List Str), ([] : List Str), ([] : List Str), ([] : List Str)]
  gn := [(some ("is_integer" : Str)), (some ("shared_divisor" : Str)), (some ("parts_of" : Str)), (some ("Amount" : Str)), (some ("Amount" : Str)), (some ("Amount" : Str)), none, none, none, none, none, none, none, none, none, none, none, none, none, none, none, none, none, none, none, none, none, none, none, (some ("_law_pen" : Str)), (some ("_law_draw" : Str)), (some ("_law_pick" : Str)), (some ("_law_low" : Str)), (some ("_law_number" : Str)), (some ("_law_pair" : Str)), (some ("_law_is" : Str)), (some ("_law_alone_right" : Str)), (some ("_law_two_right" : Str)), (some ("_law_whole_right" : Str)), (some ("_law_in_place_right" : Str)), (some ("law" : Str))]
  kon := []
  ist := [(.b "int", .b "int", true), (.b "bool", .b "int", true), (.b "str", .b "int", false), (.b "NoneType", .b "int", false), (.b "list", .b "int", false), (.b "tuple", .b "int", false), (.b "dict", .b "int", false), (.c 0, .b "int", false), (.b "int", .b "bool", false), (.b "bool", .b "bool", true), (.b "str", .b "bool", false), (.b "NoneType", .b "bool", false), (.b "list", .b "bool", false), (.b "tuple", .b "bool", false), (.b "dict", .b "bool", false), (.c 0, .b "bool", false), (.b "int", .c 0, false), (.b "bool", .c 0, false), (.b "str", .c 0, false), (.b "NoneType", .c 0, false), (.b "list", .c 0, false), (.b "tuple", .c 0, false), (.b "dict", .c 0, false), (.c 0, .c 0, true)]
  isC := [3, 4, 5]
  mks := [0]
theorem bd0 : BindH c0 [] := fun T kV doc pm an cdv ct us ws its h1 h2 h3 => match us, ws, its, h1, h2, h3 with
  | [u0], [], [], _, _, _ => rfl
theorem bd1 : BindH c1 [] := fun T kV doc pm an cdv ct us ws its h1 h2 h3 => match us, ws, its, h1, h2, h3 with
  | [u0, u1], [], [], _, _, _ => rfl
theorem bd2 : BindH c2 [] := fun T kV doc pm an cdv ct us ws its h1 h2 h3 => match us, ws, its, h1, h2, h3 with
  | [u0], [], [], _, _, _ => rfl
theorem bd3 : BindH c3 [] := fun T kV doc pm an cdv ct us ws its h1 h2 h3 => match us, ws, its, h1, h2, h3 with
  | [u0, u1, u2], [], [t0], _, _, _ => ⟨_, rfl, rfl⟩
theorem bd4 : BindH c4 [] := fun T kV doc pm an cdv ct us ws its h1 h2 h3 => match us, ws, its, h1, h2, h3 with
  | [u0, u1], [], [t0], _, _, _ => ⟨_, rfl, rfl⟩
theorem bd5 : BindH c5 ["bottom", "top"] := fun T kV doc pm an cdv ct us ws its h1 h2 h3 => match us, ws, its, h1, h2, h3 with
  | [u0], [w0, w1], [t0], _, _, _ => ⟨_, rfl, rfl⟩
theorem bd6 : BindH c6 [] := fun T kV doc pm an cdv ct us ws its h1 h2 h3 => match us, ws, its, h1, h2, h3 with
  | [u0], [], [], _, _, _ => rfl
theorem bd7 : BindH c7 [] := fun T kV doc pm an cdv ct us ws its h1 h2 h3 => match us, ws, its, h1, h2, h3 with
  | [u0], [], [], _, _, _ => rfl
theorem bd8 : BindH c8 ["value"] := fun T kV doc pm an cdv ct us ws its h1 h2 h3 => match us, ws, its, h1, h2, h3 with
  | [], [w0], [], _, _, _ => rfl
theorem bd9 : BindH c9 [] := fun T kV doc pm an cdv ct us ws its h1 h2 h3 => match us, ws, its, h1, h2, h3 with
  | [u0, u1], [], [], _, _, _ => rfl
theorem bd10 : BindH c10 [] := fun T kV doc pm an cdv ct us ws its h1 h2 h3 => match us, ws, its, h1, h2, h3 with
  | [u0, u1], [], [], _, _, _ => rfl
theorem bd11 : BindH c11 [] := fun T kV doc pm an cdv ct us ws its h1 h2 h3 => match us, ws, its, h1, h2, h3 with
  | [u0, u1], [], [], _, _, _ => rfl
theorem bd12 : BindH c12 [] := fun T kV doc pm an cdv ct us ws its h1 h2 h3 => match us, ws, its, h1, h2, h3 with
  | [u0, u1], [], [], _, _, _ => rfl
theorem bd13 : BindH c13 [] := fun T kV doc pm an cdv ct us ws its h1 h2 h3 => match us, ws, its, h1, h2, h3 with
  | [u0, u1], [], [], _, _, _ => rfl
theorem bd14 : BindH c14 [] := fun T kV doc pm an cdv ct us ws its h1 h2 h3 => match us, ws, its, h1, h2, h3 with
  | [u0, u1], [], [], _, _, _ => rfl
theorem bd15 : BindH c15 [] := fun T kV doc pm an cdv ct us ws its h1 h2 h3 => match us, ws, its, h1, h2, h3 with
  | [u0], [], [], _, _, _ => rfl
theorem bd16 : BindH c16 [] := fun T kV doc pm an cdv ct us ws its h1 h2 h3 => match us, ws, its, h1, h2, h3 with
  | [u0, u1], [], [], _, _, _ => rfl
theorem bd17 : BindH c17 [] := fun T kV doc pm an cdv ct us ws its h1 h2 h3 => match us, ws, its, h1, h2, h3 with
  | [u0, u1], [], [], _, _, _ => rfl
theorem bd18 : BindH c18 [] := fun T kV doc pm an cdv ct us ws its h1 h2 h3 => match us, ws, its, h1, h2, h3 with
  | [u0, u1], [], [], _, _, _ => rfl
theorem bd19 : BindH c19 [] := fun T kV doc pm an cdv ct us ws its h1 h2 h3 => match us, ws, its, h1, h2, h3 with
  | [u0, u1], [], [], _, _, _ => rfl
theorem bd20 : BindH c20 [] := fun T kV doc pm an cdv ct us ws its h1 h2 h3 => match us, ws, its, h1, h2, h3 with
  | [u0, u1], [], [], _, _, _ => rfl
theorem bd21 : BindH c21 [] := fun T kV doc pm an cdv ct us ws its h1 h2 h3 => match us, ws, its, h1, h2, h3 with
  | [u0], [], [], _, _, _ => rfl
theorem bd22 : BindH c22 [] := fun T kV doc pm an cdv ct us ws its h1 h2 h3 => match us, ws, its, h1, h2, h3 with
  | [u0], [], [], _, _, _ => rfl
theorem bd23 : BindH c23 [] := fun T kV doc pm an cdv ct us ws its h1 h2 h3 => match us, ws, its, h1, h2, h3 with
  | [u0], [], [], _, _, _ => rfl
theorem bd24 : BindH c24 [] := fun T kV doc pm an cdv ct us ws its h1 h2 h3 => match us, ws, its, h1, h2, h3 with
  | [u0], [], [], _, _, _ => rfl
theorem bd25 : BindH c25 [] := fun T kV doc pm an cdv ct us ws its h1 h2 h3 => match us, ws, its, h1, h2, h3 with
  | [u0, u1], [], [], _, _, _ => rfl
theorem bd26 : BindH c26 ["number"] := fun T kV doc pm an cdv ct us ws its h1 h2 h3 => match us, ws, its, h1, h2, h3 with
  | [u0], [w0], [], _, _, _ => rfl
theorem bd27 : BindH c27 [] := fun T kV doc pm an cdv ct us ws its h1 h2 h3 => match us, ws, its, h1, h2, h3 with
  | [u0], [], [], _, _, _ => rfl
theorem bd28 : BindH c28 ["numbers"] := fun T kV doc pm an cdv ct us ws its h1 h2 h3 => match us, ws, its, h1, h2, h3 with
  | [], [w0], [], _, _, _ => rfl
theorem bd29 : BindH c29 [] := fun T kV doc pm an cdv ct us ws its h1 h2 h3 => match us, ws, its, h1, h2, h3 with
  | [u0], [], [], _, _, _ => rfl
theorem bd30 : BindH c30 [] := fun T kV doc pm an cdv ct us ws its h1 h2 h3 => match us, ws, its, h1, h2, h3 with
  | [u0, u1], [], [], _, _, _ => rfl
theorem bd31 : BindH c31 [] := fun T kV doc pm an cdv ct us ws its h1 h2 h3 => match us, ws, its, h1, h2, h3 with
  | [u0, u1], [], [], _, _, _ => rfl
theorem bd32 : BindH c32 [] := fun T kV doc pm an cdv ct us ws its h1 h2 h3 => match us, ws, its, h1, h2, h3 with
  | [u0, u1], [], [], _, _, _ => rfl
theorem bd33 : BindH c33 [] := fun T kV doc pm an cdv ct us ws its h1 h2 h3 => match us, ws, its, h1, h2, h3 with
  | [u0], [], [], _, _, _ => rfl
theorem bd34 : BindH c34 [] := fun T kV doc pm an cdv ct us ws its h1 h2 h3 => match us, ws, its, h1, h2, h3 with
  | [u0], [], [], _, _, _ => rfl
theorem bd35 : BindH c35 [] := fun T kV doc pm an cdv ct us ws its h1 h2 h3 => match us, ws, its, h1, h2, h3 with
  | [u0, u1, u2], [], [], _, _, _ => rfl
theorem bd36 : BindH c36 [] := fun T kV doc pm an cdv ct us ws its h1 h2 h3 => match us, ws, its, h1, h2, h3 with
  | [u0, u1, u2], [], [], _, _, _ => rfl
theorem bd37 : BindH c37 [] := fun T kV doc pm an cdv ct us ws its h1 h2 h3 => match us, ws, its, h1, h2, h3 with
  | [u0, u1, u2, u3], [], [], _, _, _ => rfl
theorem bd38 : BindH c38 [] := fun T kV doc pm an cdv ct us ws its h1 h2 h3 => match us, ws, its, h1, h2, h3 with
  | [u0, u1, u2], [], [], _, _, _ => rfl
theorem bd39 : BindH c39 [] := fun T kV doc pm an cdv ct us ws its h1 h2 h3 => match us, ws, its, h1, h2, h3 with
  | [u0, u1, u2], [], [], _, _, _ => rfl
theorem bd40 : BindH c40 [] := fun T kV doc pm an cdv ct us ws its h1 h2 h3 => match us, ws, its, h1, h2, h3 with
  | [u0], [], [], _, _, _ => rfl
end L02
end PyD
namespace PyD.L02
theorem hN : okN T.nms = true := by decide +kernel
theorem chk (K : PySem.W.Frag) : cbsB T (gamOf T hN K) cbs = true := by kernel_rfl
end PyD.L02
set_option Elab.async false
set_option linter.all false
set_option maxRecDepth 100000
set_option maxHeartbeats 0
namespace PyD.L02
open PySem PySem.Spec L2 PyD
abbrev R : PySem.W.OpenRow := PySem.W.OpenLaw.row PySem.Challenge.rw_gangruns_k02_amounts_put_together
abbrev hk : PySem.W.Hook := hookP 6 T fn
def ob (s : PySem.W.SharedT) : He.AlD := obsPG 6 T fn (HandSHeadRun.getT s)
theorem ob_eq (s : PySem.W.SharedT) : ob s = hk.obs s.abs := obsPG_eq (HandSHeadRun.getT_eq s)
def loose : List Str := ["is_integer", "RunsError", "BadInput", "BadAmount", "BadText", "Unlike", "MOST_FIGURES", "FIGURES", "shared_divisor", "parts_of", "integer_in", "Amount", "_law_pen", "_law_draw", "_law_pick", "_law_low", "_law_number", "_law_pair", "_law_is", "_law_alone_right", "_law_two_right", "_law_whole_right", "_law_in_place_right"]
theorem run (w : World) : HandSHeadRun.RunEq R (PySem.W.view R.prog [27]) hk ob 20000 loose w := by
  intro os
  kernel_rfl
end PyD.L02
set_option Elab.async false
set_option linter.all false
set_option autoImplicit false
set_option maxRecDepth 100000
set_option maxHeartbeats 4000000
/-! # Fractions -/
namespace PyD
open PySem PySem.Spec L2
namespace L02
def amt (q : Rat) : D := .obj 0 [(29, .int q.num), (30, .int q.den)]
def Nm (d : D) (q : Rat) : Prop := d = amt q ∨ ∃ n : Int, d = .int n ∧ q = (n : Rat)
def Sz (n : Nat) (q : Rat) : Prop := q.num.natAbs < 2 ^ n ∧ q.den < 2 ^ n
theorem abs_is (t : Int) : (if t < 0 then -t else t) = ((t.natAbs : Nat) : Int) := by
  split <;> omega
theorem fdiv_neg_dvd {t g : Int} (hg : 0 < g) (h : g ∣ t) : t.fdiv (-g) = -t / g := by
  obtain ⟨k, rfl⟩ := h
  rw [show g * k = (-g) * (-k) by rw [Int.neg_mul_neg], Int.mul_fdiv_cancel_left _ (by omega)]
  rw [show -((-g) * (-k)) = g * (-k) by rw [Int.neg_mul_neg, Int.mul_neg], Int.mul_ediv_cancel_left _ (by omega)]
theorem num_of {t b g : Int} (hb : b ≠ 0) (hg : g = (b.gcd t : Int)) : t.fdiv (if b < 0 then -g else g) = (Rat.divInt t b).num := by
  have hp : 0 < g := by
    have := Int.gcd_pos_of_ne_zero_left t hb
    omega
  have hd : g ∣ t := by rw [hg]; exact Int.gcd_dvd_right b t
  rw [Rat.num_divInt, ← hg]
  split
  · rename_i h
    rw [fdiv_neg_dvd hp hd, Int.sign_eq_neg_one_of_neg h, Int.neg_one_mul]
  · rename_i h
    rw [Int.fdiv_eq_ediv_of_nonneg _ (by omega), Int.sign_eq_one_of_pos (by omega), Int.one_mul]
theorem den_of {t b g : Int} (hb : b ≠ 0) (hg : g = (b.gcd t : Int)) : b.fdiv (if b < 0 then -g else g) = ((Rat.divInt t b).den : Int) := by
  have hp : 0 < g := by
    have := Int.gcd_pos_of_ne_zero_left t hb
    omega
  have hd : g ∣ b := by rw [hg]; exact Int.gcd_dvd_left b t
  rw [Rat.den_divInt, if_neg hb, Int.natCast_ediv, ← hg]
  split
  · rename_i h
    rw [fdiv_neg_dvd hp hd, Int.ofNat_natAbs_of_nonpos (by omega)]
  · rename_i h
    rw [Int.fdiv_eq_ediv_of_nonneg _ (by omega), Int.natAbs_of_nonneg (by omega)]
theorem divInt_one (t : Int) : Rat.divInt t 1 = (t : Rat) := by
  have h := Rat.num_divInt_den (t : Rat)
  rw [Rat.num_intCast, Rat.den_intCast] at h
  exact h
theorem num_le {t b : Int} : (Rat.divInt t b).num.natAbs ≤ t.natAbs := by
  by_cases hb : b = 0
  · subst hb; simp
  · rw [Rat.num_divInt]
    have h1 := Int.natAbs_ediv_le_natAbs (b.sign * t) (b.gcd t)
    have h2 : (b.sign * t).natAbs = t.natAbs := by
      rw [Int.natAbs_mul, Int.natAbs_sign_of_ne_zero hb, Nat.one_mul]
    omega
theorem den_le {t b : Int} (hb : b ≠ 0) : (Rat.divInt t b).den ≤ b.natAbs := by
  rw [Rat.den_divInt, if_neg hb]
  exact Nat.div_le_self _ _
def Nms : List D → List Rat → Prop
  | [], qs => qs = []
  | d :: ds, qs => ∃ q r, qs = q :: r ∧ Nm d q ∧ Nms ds r
def addAll : List Rat → Rat → Rat
  | [], s => s
  | q :: r, s => addAll r (s + q)
def Γ : Nat → SpD
  | 0 => fun ds M K _ => (∃ n, ds = [.int n] ∧ K (.bl true) M) ∨ ∃ q, ds = [amt q] ∧ K (.bl false) M
  | 1 => fun ds M K _ => ∃ x y : Nat, ds = [.int x, .int y] ∧ x < 2 ^ 7900 ∧ y < 2 ^ 7900 ∧ K (.int (Nat.gcd x y : Nat)) M
  | 2 => fun ds M K _ => ∃ d q, ds = [d] ∧ Nm d q ∧ K (.tup [.int q.num, .int q.den]) M
  | 3 => fun ds M K _ => ∃ t b, ds = [.int t, .int b] ∧ b ≠ 0 ∧ Bd 7800 t ∧ Bd 7800 b ∧ K (amt (Rat.divInt t b)) M
  | 4 => fun ds M K _ => ∃ t : Int, ds = [.int t] ∧ Bd 7800 t ∧ K (amt t) M
  | 5 => fun ds M K _ => ∃ t b, ds = [.int b, .int t] ∧ b ≠ 0 ∧ Bd 7800 t ∧ Bd 7800 b ∧ K (amt (Rat.divInt t b)) M
  | 6 => fun ds M K _ => ∃ d q, ds = [d] ∧ Nm d q ∧ K (.bl true) M
  | 7 => fun ds M K _ => ∃ d q, ds = [d] ∧ Nm d q ∧ Sz 7800 q ∧ K (amt q) M
  | 8 => fun ds M K _ => ∃ d q, ds = [d] ∧ Nm d q ∧ Sz 7800 q ∧ K (amt q) M
  | 9 => fun ds M K _ => ∃ p d q, ds = [amt p, d] ∧ Nm d q ∧ Sz 3000 p ∧ Sz 3000 q ∧ K (amt (p + q)) M
  | 10 => fun ds M K _ => ∃ p d q, ds = [amt p, d] ∧ Nm d q ∧ Sz 3000 p ∧ Sz 3000 q ∧ K (amt (p + q)) M
  | 11 => fun ds M K _ => ∃ p d q, ds = [amt p, d] ∧ Nm d q ∧ Sz 3000 p ∧ Sz 3000 q ∧ K (amt (p - q)) M
  | 12 => fun ds M K _ => ∃ p d q, ds = [amt p, d] ∧ Nm d q ∧ Sz 3000 p ∧ Sz 3000 q ∧ K (amt (q - p)) M
  | 13 => fun ds M K _ => ∃ p d q, ds = [amt p, d] ∧ Nm d q ∧ Sz 3000 p ∧ Sz 3000 q ∧ K (amt (p * q)) M
  | 14 => fun ds M K _ => ∃ p d q, ds = [amt p, d] ∧ Nm d q ∧ Sz 3000 p ∧ Sz 3000 q ∧ K (amt (p * q)) M
  | 15 => fun ds M K _ => ∃ p, ds = [amt p] ∧ Sz 3000 p ∧ K (amt (-p)) M
  | 16 => fun ds M K _ => ∃ p d q, ds = [amt p, d] ∧ Nm d q ∧ Sz 3000 p ∧ Sz 3000 q ∧ K (.bl (decide (p < q))) M
  | 17 => fun ds M K _ => ∃ p d q, ds = [amt p, d] ∧ Nm d q ∧ Sz 3000 p ∧ Sz 3000 q ∧ K (.bl (decide (p ≤ q))) M
  | 18 => fun ds M K _ => ∃ p d q, ds = [amt p, d] ∧ Nm d q ∧ Sz 3000 p ∧ Sz 3000 q ∧ K (.bl (decide (q < p))) M
  | 19 => fun ds M K _ => ∃ p d q, ds = [amt p, d] ∧ Nm d q ∧ Sz 3000 p ∧ Sz 3000 q ∧ K (.bl (decide (q ≤ p))) M
  | 20 => fun ds M K _ => ∃ p d q, ds = [amt p, d] ∧ Nm d q ∧ K (.bl (decide (p = q))) M
  | 21 => fun ds M K _ => ∃ p, ds = [amt p] ∧ K (.bl (decide (p ≠ 0))) M
  | 22 => fun ds M K _ => ∃ p, ds = [amt p] ∧ Sz 3000 p ∧ K (.int (p.num.fdiv p.den)) M
  | 23 => fun ds M K _ => ∃ p, ds = [amt p] ∧ Sz 3000 p ∧ K (.int (-((-p.num).fdiv p.den))) M
  | 24 => fun ds M K _ => ∃ p, ds = [amt p] ∧ K (.bl (decide (p.den = 1))) M
  | 25 => fun ds M K _ => ∃ p d q, ds = [amt p, d] ∧ Nm d q ∧ q ≠ 0 ∧ Sz 3000 p ∧ Sz 3000 q ∧ K (amt (p / q)) M
  | 26 => fun ds M K _ => ∃ p d q, ds = [amt p, d] ∧ Nm d q ∧ q ≠ 0 ∧ Sz 3000 p ∧ Sz 3000 q ∧ K (amt (p / q)) M
  | 27 => fun ds M K _ => ∃ xs qs, (ds = [.lst xs] ∨ ds = [.tup xs]) ∧ Nms xs qs ∧ xs.length ≤ 4 ∧ (∀ q ∈ qs, Sz 400 q) ∧ K (amt (addAll qs 0)) M
  | 28 => fun ds M K _ => ∃ xs qs, (ds = [.lst xs] ∨ ds = [.tup xs]) ∧ Nms xs qs ∧ xs.length ≤ 4 ∧ (∀ q ∈ qs, Sz 400 q) ∧ K (amt (addAll qs 0)) M
  | 29 => fun ds M K _ => ∃ ns : List Int, ds = [.lst (ns.map D.int)] ∧ ∀ a M', M a = none → Pen M a 0 M' → K (.loc a) M'
  | 30 => fun ds M K _ => ∃ M0 a n m, ds = [.loc a, .int m] ∧ Pen M0 a n M ∧ n < 2 ^ 19 ∧ 0 < m ∧ m < 2 ^ 40 ∧ ∀ r M', 0 ≤ r → r < m → Pen M0 a (n + 1) M' → K (.int r) M'
  | 31 => fun ds M K _ => ∃ M0 a n xs, ds = [.loc a, .lst xs] ∧ Pen M0 a n M ∧ n < 2 ^ 19 ∧ 0 < xs.length ∧ xs.length < 1000 ∧ ∀ x ∈ xs, ∀ M', Pen M0 a (n + 1) M' → K x M'
  | 32 => fun ds M K _ => ∃ u l, ds = [.int u, .int l] ∧ l ≠ 0 ∧ Bd 7800 u ∧ Bd 7800 l ∧ K (.tup [.int (Rat.divInt u l).num, .int (Rat.divInt u l).den]) M
  | 33 => fun ds M K _ => ∃ M0 a n, ds = [.loc a] ∧ Pen M0 a n M ∧ n < 2 ^ 18 ∧ ∀ v : Int, v.natAbs ≤ 10 ^ 30 → ∀ M', Pen M0 a (n + 4) M' → K (.int v) M'
  | 34 => fun ds M K _ => ∃ M0 a n, ds = [.loc a] ∧ Pen M0 a n M ∧ n < 2 ^ 17 ∧ ∀ u l : Int, u.natAbs ≤ 10 ^ 30 → l ≠ 0 → l.natAbs ≤ 10 ^ 30 → ∀ M', Pen M0 a (n + 7) M' → K (.tup [.int u, .int l]) M'
  | 35 => fun ds M K _ => ∃ u l, ds = [amt (Rat.divInt u l), .int u, .int l] ∧ l ≠ 0 ∧ Bd 7800 u ∧ Bd 7800 l ∧ K (.bl true) M
  | 36 => fun ds M K _ => ∃ u l, ds = [amt (Rat.divInt u l), .int u, .int l] ∧ l ≠ 0 ∧ Bd 100 u ∧ Bd 100 l ∧ K (.bl true) M
  | 37 => fun ds M K _ => ∃ u l v m, ds = [amt (Rat.divInt u l), .tup [.int u, .int l], amt (Rat.divInt v m), .tup [.int v, .int m]] ∧ l ≠ 0 ∧ m ≠ 0 ∧ Bd 100 u ∧ Bd 100 l ∧ Bd 100 v ∧ Bd 100 m ∧ K (.bl true) M
  | 38 => fun ds M K _ => ∃ u l n, ds = [amt (Rat.divInt u l), .tup [.int u, .int l], .int n] ∧ l ≠ 0 ∧ Bd 100 u ∧ Bd 100 l ∧ Bd 100 n ∧ K (.bl true) M
  | 39 => fun ds M K _ => ∃ p q n, ds = [amt p, amt q, .int n] ∧ Sz 100 p ∧ Sz 100 q ∧ Bd 100 n ∧ K (.bl true) M
  | 40 => fun ds M K _ => M = (fun _ => none) ∧ ∃ ns : List Int, ds = [.lst (ns.map D.int)] ∧ ∀ M', K (.bl true) M'
  | _ => fun _ _ _ _ => False
def lv : Nat → Nat
  | 0 => 0 | 1 => 0 | 2 => 0 | 3 => 1 | 4 => 1 | 5 => 1 | 6 => 1 | 7 => 2 | 8 => 2 | 9 => 2 | 10 => 3 | 11 => 2 | 12 => 3 | 13 => 2 | 14 => 3 | 15 => 2 | 16 => 1 | 17 => 1 | 18 => 1 | 19 => 1 | 20 => 2 | 21 => 0 | 22 => 0 | 23 => 0 | 24 => 0
  | 25 => 3 | 26 => 3 | 27 => 3 | 28 => 3 | 29 => 0 | 30 => 0 | 31 => 1 | 32 => 0 | 33 => 2 | 34 => 3 | 35 => 1 | 36 => 4 | 37 => 4 | 38 => 4 | 39 => 4 | 40 => 5
  | _ => 0
section
variable (K : PySem.W.Frag)
abbrev GK : Gam := gamOf T hN K
theorem nm_num {d : D} {q : Rat} (h : Nm d q) : (∃ n : Int, d = .int n ∧ q = (n : Rat) ∧ q.num = n ∧ q.den = 1) ∨ d = amt q := by
  rcases h with h | ⟨n, rfl, rfl⟩
  · exact .inr h
  · exact .inl ⟨n, rfl, rfl, Rat.num_intCast n, Rat.den_intCast n⟩
theorem sp0 : SpecOk (GK K) Γ lv 0 c0 := by
  intro ds M K1 E1 h
  rcases h with ⟨n, rfl, h⟩ | ⟨q, rfl, h⟩
  · exact ⟨rfl, h⟩
  · exact ⟨rfl, h⟩
theorem sp2 : SpecOk (GK K) Γ lv 2 c2 := by
  rintro ds M K1 E1 ⟨d, q, rfl, hd, h⟩
  rcases nm_num hd with ⟨n, rfl, rfl, e1, e2⟩ | rfl
  · rw [e1, e2] at h
    exact ⟨rfl, by simp, h⟩
  · exact ⟨rfl, by simp, h⟩
theorem sp6 : SpecOk (GK K) Γ lv 6 c6 := by
  rintro ds M K1 E1 ⟨d, q, rfl, hd, h⟩
  rcases nm_num hd with ⟨n, rfl, rfl, e1, e2⟩ | rfl
  · exact ⟨rfl, .inl ⟨n, rfl, h⟩⟩
  · exact ⟨rfl, h⟩
theorem sp21 : SpecOk (GK K) Γ lv 21 c21 := by
  rintro ds M K1 E1 ⟨p, rfl, h⟩
  refine ⟨rfl, ?_⟩
  have e : decide (p ≠ 0) = (p.num != 0) := by
    rw [Bool.eq_iff_iff]
    simp [Rat.num_eq_zero]
  rw [e] at h
  exact h
theorem sp24 : SpecOk (GK K) Γ lv 24 c24 := by
  rintro ds M K1 E1 ⟨p, rfl, h⟩
  refine ⟨rfl, ?_⟩
  have e : decide (p.den = 1) = ((p.den : Int) == 1) := by
    rw [Bool.eq_iff_iff]
    simp only [decide_eq_true_eq, beq_iff_eq]
    omega
  rw [e] at h
  exact h
end
end L02
end PyD
set_option Elab.async false
set_option linter.all false
set_option autoImplicit false
set_option maxRecDepth 100000
set_option maxHeartbeats 4000000
namespace PyD
open PySem PySem.Spec L2
namespace L02
section
variable (K : PySem.W.Frag)
theorem bd_nat {n : Nat} {x : Nat} (h : x < 2 ^ n) : Bd n (x : Int) := h
theorem fmod_nat (x y : Nat) : (x : Int).fmod (y : Int) = ((x % y : Nat) : Int) := by
  rw [Int.fmod_eq_emod_of_nonneg _ (Int.natCast_nonneg y)]
  rfl
theorem gcd_loop {G : Gam} {Γ' : Nat → SpD} {M : Mst} {En : EndD} : ∀ (y x : Nat), x < 2 ^ 7900 → y < 2 ^ 7900 → En.nx [some (.int (Nat.gcd x y : Nat)), some (.int 0)] M →
    ∃ n, whlS (sem G Γ' (.cmp .NotEq (.var 1) (.con (.int 0)))).2 (semSs G Γ' (.cons (.par [0, 1] (.cons (.var 1) (.cons (.bin .Mod (.var 0) (.var 1)) .nil))) .nil)) n [some (.int x), some (.int y)] M En := by
  intro y
  induction y using Nat.strongRecOn with
  | _ y ih =>
    intro x hx hy h
    by_cases e : y = 0
    · subst e
      rw [Nat.gcd_zero_right] at h
      exact ⟨1, h⟩
    · have lt : x % y < y := Nat.mod_lt _ (by omega)
      obtain ⟨n, hn⟩ := ih (x % y) lt y hy (by omega) (by rw [Nat.gcd_comm x y, Nat.gcd_rec y x, Nat.gcd_comm] at h; exact h)
      refine ⟨n + 1, ?_⟩
      refine brb_not ?_
      refine brb_eqI (fun z => by omega) fun z => ⟨by omega, ?_⟩
      rw [← fmod_nat] at hn
      exact hn
theorem sp1 : SpecOk (GK K) Γ lv 1 c1 := by
  rintro ds M K1 E1 ⟨x, y, rfl, hx, hy, h⟩
  exact ⟨rfl, gcd_loop y x hx hy h⟩
/-- a step: a truth, a wish -/
local macro_rules | `(tactic| trivial) => `(tactic| first | refine brb_not ?_ | refine brb_dec (fun _ => ?_) (fun _ => ?_) | refine brb_eqI (fun _ => ?_) (fun _ => ?_) | refine brb_neI (fun _ => ?_) (fun _ => ?_) | refine brb_eqS (fun _ => ?_) (fun _ => ?_))
theorem bd_le {n : Nat} {i j : Int} (h : Bd n j) (e : i.natAbs ≤ j.natAbs) : Bd n i := Nat.lt_of_le_of_lt e h
theorem bd_up {n m : Nat} {i : Int} (h : Bd n i) (e : n ≤ m) : Bd m i := Nat.lt_of_lt_of_le h (Nat.pow_le_pow_right (by omega) e)
theorem gcd_bd {b t : Int} (hb : b ≠ 0) : b.gcd t ≤ b.natAbs := by
  rw [Int.gcd_eq_natAbs_gcd_natAbs]
  exact Nat.gcd_le_left _ (by omega)
/-- __init__ -/
theorem init_ok {En : EndD} {a : Addr} {t b : Int} {M : Mst} (hb : b ≠ 0) (h1 : Bd 7800 t) (h2 : Bd 7800 b) (h : ∀ ρ, En.nx ρ (updM M a (.inst 0 [(29, .int (Rat.divInt t b).num), (30, .int (Rat.divInt t b).den)]))) :
    semSs (GK K) (below lv 1 Γ) b3 (startD N3 [.loc a, .int t, .int b]) (updM M a (.inst 0 [])) En := by
  have hg := gcd_bd (t := t) hb
  have hp := Int.gcd_pos_of_ne_zero_left t hb
  have eN := num_of (t := t) hb rfl
  have eD := den_of (t := t) hb rfl
  have fin : ∀ (v : Int), v = (if b < 0 then -((b.gcd t : Nat) : Int) else ((b.gcd t : Nat) : Int)) → semSs (GK K) (below lv 1 Γ) (.cons (.setf (.var 0) 29 (.bin .FloorDiv (.var 1) (.var 4))) (.cons (.setf (.var 0) 30 (.bin .FloorDiv (.var 2) (.var 4))) .nil))
      [some (.loc a), some (.int t), some (.int b), some (.int b), some (.int v)] (updM M a (.inst 0 [])) En := by
    intro v hv
    have d : DivOk v := by
      subst hv
      refine ⟨by split <;> omega, bd_up (bd_le h2 ?_) (by omega)⟩
      split <;> omega
    have e1 : t.fdiv v = (Rat.divInt t b).num := by rw [hv]; exact eN
    have e2 : b.fdiv v = ((Rat.divInt t b).den : Int) := by rw [hv]; exact eD
    refine ⟨d, 0, [], updM_same, rfl, by simp, ?_⟩
    refine ⟨d, 0, _, updM_same, rfl, by simp [putD], ?_⟩
    rw [e1, e2, updM_updM, updM_updM]
    exact h _
  refine ⟨by simp, ?_⟩
  refine .inl ⟨t, rfl, ?_⟩
  refine .inl ⟨b, rfl, ?_⟩
  trivial
  · omega
  refine ⟨t.natAbs, b.natAbs, ?_, Nat.lt_trans h1 (Nat.pow_lt_pow_right (by omega) (by omega)), Nat.lt_trans h2 (Nat.pow_lt_pow_right (by omega) (by omega)), ?_⟩
  · show [D.int (if t < 0 then -t else t), D.int (if b < 0 then -b else b)] = _
    rw [abs_is, abs_is]
  have eg : (Nat.gcd t.natAbs b.natAbs) = b.gcd t := by rw [Int.gcd_eq_natAbs_gcd_natAbs, Nat.gcd_comm]
  rw [eg]
  trivial
  · exact fin _ (by rw [if_pos (by assumption)])
  · exact fin _ (by rw [if_neg (by assumption)])
theorem sp3 : SpecOk (GK K) Γ lv 3 c3 := by
  rintro ds M K1 E1 ⟨t, b, rfl, hb, h1, h2, h⟩ a ha
  refine ⟨rfl, init_ok K hb h1 h2 fun ρ => ⟨rfl, .inl ⟨_, updM_same, ?_⟩⟩⟩
  rw [delM_updM ha]
  exact h
theorem sp4 : SpecOk (GK K) Γ lv 4 c4 := by
  rintro ds M K1 E1 ⟨t, rfl, h1, h⟩ a ha
  refine ⟨rfl, init_ok K (b := 1) (by omega) h1 (by show (1 : Int).natAbs < 2 ^ 7800; exact Nat.one_lt_two_pow (by omega)) fun ρ => ⟨rfl, .inl ⟨_, updM_same, ?_⟩⟩⟩
  rw [delM_updM ha, divInt_one]
  exact h
theorem sp5 : SpecOk (GK K) Γ lv 5 c5 := by
  rintro ds M K1 E1 ⟨t, b, rfl, hb, h1, h2, h⟩ a ha
  refine ⟨rfl, init_ok K hb h1 h2 fun ρ => ⟨rfl, .inl ⟨_, updM_same, ?_⟩⟩⟩
  rw [delM_updM ha]
  exact h
end
end L02
end PyD
set_option Elab.async false
set_option linter.all false
set_option autoImplicit false
set_option maxRecDepth 100000
set_option maxHeartbeats 4000000
set_option exponentiation.threshold 10000
namespace PyD
open PySem PySem.Spec L2
namespace L02
section
variable (K : PySem.W.Frag)
theorem mo {i j : Int} {n m : Nat} (h1 : Bd n i) (h2 : Bd m j) (hn : 0 < n) (hm : 0 < m) (l : n + m ≤ 1000000) : MulOk i j := .inr (.inr ⟨n, m, h1, h2, hn, hm, l⟩)
theorem bd_mul {i j : Int} {n m : Nat} (h1 : Bd n i) (h2 : Bd m j) : Bd (n + m) (i * j) := by
  unfold Bd at *
  rw [Int.natAbs_mul, Nat.pow_add]
  exact Nat.mul_lt_mul'' h1 h2
theorem bd_add {i j : Int} {n : Nat} (h1 : Bd n i) (h2 : Bd n j) : Bd (n + 1) (i + j) := by
  unfold Bd at *
  rw [Nat.pow_succ]
  omega
theorem bd_sub {i j : Int} {n : Nat} (h1 : Bd n i) (h2 : Bd n j) : Bd (n + 1) (i - j) := by
  unfold Bd at *
  rw [Nat.pow_succ]
  omega
theorem bd_neg {i : Int} {n : Nat} (h1 : Bd n i) : Bd n (-i) := by
  unfold Bd at *
  omega
variable {n m : Nat} {p q : Rat}
theorem Sz.nu (h : Sz n p) : Bd n p.num := h.1
theorem Sz.de (h : Sz n p) : Bd n (p.den : Int) := h.2
theorem den0 (p : Rat) : (p.den : Int) ≠ 0 := by have := p.den_pos; omega
theorem den2 (p q : Rat) : (p.den : Int) * q.den ≠ 0 := Int.mul_ne_zero (den0 p) (den0 q)
theorem add_is (p q : Rat) : Rat.divInt (p.num * q.den + q.num * p.den) (p.den * q.den) = p + q := by
  have := Rat.divInt_add_divInt p.num q.num (den0 p) (den0 q)
  rw [Rat.num_divInt_den, Rat.num_divInt_den] at this
  exact this.symm
theorem sub_is (p q : Rat) : Rat.divInt (p.num * q.den - q.num * p.den) (p.den * q.den) = p - q := by
  have := Rat.divInt_sub_divInt p.num q.num (den0 p) (den0 q)
  rw [Rat.num_divInt_den, Rat.num_divInt_den] at this
  exact this.symm
theorem mul_is (p q : Rat) : Rat.divInt (p.num * q.num) (p.den * q.den) = p * q := by
  have := Rat.divInt_mul_divInt p.num q.num (d₁ := p.den) (d₂ := q.den)
  rw [Rat.num_divInt_den, Rat.num_divInt_den] at this
  exact this.symm
theorem div_is (p q : Rat) : Rat.divInt (p.num * q.den) (p.den * q.num) = p / q := by
  have h2 := Rat.inv_divInt q.num q.den
  rw [Rat.num_divInt_den] at h2
  have := Rat.divInt_mul_divInt p.num q.den (d₁ := p.den) (d₂ := q.num)
  rw [Rat.num_divInt_den, ← h2, ← Rat.div_def] at this
  exact this.symm
theorem neg_is (p : Rat) : Rat.divInt (-p.num) p.den = -p := by
  rw [← Rat.neg_divInt, Rat.num_divInt_den]
theorem sp9 : SpecOk (GK K) Γ lv 9 c9 := by
  rintro ds M K1 E1 ⟨p, d, q, rfl, hd, hp, hq, h⟩
  refine ⟨rfl, d, q, rfl, hd, d, q, rfl, hd, mo hp.nu hq.de (by omega) (by omega) (by omega), mo hq.nu hp.de (by omega) (by omega) (by omega), mo hp.de hq.de (by omega) (by omega) (by omega), _, _, rfl, den2 p q, bd_up (bd_add (bd_mul hp.nu hq.de) (bd_mul hq.nu hp.de)) (by omega), bd_up (bd_mul hp.de hq.de) (by omega), ?_⟩
  rw [add_is]
  exact h
theorem sp11 : SpecOk (GK K) Γ lv 11 c11 := by
  rintro ds M K1 E1 ⟨p, d, q, rfl, hd, hp, hq, h⟩
  refine ⟨rfl, d, q, rfl, hd, d, q, rfl, hd, mo hp.nu hq.de (by omega) (by omega) (by omega), mo hq.nu hp.de (by omega) (by omega) (by omega), mo hp.de hq.de (by omega) (by omega) (by omega), _, _, rfl, den2 p q, bd_up (bd_sub (bd_mul hp.nu hq.de) (bd_mul hq.nu hp.de)) (by omega), bd_up (bd_mul hp.de hq.de) (by omega), ?_⟩
  rw [sub_is]
  exact h
theorem sp13 : SpecOk (GK K) Γ lv 13 c13 := by
  rintro ds M K1 E1 ⟨p, d, q, rfl, hd, hp, hq, h⟩
  refine ⟨rfl, d, q, rfl, hd, d, q, rfl, hd, mo hp.nu hq.nu (by omega) (by omega) (by omega), mo hp.de hq.de (by omega) (by omega) (by omega), _, _, rfl, den2 p q, bd_up (bd_mul hp.nu hq.nu) (by omega), bd_up (bd_mul hp.de hq.de) (by omega), ?_⟩
  rw [mul_is]
  exact h
theorem sp15 : SpecOk (GK K) Γ lv 15 c15 := by
  rintro ds M K1 E1 ⟨p, rfl, hp, h⟩
  refine ⟨rfl, _, _, rfl, den0 p, bd_up (bd_neg hp.nu) (by omega), bd_up hp.de (by omega), ?_⟩
  rw [neg_is]
  exact h
theorem sp7 : SpecOk (GK K) Γ lv 7 c7 := by
  rintro ds M K1 E1 ⟨d, q, rfl, hd, hq, h⟩
  refine ⟨rfl, d, q, rfl, hd, ?_⟩
  rcases nm_num hd with ⟨n, rfl, rfl, e1, e2⟩ | rfl
  · have hn := hq.nu
    rw [e1] at hn
    exact ⟨n, rfl, hn, h⟩
  · exact h
theorem sp8 : SpecOk (GK K) Γ lv 8 c8 := by
  rintro ds M K1 E1 ⟨d, q, rfl, hd, hq, h⟩
  refine ⟨rfl, d, q, rfl, hd, ?_⟩
  rcases nm_num hd with ⟨n, rfl, rfl, e1, e2⟩ | rfl
  · have hn := hq.nu
    rw [e1] at hn
    exact ⟨n, rfl, hn, h⟩
  · exact h
theorem sp10 : SpecOk (GK K) Γ lv 10 c10 := by
  rintro ds M K1 E1 ⟨p, d, q, rfl, hd, hp, hq, h⟩
  rcases nm_num hd with ⟨n, rfl, rfl, e1, e2⟩ | rfl
  · exact ⟨rfl, trivial, by decide, rfl, rfl, p, _, _, rfl, hd, hp, hq, h⟩
  · exact ⟨rfl, rfl, by decide, rfl, rfl, p, _, _, rfl, hd, hp, hq, h⟩
end
end L02
end PyD
set_option Elab.async false
set_option linter.all false
set_option autoImplicit false
set_option maxRecDepth 100000
set_option maxHeartbeats 4000000
set_option exponentiation.threshold 10000
namespace PyD
open PySem PySem.Spec L2
namespace L02
section
variable (K : PySem.W.Frag)
theorem sp12 : SpecOk (GK K) Γ lv 12 c12 := by
  rintro ds M K1 E1 ⟨p, d, q, rfl, hd, hp, hq, h⟩
  refine ⟨rfl, d, q, rfl, hd, ⟨Nat.lt_trans hq.1 (by decide), Nat.lt_trans hq.2 (by decide)⟩, rfl, by decide, rfl, rfl, q, _, p, rfl, .inl rfl, hq, hp, h⟩
theorem sp14 : SpecOk (GK K) Γ lv 14 c14 := by
  rintro ds M K1 E1 ⟨p, d, q, rfl, hd, hp, hq, h⟩
  rcases nm_num hd with ⟨n, rfl, rfl, e1, e2⟩ | rfl
  · exact ⟨rfl, trivial, by decide, rfl, rfl, p, _, _, rfl, hd, hp, hq, h⟩
  · exact ⟨rfl, rfl, by decide, rfl, rfl, p, _, _, rfl, hd, hp, hq, h⟩
theorem sp16 : SpecOk (GK K) Γ lv 16 c16 := by
  rintro ds M K1 E1 ⟨p, d, q, rfl, hd, hp, hq, h⟩
  refine ⟨rfl, d, q, rfl, hd, mo hp.nu hq.de (by omega) (by omega) (by omega), mo hq.nu hp.de (by omega) (by omega) (by omega), ?_⟩
  have e : decide (p < q) = decide (p.num * q.den < q.num * p.den) := decide_eq_decide.mpr (Rat.lt_iff p q)
  rw [e] at h
  exact h
theorem sp17 : SpecOk (GK K) Γ lv 17 c17 := by
  rintro ds M K1 E1 ⟨p, d, q, rfl, hd, hp, hq, h⟩
  refine ⟨rfl, d, q, rfl, hd, mo hp.nu hq.de (by omega) (by omega) (by omega), mo hq.nu hp.de (by omega) (by omega) (by omega), ?_⟩
  have e : decide (p ≤ q) = decide (p.num * q.den ≤ q.num * p.den) := decide_eq_decide.mpr (Rat.le_iff p q)
  rw [e] at h
  exact h
theorem sp18 : SpecOk (GK K) Γ lv 18 c18 := by
  rintro ds M K1 E1 ⟨p, d, q, rfl, hd, hp, hq, h⟩
  refine ⟨rfl, d, q, rfl, hd, mo hp.nu hq.de (by omega) (by omega) (by omega), mo hq.nu hp.de (by omega) (by omega) (by omega), ?_⟩
  have e : decide (q < p) = decide (q.num * p.den < p.num * q.den) := decide_eq_decide.mpr (Rat.lt_iff q p)
  rw [e] at h
  exact h
theorem sp19 : SpecOk (GK K) Γ lv 19 c19 := by
  rintro ds M K1 E1 ⟨p, d, q, rfl, hd, hp, hq, h⟩
  refine ⟨rfl, d, q, rfl, hd, mo hp.nu hq.de (by omega) (by omega) (by omega), mo hq.nu hp.de (by omega) (by omega) (by omega), ?_⟩
  have e : decide (q ≤ p) = decide (q.num * p.den ≤ p.num * q.den) := decide_eq_decide.mpr (Rat.le_iff q p)
  rw [e] at h
  exact h
theorem eq_is (p q : Rat) : decide (p = q) = (p.num == q.num && ((p.den : Int) == (q.den : Int) && true)) := by
  rw [Bool.eq_iff_iff]
  simp only [decide_eq_true_eq, Bool.and_eq_true, beq_iff_eq, and_true]
  constructor
  · rintro rfl; exact ⟨rfl, rfl⟩
  · rintro ⟨h1, h2⟩; exact Rat.ext h1 (by omega)
theorem sp20 : SpecOk (GK K) Γ lv 20 c20 := by
  rintro ds M K1 E1 ⟨p, d, q, rfl, hd, h⟩
  refine ⟨rfl, d, q, rfl, hd, by simp, d, q, rfl, hd, rfl, rfl, ?_⟩
  rw [eq_is] at h
  exact h
theorem dv {n : Nat} {p : Rat} (h : Sz n p) (hn : n ≤ 8000) : DivOk (p.den : Int) := ⟨den0 p, bd_up h.de hn⟩
theorem sp22 : SpecOk (GK K) Γ lv 22 c22 := by
  rintro ds M K1 E1 ⟨p, rfl, hp, h⟩
  exact ⟨rfl, dv hp (by omega), h⟩
theorem sp23 : SpecOk (GK K) Γ lv 23 c23 := by
  rintro ds M K1 E1 ⟨p, rfl, hp, h⟩
  exact ⟨rfl, dv hp (by omega), h⟩
theorem num0 {q : Rat} (h : q ≠ 0) : q.num ≠ 0 := fun e => h (Rat.num_eq_zero.mp e)
theorem over_ok {p q : Rat} {d : D} {M : Mst} {K1 : KD} {E1 : ED} (hd : Nm d q) (h0 : q ≠ 0) (hp : Sz 3000 p) (hq : Sz 3000 q) (h : K1 (amt (p / q)) M) :
    semSs (GK K) (below lv 3 Γ) b22 [some (amt p), some d, none, none] M { nx := fun _ M' => K1 .non M', rt := K1, er := fun c fs _ M' => E1 c fs M' } := by
  have fin : ∀ x : Slots, x = [some (amt p), some d, none, none] → semSs (GK K) (below lv 3 Γ) (.cons (.unp [2, 3] (.call 2 (.cons (.var 1) .nil) .nil)) (.cons (.ret (.call 3 (.cons (.bin .Mult (.att (.var 0) 29) (.var 3)) (.cons (.bin .Mult (.att (.var 0) 30) (.var 2)) .nil)) .nil)) .nil)) x M
      { nx := fun _ M' => K1 .non M', rt := K1, er := fun c fs _ M' => E1 c fs M' } := by
    rintro x rfl
    refine ⟨d, q, rfl, hd, mo hp.nu hq.de (by omega) (by omega) (by omega), mo hp.de hq.nu (by omega) (by omega) (by omega), _, _, rfl, Int.mul_ne_zero (den0 p) (num0 h0), bd_up (bd_mul hp.nu hq.de) (by omega), bd_up (bd_mul hp.de hq.nu) (by omega), ?_⟩
    rw [div_is]
    exact h
  refine ⟨d, q, rfl, hd, ?_⟩
  rcases nm_num hd with ⟨n, rfl, rfl, e1, e2⟩ | rfl
  · refine brb_eqI (fun z => ?_) fun z => ?_
    · rw [z] at h0; exact absurd rfl h0
    · exact fin _ rfl
  · refine ⟨trivial, rfl, q, _, ((0 : Int) : Rat), rfl, .inr ⟨0, rfl, rfl⟩, ?_⟩
    refine brb_dec (fun z => ?_) fun z => ?_
    · exact absurd z h0
    · exact fin _ rfl
theorem sp25 : SpecOk (GK K) Γ lv 25 c25 := by
  rintro ds M K1 E1 ⟨p, d, q, rfl, hd, h0, hp, hq, h⟩
  exact ⟨rfl, over_ok K hd h0 hp hq h⟩
theorem sp26 : SpecOk (GK K) Γ lv 26 c26 := by
  rintro ds M K1 E1 ⟨p, d, q, rfl, hd, h0, hp, hq, h⟩
  exact ⟨rfl, over_ok K hd h0 hp hq h⟩
end
end L02
end PyD
set_option Elab.async false
set_option linter.all false
set_option autoImplicit false
set_option maxRecDepth 100000
set_option maxHeartbeats 4000000
set_option exponentiation.threshold 10000
namespace PyD
open PySem PySem.Spec L2
namespace L02
section
variable (K : PySem.W.Frag)
theorem below_eq {n j : Nat} (h : lv j < n) : below lv n Γ j = Γ j := if_pos h
variable {n : Nat} {p q : Rat} {d : D} {ρ : Slots} {M : Mst} {K1 : KD} {E1 : ED}
theorem add_go (hn : 2 < n) (hd : Nm d q) (hp : Sz 3000 p) (hq : Sz 3000 q) (h : K1 (amt (p + q)) M) : binD (GK K) (below lv n Γ) .Add (amt p) d ρ M K1 E1 := by
  have go : below lv n Γ 9 [amt p, d] M K1 E1 := by rw [below_eq hn]; exact ⟨p, d, q, rfl, hd, hp, hq, h⟩
  rcases nm_num hd with ⟨m, rfl, rfl, e1, e2⟩ | rfl
  · exact ⟨trivial, by decide, rfl, rfl, go⟩
  · exact ⟨rfl, by decide, rfl, rfl, go⟩
theorem sub_go (hn : 2 < n) (hd : Nm d q) (hp : Sz 3000 p) (hq : Sz 3000 q) (h : K1 (amt (p - q)) M) : binD (GK K) (below lv n Γ) .Sub (amt p) d ρ M K1 E1 := by
  have go : below lv n Γ 11 [amt p, d] M K1 E1 := by rw [below_eq hn]; exact ⟨p, d, q, rfl, hd, hp, hq, h⟩
  rcases nm_num hd with ⟨m, rfl, rfl, e1, e2⟩ | rfl
  · exact ⟨trivial, by decide, rfl, rfl, go⟩
  · exact ⟨rfl, by decide, rfl, rfl, go⟩
theorem mul_go (hn : 2 < n) (hd : Nm d q) (hp : Sz 3000 p) (hq : Sz 3000 q) (h : K1 (amt (p * q)) M) : binD (GK K) (below lv n Γ) .Mult (amt p) d ρ M K1 E1 := by
  have go : below lv n Γ 13 [amt p, d] M K1 E1 := by rw [below_eq hn]; exact ⟨p, d, q, rfl, hd, hp, hq, h⟩
  rcases nm_num hd with ⟨m, rfl, rfl, e1, e2⟩ | rfl
  · exact ⟨trivial, by decide, rfl, rfl, go⟩
  · exact ⟨rfl, by decide, rfl, rfl, go⟩
theorem sz_le {a b : Nat} (h : Sz a p) (l : a ≤ b) : Sz b p := ⟨Nat.lt_of_lt_of_le h.1 (Nat.pow_le_pow_right (by omega) l), Nat.lt_of_lt_of_le h.2 (Nat.pow_le_pow_right (by omega) l)⟩
theorem sz_div {t b : Int} {a : Nat} (hb : b ≠ 0) (h1 : Bd a t) (h2 : Bd a b) : Sz a (Rat.divInt t b) := ⟨Nat.lt_of_le_of_lt num_le h1, Nat.lt_of_le_of_lt (den_le hb) h2⟩
theorem sz_add {a b : Nat} (h1 : Sz a p) (h2 : Sz b q) : Sz (a + b + 1) (p + q) := by
  rw [← add_is]
  refine sz_div (den2 p q) (bd_add (bd_mul h1.nu h2.de) ?_) (bd_up (bd_mul h1.de h2.de) (by omega))
  rw [Nat.add_comm]
  exact bd_mul h2.nu h1.de
theorem sz_sub {a b : Nat} (h1 : Sz a p) (h2 : Sz b q) : Sz (a + b + 1) (p - q) := by
  rw [← sub_is]
  refine sz_div (den2 p q) (bd_sub (bd_mul h1.nu h2.de) ?_) (bd_up (bd_mul h1.de h2.de) (by omega))
  rw [Nat.add_comm]
  exact bd_mul h2.nu h1.de
theorem sz_mul {a b : Nat} (h1 : Sz a p) (h2 : Sz b q) : Sz (a + b) (p * q) := by
  rw [← mul_is]
  exact sz_div (den2 p q) (bd_mul h1.nu h2.nu) (bd_mul h1.de h2.de)
theorem sum_loop {En : EndD} : ∀ (xs : List D) (qs : List Rat) (s : Rat) (o : Option D) (x : Option D) (a : Nat), Nms xs qs → Sz a s → a + 401 * xs.length ≤ 2000 → (∀ q ∈ qs, Sz 400 q) → (∀ o, En.nx [x, some (amt (addAll qs s)), o] M) →
    forS (set1 2) (semSs (GK K) (below lv 3 Γ) (.cons (.asg 1 (.bin .Add (.var 1) (.var 2))) .nil)) xs [x, some (amt s), o] M En
  | [], qs, s, o, x, a, hx, hs, hl, hq, h => by
    unfold Nms at hx
    subst hx
    exact h o
  | d :: ds, qs, s, o, x, a, hx, hs, hl, hq, h => by
    unfold Nms at hx
    obtain ⟨q, r, rfl, hd, hr⟩ := hx
    have hq1 := hq q List.mem_cons_self
    rw [List.length_cons] at hl
    refine add_go (q := q) K (by omega) hd (sz_le hs (by omega)) (sz_le hq1 (by omega)) ?_
    exact sum_loop ds r (s + q) (some d) x (a + 400 + 1) hr (sz_add hs hq1) (by omega) (fun y hy => hq y (List.mem_cons_of_mem _ hy)) h
theorem sum_ok {xs : List D} {qs : List Rat} {d : D} (hd : d = .lst xs ∨ d = .tup xs) (hx : Nms xs qs) (hl : xs.length ≤ 4) (hq : ∀ q ∈ qs, Sz 400 q) (h : K1 (amt (addAll qs 0)) M) :
    semSs (GK K) (below lv 3 Γ) b23 [some d, none, none] M { nx := fun _ M' => K1 .non M', rt := K1, er := fun c fs _ M' => E1 c fs M' } := by
  refine ⟨0, rfl, Nat.one_lt_two_pow (by omega) |> Nat.lt_of_le_of_lt (Nat.zero_le _), ?_⟩
  have z : Sz 1 ((0 : Int) : Rat) := ⟨by simp, by simp⟩
  have l := sum_loop (M := M) K xs qs ((0 : Int) : Rat) none (some d) 1 hx z (by omega) hq (En := { nx := fun ρ' M' => semSs (GK K) (below lv 3 Γ) (.cons (.ret (.var 1)) .nil) ρ' M' { nx := fun _ M' => K1 .non M', rt := K1, er := fun c fs _ M' => E1 c fs M' }, rt := K1, er := fun c fs _ M' => E1 c fs M' }) fun o => h
  rcases hd with rfl | rfl
  · exact l
  · exact l
theorem sp27 : SpecOk (GK K) Γ lv 27 c27 := by
  rintro ds M K1 E1 ⟨xs, qs, hd, hx, hl, hq, h⟩
  rcases hd with rfl | rfl
  · exact ⟨rfl, sum_ok K (.inl rfl) hx hl hq h⟩
  · exact ⟨rfl, sum_ok K (.inr rfl) hx hl hq h⟩
theorem sp28 : SpecOk (GK K) Γ lv 28 c28 := by
  rintro ds M K1 E1 ⟨xs, qs, hd, hx, hl, hq, h⟩
  rcases hd with rfl | rfl
  · exact ⟨rfl, sum_ok K (.inl rfl) hx hl hq h⟩
  · exact ⟨rfl, sum_ok K (.inr rfl) hx hl hq h⟩
end
end L02
end PyD
set_option Elab.async false
set_option linter.all false
set_option autoImplicit false
set_option maxRecDepth 100000
set_option maxHeartbeats 4000000
set_option exponentiation.threshold 10000
namespace PyD
open PySem PySem.Spec L2
namespace L02
section
variable (K : PySem.W.Frag)
theorem sp29 : SpecOk (GK K) Γ lv 29 c29 := by
  rintro ds M K1 E1 ⟨ns, rfl, h⟩
  refine ⟨rfl, (by decide : 3 ≤ 1000000), fun a ha => h a _ ha ⟨ha, (ns.drop (HT.sIx (ns.map D.int).length 0 none)).take (HT.sIx (ns.map D.int).length (ns.map D.int).length (some 63) - HT.sIx (ns.map D.int).length 0 none), 0, 0, ?_, by omega, by omega, by omega⟩⟩
  rw [List.map_take, List.map_drop]
  rfl
def dk : DrawK := ⟨61053, 1217, 2147483549, 71071, 725, 2147483629, 313, 59053, 45, 2147483587⟩
theorem sp30 : SpecOk (GK K) Γ lv 30 c30 := by
  rintro ds M K1 E1 ⟨M0, a, n, m, rfl, hp, hn, h0, hm, h⟩
  exact ⟨rfl, drawA_ok (k := dk) (by decide) hp hn h0 hm h⟩
theorem sp31 : SpecOk (GK K) Γ lv 31 c31 := by
  rintro ds M K1 E1 ⟨M0, a, n, xs, rfl, hp, hn, h0, hl, h⟩
  refine ⟨rfl, M0, a, n, _, rfl, hp, hn, by omega, by omega, fun r M' r0 r1 hp' => ?_⟩
  have l : r.toNat < xs.length := by omega
  refine ⟨xs[r.toNat], ?_, h _ (List.getElem_mem _) _ hp'⟩
  unfold atI ixN
  rw [if_pos r0, if_pos r1]
  exact List.getElem?_eq_getElem l
end
end L02
end PyD
set_option Elab.async false
set_option linter.all false
set_option autoImplicit false
set_option maxRecDepth 100000
set_option maxHeartbeats 4000000
set_option exponentiation.threshold 10000
namespace PyD
open PySem PySem.Spec L2
namespace L02
section
variable (K : PySem.W.Frag)
theorem low_loop {G : Gam} {Γ' : Nat → SpD} {M : Mst} {En : EndD} {o0 o1 o4 : Option D} : ∀ (y x : Nat), En.nx [o0, o1, some (.int (Nat.gcd x y : Nat)), some (.int 0), o4] M →
    ∃ n, whlS (sem G Γ' (.cmp .NotEq (.var 3) (.con (.int 0)))).2 (semSs G Γ' (.cons (.par [2, 3] (.cons (.var 3) (.cons (.bin .Mod (.blt .int (.cons (.var 2) .nil)) (.var 3)) .nil))) .nil)) n [o0, o1, some (.int x), some (.int y), o4] M En := by
  intro y
  induction y using Nat.strongRecOn with
  | _ y ih =>
    intro x h
    by_cases e : y = 0
    · subst e
      rw [Nat.gcd_zero_right] at h
      exact ⟨1, h⟩
    · have lt : x % y < y := Nat.mod_lt _ (by omega)
      obtain ⟨n, hn⟩ := ih (x % y) lt y (by rw [Nat.gcd_comm x y, Nat.gcd_rec y x, Nat.gcd_comm] at h; exact h)
      refine ⟨n + 1, ?_⟩
      refine brb_not ?_
      refine brb_eqI (fun z => by omega) fun z => ⟨by omega, ?_⟩
      rw [← fmod_nat] at hn
      exact hn
theorem low_num {t b : Int} {s : Int} (hb : b ≠ 0) (hs : s = b.sign) : (s * t).fdiv ((b.gcd t : Nat) : Int) = (Rat.divInt t b).num := by
  rw [Rat.num_divInt, hs, Int.fdiv_eq_ediv_of_nonneg _ (by omega)]
theorem low_den {t b : Int} {s : Int} (hb : b ≠ 0) (hs : s = b.sign) : (s * b).fdiv ((b.gcd t : Nat) : Int) = ((Rat.divInt t b).den : Int) := by
  rw [Rat.den_divInt, if_neg hb, hs, Int.fdiv_eq_ediv_of_nonneg _ (by omega), Int.natCast_ediv, Int.sign_mul_self]
theorem sp32 : SpecOk (GK K) Γ lv 32 c32 := by
  rintro ds M K1 E1 ⟨u, l, rfl, hl, h1, h2, h⟩
  have hg := gcd_bd (t := u) hl
  have hp := Int.gcd_pos_of_ne_zero_left u hl
  have eg : (Nat.gcd u.natAbs l.natAbs) = l.gcd u := by rw [Int.gcd_eq_natAbs_gcd_natAbs, Nat.gcd_comm]
  have d : DivOk ((l.gcd u : Nat) : Int) := ⟨by omega, bd_up (n := 7800) (Nat.lt_of_le_of_lt hg h2) (by omega)⟩
  refine ⟨rfl, ?_⟩
  have fin : ∀ s : Int, s = l.sign → Bd 63 s → semSs (GK K) (below lv (lv 32) Γ) (.cons (.ret (.tup (.cons (.bin .FloorDiv (.bin .Mult (.var 4) (.var 0)) (.var 2)) (.cons (.bin .FloorDiv (.bin .Mult (.var 4) (.var 1)) (.var 2)) .nil)))) .nil)
      [some (.int u), some (.int l), some (.int ((l.gcd u : Nat) : Int)), some (.int 0), some (.int s)] M { nx := fun x M' => K1 D.non M', rt := K1, er := fun c fs x M' => E1 c fs M' } := by
    intro s hs hb
    refine ⟨.inl hb, d, .inl hb, d, (by decide : 2 ≤ 1000000), ?_⟩
    rw [low_num hl hs, low_den hl hs]
    exact h
  have lp := low_loop (G := GK K) (Γ' := below lv (lv 32) Γ) (M := M) (o0 := some (.int u)) (o1 := some (.int l)) (o4 := none) (En := { nx := fun ρ M' => semSs (GK K) (below lv (lv 32) Γ) (.cons (.asg 4 (.ite (.cmp .Lt (.var 1) (.con (.int 0))) (.neg (.con (.int 1))) (.con (.int 1)))) (.cons (.ret (.tup (.cons (.bin .FloorDiv (.bin .Mult (.var 4) (.var 0)) (.var 2)) (.cons (.bin .FloorDiv (.bin .Mult (.var 4) (.var 1)) (.var 2)) .nil)))) .nil)) ρ M' { nx := fun x M' => K1 D.non M', rt := K1, er := fun c fs x M' => E1 c fs M' }, rt := K1, er := fun c fs x M' => E1 c fs M' }) l.natAbs u.natAbs (by
    rw [eg]
    refine brb_dec (fun e => ?_) (fun e => ?_)
    · exact fin (-1) (Int.sign_eq_neg_one_of_neg e).symm (show 1 < 2 ^ 63 by decide)
    · exact fin 1 (Int.sign_eq_one_of_pos (by omega)).symm (show 1 < 2 ^ 63 by decide))
  rw [← abs_is, ← abs_is] at lp
  exact lp
end
end L02
end PyD
set_option Elab.async false
set_option linter.all false
set_option autoImplicit false
set_option maxRecDepth 100000
set_option maxHeartbeats 4000000
set_option exponentiation.threshold 10000
namespace PyD
open PySem PySem.Spec L2
namespace L02
section
variable (K : PySem.W.Frag)

theorem ten64 : Bd 64 (10 : Int) := show (10 : Nat) < 2 ^ 64 by decide
theorem small_mul {v w : Int} (hv : v.natAbs ≤ 10 ^ 30) (hw : w.natAbs ≤ 1) : MulOk v w ∧ (v * w).natAbs ≤ 10 ^ 30 := by
  refine ⟨.inr (.inl (Nat.lt_of_le_of_lt hw (by decide))), ?_⟩
  rw [Int.natAbs_mul]
  exact Nat.le_trans (Nat.mul_le_mul_left _ hw) (by omega)
theorem sp33 : SpecOk (GK K) Γ lv 33 c33 := by
  rintro ds M K1 E1 ⟨M0, a, n, rfl, hp, hn, h⟩
  refine ⟨rfl, ?_⟩
  refine ⟨M0, a, n, 60, rfl, hp, by omega, by omega, by omega, fun r M1 r0 r1 p1 => ?_⟩
  refine ⟨⟨by decide, by decide, ten64⟩, M0, a, n + 1, 99, rfl, p1, by omega, by omega, by omega, fun t M2 t0 t1 p2 => ?_⟩
  refine ⟨⟨by decide, by decide, ten64⟩, le_d rfl, M0, a, n + 2, _, rfl, p2, by omega, le_d rfl, le_d rfl, fun x hx M3 p3 => ?_⟩
  refine ⟨le_d rfl, M0, a, n + 3, _, rfl, p3, by omega, le_d rfl, le_d rfl, fun y hy M4 p4 => ?_⟩
  have ex : ∃ v : Int, x = .int v ∧ v.natAbs ≤ 10 ^ 30 := by
    simp only [List.mem_cons, List.not_mem_nil, or_false] at hx
    rcases hx with rfl | rfl | rfl | rfl | rfl | rfl | rfl
    · exact ⟨_, rfl, by decide⟩
    · exact ⟨_, rfl, by decide⟩
    · exact ⟨_, rfl, by decide⟩
    · exact ⟨_, rfl, by decide⟩
    · exact ⟨_, rfl, by omega⟩
    · refine ⟨_, rfl, ?_⟩
      show ((10 : Int) ^ 20 + t).natAbs ≤ 10 ^ 30
      omega
    · exact ⟨_, rfl, by decide⟩
  have ey : ∃ v : Int, y = .int v ∧ v.natAbs ≤ 1 := by
    simp only [List.mem_cons, List.not_mem_nil, or_false] at hy
    rcases hy with rfl | rfl | rfl
    · exact ⟨_, rfl, by decide⟩
    · exact ⟨_, rfl, by decide⟩
    · exact ⟨_, rfl, by decide⟩
  obtain ⟨v, rfl, hv⟩ := ex
  obtain ⟨w, rfl, hw⟩ := ey
  obtain ⟨s1, s2⟩ := small_mul hv hw
  exact ⟨s1, h _ s2 _ p4⟩
theorem sp34 : SpecOk (GK K) Γ lv 34 c34 := by
  rintro ds M K1 E1 ⟨M0, a, n, rfl, hp, hn, h⟩
  refine ⟨rfl, ?_⟩
  refine ⟨M0, a, n, 30, rfl, hp, by omega, by omega, by omega, fun r M1 r0 r1 p1 => ?_⟩
  refine ⟨⟨by decide, by decide, ten64⟩, le_d rfl, M0, a, n + 1, _, rfl, p1, by omega, le_d rfl, le_d rfl, fun x hx M2 p2 => ?_⟩
  refine ⟨le_d rfl, M0, a, n + 2, _, rfl, p2, by omega, le_d rfl, le_d rfl, fun y hy M3 p3 => ?_⟩
  have ex : ∃ v : Int, x = .int v ∧ v.natAbs ≤ 10 ^ 30 ∧ v ≠ 0 := by
    simp only [List.mem_cons, List.not_mem_nil, or_false] at hx
    rcases hx with rfl | rfl | rfl | rfl | rfl | rfl
    · exact ⟨_, rfl, by decide, by decide⟩
    · exact ⟨_, rfl, by decide, by decide⟩
    · exact ⟨_, rfl, by decide, by decide⟩
    · exact ⟨_, rfl, by decide, by decide⟩
    · exact ⟨_, rfl, by omega, by omega⟩
    · exact ⟨_, rfl, by decide, by decide⟩
  have ey : ∃ v : Int, y = .int v ∧ v.natAbs ≤ 1 ∧ v ≠ 0 := by
    simp only [List.mem_cons, List.not_mem_nil, or_false] at hy
    rcases hy with rfl | rfl | rfl
    · exact ⟨_, rfl, by decide, by decide⟩
    · exact ⟨_, rfl, by decide, by decide⟩
    · exact ⟨_, rfl, by decide, by decide⟩
  obtain ⟨v, rfl, hv, nv⟩ := ex
  obtain ⟨w, rfl, hw, nw⟩ := ey
  obtain ⟨s1, s2⟩ := small_mul hv hw
  refine ⟨s1, M0, a, n + 3, rfl, p3, by omega, fun u hu M4 p4 => ⟨le_d rfl, h u (v * w) hu (Int.mul_ne_zero nv nw) s2 M4 p4⟩⟩
end
end L02
end PyD
set_option Elab.async false
set_option linter.all false
set_option autoImplicit false
set_option maxRecDepth 100000
set_option maxHeartbeats 4000000
set_option exponentiation.threshold 10000
namespace PyD
open PySem PySem.Spec L2
namespace L02
section
variable (K : PySem.W.Frag)
theorem pair_same (x y : Int) : PyData.eqv (.tuple [.int x, .int y]) (.tuple [.int x, .int y]) = true := by
  show ((x == x) && ((y == y) && true)) = true
  rw [beq_self_eq_true, beq_self_eq_true]
  rfl
theorem sp35 : SpecOk (GK K) Γ lv 35 c35 := by
  rintro ds M K1 E1 ⟨u, l, rfl, hl, h1, h2, h⟩
  refine ⟨rfl, ?_⟩
  refine ⟨le_d rfl, u, l, rfl, hl, h1, h2, rfl, rfl, ?_⟩
  rw [pair_same]
  exact h
end
end L02
end PyD
set_option Elab.async false
set_option linter.all false
set_option autoImplicit false
set_option maxRecDepth 100000
set_option maxHeartbeats 4000000
set_option exponentiation.threshold 10000
namespace PyD
open PySem PySem.Spec L2
namespace L02
section
variable (K : PySem.W.Frag)
theorem bool_same {b c : Bool} (h : b = true ↔ c = true) : b = c := Bool.eq_iff_iff.mpr h
theorem big {n m : Nat} (h : n ≤ m) {i : Int} (b : Bd n i) : Bd m i := bd_up b h
theorem den_ok {q : Rat} {n : Nat} (h : Sz n q) (hn : n ≤ 8000) : DivOk (q.den : Int) := ⟨by have := q.den_pos; omega, bd_up (n := n) h.2 hn⟩
theorem whole_iff (q : Rat) : decide (q = (q.num : Rat)) = ((q.den : Int) == 1) := by
  rw [Bool.eq_iff_iff]
  simp only [decide_eq_true_eq, beq_iff_eq]
  constructor
  · intro h
    have := congrArg Rat.den h
    rw [Rat.den_intCast] at this
    omega
  · intro h
    refine Rat.ext ?_ ?_
    · rw [Rat.num_intCast]
    · rw [Rat.den_intCast]; omega
theorem fd_le {i j : Int} (hj : 0 < j) : (i.fdiv j).natAbs ≤ i.natAbs := by
  rw [Int.fdiv_eq_ediv_of_nonneg _ (by omega)]
  exact Int.natAbs_ediv_le_natAbs i j
theorem alone_eq (q : Rat) : (PyData.list [.int (q.num.fdiv q.den), .int (-((-q.num).fdiv q.den)), .bool (decide (q.den = 1)), .bool (decide (q ≠ 0)), .bool (decide (q = (q.num : Rat))), .bool true]) =
    .list [.int (q.num.fdiv q.den), .int (0 - (0 - q.num).fdiv q.den), .bool ((q.den : Int) == 1), .bool (!(q.num == 0)), .bool ((q.den : Int) == 1), .bool true] := by
  rw [whole_iff, Int.zero_sub, Int.zero_sub]
  have e1 : decide (q.den = 1) = ((q.den : Int) == 1) := by
    rw [Bool.eq_iff_iff]
    simp only [decide_eq_true_eq, beq_iff_eq]
    omega
  have e2 : decide (q ≠ 0) = (!(q.num == 0)) := by
    rw [Bool.eq_iff_iff]
    simp [Rat.num_eq_zero]
  rw [e1, e2]
theorem alone_go {q : Rat} (hq : Sz 100 q) : leaves [.int (q.num.fdiv q.den), .int (-((-q.num).fdiv q.den)), .bool (decide (q.den = 1)), .bool (decide (q ≠ 0)), .bool (decide (q = (q.num : Rat))), .bool true] := by
  have hp : 0 < (q.den : Int) := by have := q.den_pos; omega
  have l : (2 : Nat) ^ 100 ≤ 2 ^ 250 := Nat.pow_le_pow_right (by omega) (by omega)
  refine ⟨?_, ?_, trivial, trivial, trivial, trivial, trivial⟩
  · exact Nat.lt_of_le_of_lt (fd_le hp) (Nat.lt_of_lt_of_le hq.1 l)
  · show (-((-q.num).fdiv q.den)).natAbs < 2 ^ 250
    rw [Int.natAbs_neg]
    refine Nat.lt_of_le_of_lt (fd_le hp) (Nat.lt_of_lt_of_le ?_ l)
    rw [Int.natAbs_neg]
    exact hq.1
theorem sp36 : SpecOk (GK K) Γ lv 36 c36 := by
  rintro ds M K1 E1 ⟨u, l, rfl, hl, h1, h2, h⟩
  refine ⟨rfl, ?_⟩
  have hq : Sz 100 (Rat.divInt u l) := sz_div hl h1 h2
  have hq3 : Sz 3000 (Rat.divInt u l) := sz_le hq (by omega)
  have dd := den_ok hq (by omega)
  have b1 := big (m := 7800) (by omega) h1
  have b2 := big (m := 7800) (by omega) h2
  have bn : Bd 7800 (-u) := bd_neg b1
  refine ⟨u, l, rfl, hl, b1, b2, rfl, _, rfl, hq3, -u, l, by rw [Rat.neg_divInt]; rfl, hl, bn, b2, ?_⟩
  refine ⟨u, l, rfl, hl, b1, b2, ?_⟩
  generalize Rat.divInt u l = q at *
  refine ⟨q, rfl, hq3, q, rfl, hq3, q, rfl, rfl, q, rfl, trivial, rfl, q, .int q.num, (q.num : Rat), rfl, .inr ⟨q.num, rfl, rfl⟩, amt q, q, rfl, .inl rfl, le_d rfl, ?_⟩
  refine ⟨dd, dd, le_d rfl, ?_⟩
  obtain ⟨r1, r2, r3, r4⟩ := repr_go (alone_go hq) (le_d rfl)
  refine ⟨r1, r2, r3, r4, trivial, ?_⟩
  have e := alone_eq q
  rw [e] at r1 r2 r3 r4
  refine ⟨r1, r2, r3, r4, trivial, ?_⟩
  refine brb_eqS (fun _ => ?_) (fun ne => absurd (congrArg PyData.shown e) ne)
  have hn : Sz 7800 ((q.num : Int) : Rat) := ⟨by rw [Rat.num_intCast]; exact big (n := 100) (by omega) hq.1, by rw [Rat.den_intCast]; exact Nat.one_lt_two_pow (by omega)⟩
  refine ⟨amt q, q, rfl, .inl rfl, sz_le hq (by omega), rfl, rfl, q, amt q, q, rfl, .inl rfl, ?_⟩
  refine brb_dec (fun _ => ?_) (fun n => absurd rfl n)
  refine ⟨.int q.num, (q.num : Rat), rfl, .inr ⟨_, rfl, rfl⟩, hn, trivial, rfl, (q.num : Rat), .int q.num, (q.num : Rat), rfl, .inr ⟨_, rfl, rfl⟩, ?_⟩
  rw [decide_eq_true rfl]
  exact h
end
end L02
end PyD
set_option Elab.async false
set_option linter.all false
set_option autoImplicit false
set_option maxRecDepth 100000
set_option maxHeartbeats 400000
set_option exponentiation.threshold 10000
namespace PyD
open PySem PySem.Spec L2
namespace L02
section
variable (K : PySem.W.Frag)
def sg (d : Int) : Int := if d < 0 then -1 else 1
theorem sg_is {d : Int} (hd : d ≠ 0) : d.sign = sg d := by
  unfold sg
  split
  · rw [Int.sign_eq_neg_one_of_neg (by assumption)]
  · rw [Int.sign_eq_one_of_pos (by omega)]
theorem nn_iff {n d : Int} (hd : d ≠ 0) : 0 ≤ Rat.divInt n d ↔ 0 ≤ n * sg d := by
  have hp := Int.gcd_pos_of_ne_zero_left n hd
  rw [← Rat.num_nonneg, Rat.num_divInt, Int.ediv_nonneg_iff_of_pos (by omega), sg_is hd, Int.mul_comm]
def gap (u l v m : Int) : Int := (u * m - v * l) * sg (l * m)
variable {u l v m : Int}
theorem ge_iff (hl : l ≠ 0) (hm : m ≠ 0) : Rat.divInt v m ≤ Rat.divInt u l ↔ 0 ≤ gap u l v m := by
  rw [Rat.le_iff_sub_nonneg, Rat.divInt_sub_divInt _ _ hl hm, nn_iff (Int.mul_ne_zero hl hm)]
  rfl
theorem le_iff (hl : l ≠ 0) (hm : m ≠ 0) : Rat.divInt u l ≤ Rat.divInt v m ↔ gap u l v m ≤ 0 := by
  rw [ge_iff hm hl]
  unfold gap
  rw [Int.mul_comm m l, ← Int.neg_sub (u * m) (v * l), Int.neg_mul]
  omega
theorem lt_iff (hl : l ≠ 0) (hm : m ≠ 0) : Rat.divInt u l < Rat.divInt v m ↔ gap u l v m < 0 := by
  rw [← Rat.not_le, ge_iff hl hm]
  omega
theorem gt_iff (hl : l ≠ 0) (hm : m ≠ 0) : Rat.divInt v m < Rat.divInt u l ↔ 0 < gap u l v m := by
  rw [← Rat.not_le, le_iff hl hm]
  omega
theorem eq_iff (hl : l ≠ 0) (hm : m ≠ 0) : Rat.divInt u l = Rat.divInt v m ↔ gap u l v m = 0 := by
  constructor
  · intro e
    have h1 := (le_iff hl hm).mp (by rw [e]; exact Rat.le_refl)
    have h2 := (ge_iff hl hm).mp (by rw [e]; exact Rat.le_refl)
    omega
  · intro e
    exact Rat.le_antisymm ((le_iff hl hm).mpr (by omega)) ((ge_iff hl hm).mpr (by omega))
theorem two_eq (hl : l ≠ 0) (hm : m ≠ 0) :
    PyData.list [.bool (decide (Rat.divInt u l < Rat.divInt v m)), .bool (decide (Rat.divInt u l ≤ Rat.divInt v m)), .bool (decide (Rat.divInt v m < Rat.divInt u l)), .bool (decide (Rat.divInt v m ≤ Rat.divInt u l)), .bool (decide (Rat.divInt u l = Rat.divInt v m)), .bool (!decide (Rat.divInt u l = Rat.divInt v m))] =
    .list [.bool (decide (gap u l v m < 0)), .bool (decide (gap u l v m ≤ 0)), .bool (decide (0 < gap u l v m)), .bool (decide (0 ≤ gap u l v m)), .bool (gap u l v m == 0), .bool (!(gap u l v m == 0))] := by
  have e : (gap u l v m == 0) = decide (gap u l v m = 0) := rfl
  rw [e]
  simp only [decide_eq_decide.mpr (lt_iff hl hm), decide_eq_decide.mpr (le_iff hl hm), decide_eq_decide.mpr (gt_iff hl hm), decide_eq_decide.mpr (ge_iff hl hm), decide_eq_decide.mpr (eq_iff hl hm)]
theorem over_is (hm : v ≠ 0) : Rat.divInt u l / Rat.divInt v m = Rat.divInt (u * m) (l * v) := by
  rw [Rat.div_def, Rat.inv_divInt, Rat.divInt_mul_divInt]
theorem ne_zero (hm : m ≠ 0) (hv : v ≠ 0) : Rat.divInt v m ≠ 0 := fun e => hv (by
  have h := (eq_iff hm (by decide : (1 : Int) ≠ 0)).mp (by rw [e, Rat.zero_divInt] : Rat.divInt v m = Rat.divInt 0 1)
  unfold gap sg at h
  split at h <;> omega)
theorem bd_sg {d : Int} : Bd 63 (sg d) := by
  unfold sg
  split
  · exact (show 1 < 2 ^ 63 by decide)
  · exact (show 1 < 2 ^ 63 by decide)
theorem nil_go {G : Gam} {Γ' : Nat → SpD} {ρ : Slots} {M : Mst} {En : EndD} (h : En.nx ρ M) : semSs G Γ' .nil ρ M En := h
def tl : Ss → Ss
  | .cons _ r => r
  | .nil => .nil
def tls : Nat → Ss → Ss
  | 0, s => s
  | n + 1, s => tls n (tl s)
theorem two_leaves {a b c d e f : Bool} : leaves [.bool a, .bool b, .bool c, .bool d, .bool e, .bool f] := ⟨trivial, trivial, trivial, trivial, trivial, trivial, trivial⟩
theorem two_rest {M : Mst} {K1 : KD} {E1 : ED} (hl : l ≠ 0) (hm : m ≠ 0) (h1 : Bd 100 u) (h2 : Bd 100 l) (h3 : Bd 100 v) (h4 : Bd 100 m) (hp : Sz 3000 (Rat.divInt u l)) (hq : Sz 3000 (Rat.divInt v m)) (h : K1 (.bl true) M) :
    semSs (GK K) (below lv (lv 37) Γ) (tls 4 b32) [some (amt (Rat.divInt u l)), some (.tup [.int u, .int l]), some (amt (Rat.divInt v m)), some (.tup [.int v, .int m]), none, none] M { nx := fun x M' => K1 D.non M', rt := K1, er := fun c fs x M' => E1 c fs M' } := by
  have nq : Nm (amt (Rat.divInt v m)) (Rat.divInt v m) := .inl rfl
  have mm : ∀ {a b : Int}, Bd 100 a → Bd 100 b → MulOk a b := fun a b => mo a b (by omega) (by omega) (by omega)
  have fin : ∀ s : Int, s = sg (l * m) → semSs (GK K) (below lv (lv 37) Γ) (tls 5 b32) [some (amt (Rat.divInt u l)), some (.tup [.int u, .int l]), some (amt (Rat.divInt v m)), some (.tup [.int v, .int m]), some (.int ((u * m - v * l) * s)), none] M { nx := fun x M' => K1 D.non M', rt := K1, er := fun c fs x M' => E1 c fs M' } := by
    intro s hs
    subst hs
    refine ⟨rfl, rfl, _, _, _, rfl, nq, hp, hq, rfl, rfl, _, _, _, rfl, nq, hp, hq, rfl, rfl, _, _, _, rfl, nq, hp, hq, rfl, rfl, _, _, _, rfl, nq, hp, hq, rfl, rfl, _, _, _, rfl, nq, rfl, rfl, _, _, _, rfl, nq, le_d rfl, ?_⟩
    obtain ⟨r1, r2, r3, r4⟩ := repr_go (two_leaves (a := decide (Rat.divInt u l < Rat.divInt v m)) (b := decide (Rat.divInt u l ≤ Rat.divInt v m)) (c := decide (Rat.divInt v m < Rat.divInt u l)) (d := decide (Rat.divInt v m ≤ Rat.divInt u l)) (e := decide (Rat.divInt u l = Rat.divInt v m)) (f := !decide (Rat.divInt u l = Rat.divInt v m))) (le_d rfl)
    refine ⟨r1, r2, r3, r4, trivial, le_d rfl, ?_⟩
    have e := two_eq (u := u) (v := v) hl hm
    rw [e] at r1 r2 r3 r4
    refine ⟨r1, r2, r3, r4, trivial, ?_⟩
    have e2 := beq_iff_eq.mpr (congrArg PyData.shown e)
    have fin : ∀ z : Bool, z = true → K1 (.bl z) M := fun z hz => by rw [hz]; exact h
    exact fin _ e2
  refine ⟨_, rfl, _, rfl, mm h1 h4, _, rfl, _, rfl, mm h3 h2, _, rfl, _, rfl, mm h2 h4, ?_⟩
  refine brb_dec (fun g => ?_) (fun g => ?_)
  · exact ⟨.inr (.inl (show 1 < 2 ^ 63 by decide)), fin (-1) (by unfold sg; rw [if_pos g])⟩
  · exact ⟨.inr (.inl (show 1 < 2 ^ 63 by decide)), fin 1 (by unfold sg; rw [if_neg g])⟩
theorem sp37 : SpecOk (GK K) Γ lv 37 c37 := by
  rintro ds M K1 E1 ⟨u, l, v, m, rfl, hl, hm, h1, h2, h3, h4, h⟩
  refine ⟨rfl, ?_⟩
  have hp : Sz 3000 (Rat.divInt u l) := sz_le (sz_div hl h1 h2) (by omega)
  have hq : Sz 3000 (Rat.divInt v m) := sz_le (sz_div hm h3 h4) (by omega)
  have nq : Nm (amt (Rat.divInt v m)) (Rat.divInt v m) := .inl rfl
  have lm : l * m ≠ 0 := Int.mul_ne_zero hl hm
  have mm : ∀ {a b : Int}, Bd 100 a → Bd 100 b → MulOk a b := fun a b => mo a b (by omega) (by omega) (by omega)
  have b1 : Bd 7800 (u * m) := big (by omega) (bd_mul h1 h4)
  have b2 : Bd 7800 (l * m) := big (by omega) (bd_mul h2 h4)
  have b3 : Bd 7800 (u * m + v * l) := big (n := 201) (by omega) (bd_add (bd_mul h1 h4) (bd_mul h3 h2))
  have b4 : Bd 7800 (u * m - v * l) := big (n := 201) (by omega) (bd_sub (bd_mul h1 h4) (bd_mul h3 h2))
  have b5 : Bd 7800 (u * v) := big (by omega) (bd_mul h1 h3)
  have b6 : Bd 7800 (l * v) := big (by omega) (bd_mul h2 h3)
  refine ⟨rfl, by decide, rfl, rfl, _, _, _, rfl, nq, hp, hq, _, rfl, _, rfl, mm h1 h4, _, rfl, _, rfl, mm h3 h2, _, rfl, _, rfl, mm h2 h4, u * m + v * l, l * m, by rw [← Rat.divInt_add_divInt _ _ hl hm]; rfl, lm, b3, b2, ?_⟩
  refine ⟨rfl, by decide, rfl, rfl, _, _, _, rfl, nq, hp, hq, _, rfl, _, rfl, mm h1 h4, _, rfl, _, rfl, mm h3 h2, _, rfl, _, rfl, mm h2 h4, u * m - v * l, l * m, by rw [← Rat.divInt_sub_divInt _ _ hl hm]; rfl, lm, b4, b2, ?_⟩
  refine ⟨rfl, by decide, rfl, rfl, _, _, _, rfl, nq, hp, hq, _, rfl, _, rfl, mm h1 h3, _, rfl, _, rfl, mm h2 h4, u * v, l * m, by rw [← Rat.divInt_mul_divInt]; rfl, lm, b5, b2, ?_⟩
  refine ⟨_, rfl, brb_not (brb_eqI (fun e => ?_) (fun ne => ?_))⟩
  · show semSs _ _ _ _ _ _
    refine nil_go ?_
    show semSs _ _ _ _ _ _
    exact two_rest (M := M) (K1 := K1) (E1 := E1) K hl hm h1 h2 h3 h4 hp hq h
  · refine ⟨rfl, _, _, _, rfl, nq, ne_zero hm ne, hp, hq, _, rfl, _, rfl, mm h1 h4, _, rfl, _, rfl, mm h2 h3, u * m, l * v, by rw [← over_is ne]; rfl, Int.mul_ne_zero hl ne, b1, b6, ?_⟩
    show semSs _ _ _ _ _ _
    refine nil_go ?_
    show semSs _ _ _ _ _ _
    exact two_rest (M := M) (K1 := K1) (E1 := E1) K hl hm h1 h2 h3 h4 hp hq h

end
end L02
end PyD
set_option Elab.async false
set_option linter.all false
set_option autoImplicit false
set_option maxRecDepth 100000
set_option maxHeartbeats 400000
set_option exponentiation.threshold 10000
namespace PyD
open PySem PySem.Spec L2
namespace L02
section
variable (K : PySem.W.Frag) {u l n : Int}
def gip (u l n : Int) : Int := (u - n * l) * sg l
theorem gip_is : gap u l n 1 = gip u l n := by
  unfold gap gip
  rw [Int.mul_one, Int.mul_one]
theorem one_eq (hl : l ≠ 0) :
    PyData.list [.bool (decide (Rat.divInt u l < (n : Rat))), .bool (decide (Rat.divInt u l ≤ (n : Rat))), .bool (decide ((n : Rat) < Rat.divInt u l)), .bool (decide ((n : Rat) ≤ Rat.divInt u l)), .bool (decide (Rat.divInt u l = (n : Rat))), .bool (decide (Rat.divInt u l = (n : Rat))),
      .bool (decide ((n : Rat) < Rat.divInt u l)), .bool (decide ((n : Rat) ≤ Rat.divInt u l)), .bool (decide (Rat.divInt u l < (n : Rat))), .bool (decide (Rat.divInt u l ≤ (n : Rat)))] =
    .list [.bool (decide (gip u l n < 0)), .bool (decide (gip u l n ≤ 0)), .bool (decide (0 < gip u l n)), .bool (decide (0 ≤ gip u l n)), .bool (gip u l n == 0), .bool (gip u l n == 0), .bool (decide (0 < gip u l n)), .bool (decide (0 ≤ gip u l n)), .bool (decide (gip u l n < 0)), .bool (decide (gip u l n ≤ 0))] := by
  have e : (gip u l n == 0) = decide (gip u l n = 0) := rfl
  rw [e, ← divInt_one n, ← gip_is]
  have h1 : (1 : Int) ≠ 0 := by decide
  simp only [decide_eq_decide.mpr (lt_iff hl h1), decide_eq_decide.mpr (le_iff hl h1), decide_eq_decide.mpr (gt_iff hl h1), decide_eq_decide.mpr (ge_iff hl h1), decide_eq_decide.mpr (eq_iff hl h1)]
theorem one_leaves {a b c d e f g h i j : Bool} : leaves [.bool a, .bool b, .bool c, .bool d, .bool e, .bool f, .bool g, .bool h, .bool i, .bool j] := ⟨trivial, trivial, trivial, trivial, trivial, trivial, trivial, trivial, trivial, trivial, trivial⟩
theorem one_rest {M : Mst} {K1 : KD} {E1 : ED} (hl : l ≠ 0) (h1 : Bd 100 u) (h2 : Bd 100 l) (h3 : Bd 100 n) (hp : Sz 3000 (Rat.divInt u l)) (hq : Sz 3000 (n : Rat)) (h : K1 (.bl true) M) :
    semSs (GK K) (below lv (lv 38) Γ) (tls 7 b33) [some (amt (Rat.divInt u l)), some (.tup [.int u, .int l]), some (.int n), some (.int u), some (.int l), none, none, none] M { nx := fun x M' => K1 D.non M', rt := K1, er := fun c fs x M' => E1 c fs M' } := by
  have nq : Nm (.int n) (n : Rat) := .inr ⟨n, rfl, rfl⟩
  have mm : ∀ {a b : Int}, Bd 100 a → Bd 100 b → MulOk a b := fun a b => mo a b (by omega) (by omega) (by omega)
  have fin : ∀ s : Int, s = sg l → semSs (GK K) (below lv (lv 38) Γ) (tls 8 b33) [some (amt (Rat.divInt u l)), some (.tup [.int u, .int l]), some (.int n), some (.int u), some (.int l), some (.int ((u - n * l) * s)), none, none] M { nx := fun x M' => K1 D.non M', rt := K1, er := fun c fs x M' => E1 c fs M' } := by
    intro s hs
    subst hs
    refine ⟨trivial, rfl, _, _, _, rfl, nq, hp, hq, trivial, rfl, _, _, _, rfl, nq, hp, hq, trivial, rfl, _, _, _, rfl, nq, hp, hq, trivial, rfl, _, _, _, rfl, nq, hp, hq, trivial, rfl, _, _, _, rfl, nq, rfl, _, _, _, rfl, nq, le_d rfl, ?_⟩
    refine ⟨rfl, _, _, _, rfl, nq, hp, hq, rfl, _, _, _, rfl, nq, hp, hq, rfl, _, _, _, rfl, nq, hp, hq, rfl, _, _, _, rfl, nq, hp, hq, le_d rfl, rfl, le_d rfl, le_d rfl, ?_⟩
    obtain ⟨r1, r2, r3, r4⟩ := repr_go (one_leaves (a := decide (Rat.divInt u l < (n : Rat))) (b := decide (Rat.divInt u l ≤ (n : Rat))) (c := decide ((n : Rat) < Rat.divInt u l)) (d := decide ((n : Rat) ≤ Rat.divInt u l)) (e := decide (Rat.divInt u l = (n : Rat))) (f := decide (Rat.divInt u l = (n : Rat))) (g := decide ((n : Rat) < Rat.divInt u l)) (h := decide ((n : Rat) ≤ Rat.divInt u l)) (i := decide (Rat.divInt u l < (n : Rat))) (j := decide (Rat.divInt u l ≤ (n : Rat)))) (le_d rfl)
    refine ⟨r1, r2, r3, r4, trivial, ?_⟩
    have e := one_eq (u := u) (n := n) hl
    rw [e] at r1 r2 r3 r4
    refine ⟨r1, r2, r3, r4, trivial, ?_⟩
    have e2 := beq_iff_eq.mpr (congrArg PyData.shown e)
    have fin : ∀ z : Bool, z = true → K1 (.bl z) M := fun z hz => by rw [hz]; exact h
    exact fin _ e2
  refine ⟨mm h3 h2, ?_⟩
  refine brb_dec (fun g => ?_) (fun g => ?_)
  · exact ⟨.inr (.inl (show 1 < 2 ^ 63 by decide)), fin (-1) (by unfold sg; rw [if_pos g])⟩
  · exact ⟨.inr (.inl (show 1 < 2 ^ 63 by decide)), fin 1 (by unfold sg; rw [if_neg g])⟩
end
end L02
end PyD
set_option Elab.async false
set_option linter.all false
set_option autoImplicit false
set_option maxRecDepth 100000
set_option maxHeartbeats 400000
set_option exponentiation.threshold 10000
namespace PyD
open PySem PySem.Spec L2
namespace L02
section
variable (K : PySem.W.Frag) {u l n : Int}
theorem add_one_is (hl : l ≠ 0) : Rat.divInt u l + (n : Rat) = Rat.divInt (u + n * l) l := by
  rw [← divInt_one n, Rat.divInt_add_divInt _ _ hl (by decide), Int.mul_one, Int.mul_one]
theorem sub_one_is (hl : l ≠ 0) : Rat.divInt u l - (n : Rat) = Rat.divInt (u - n * l) l := by
  rw [← divInt_one n, Rat.divInt_sub_divInt _ _ hl (by decide), Int.mul_one, Int.mul_one]
theorem rsub_one_is (hl : l ≠ 0) : (n : Rat) - Rat.divInt u l = Rat.divInt (n * l - u) l := by
  rw [← divInt_one n, Rat.divInt_sub_divInt _ _ (by decide) hl, Int.mul_one, Int.one_mul]
theorem mul_one_is : Rat.divInt u l * (n : Rat) = Rat.divInt (u * n) l := by
  rw [← divInt_one n, Rat.divInt_mul_divInt, Int.mul_one]
theorem over_one_is (hn : n ≠ 0) : Rat.divInt u l / (n : Rat) = Rat.divInt u (l * n) := by
  rw [← divInt_one n, over_is hn, Int.mul_one]
theorem int_nz (hn : n ≠ 0) : (n : Rat) ≠ 0 := by
  rw [← divInt_one n]
  exact ne_zero (by decide) hn
theorem sp38 : SpecOk (GK K) Γ lv 38 c38 := by
  rintro ds M K1 E1 ⟨u, l, n, rfl, hl, h1, h2, h3, h⟩
  refine ⟨rfl, ?_⟩
  have hp : Sz 3000 (Rat.divInt u l) := sz_le (sz_div hl h1 h2) (by omega)
  have hq : Sz 3000 (n : Rat) := ⟨by rw [Rat.num_intCast]; exact big (n := 100) (by omega) h3, by rw [Rat.den_intCast]; exact Nat.one_lt_two_pow (by omega)⟩
  have nq : Nm (.int n) (n : Rat) := .inr ⟨n, rfl, rfl⟩
  have mm : ∀ {a b : Int}, Bd 100 a → Bd 100 b → MulOk a b := fun a b => mo a b (by omega) (by omega) (by omega)
  have bu : Bd 7800 u := big (by omega) h1
  have bl : Bd 7800 l := big (by omega) h2
  have b3 : Bd 7800 (u + n * l) := big (n := 201) (by omega) (bd_add (big (by omega) h1) (bd_mul h3 h2))
  have b4 : Bd 7800 (u - n * l) := big (n := 201) (by omega) (bd_sub (big (by omega) h1) (bd_mul h3 h2))
  have b5 : Bd 7800 (n * l - u) := big (n := 201) (by omega) (bd_sub (bd_mul h3 h2) (big (by omega) h1))
  have b6 : Bd 7800 (u * n) := big (by omega) (bd_mul h1 h3)
  have b7 : Bd 7800 (l * n) := big (by omega) (bd_mul h2 h3)
  refine ⟨trivial, by decide, rfl, rfl, _, _, _, rfl, nq, hp, hq, mm h3 h2, u + n * l, l, by rw [← add_one_is hl]; rfl, hl, b3, bl, ?_⟩
  refine ⟨by decide, rfl, rfl, _, _, _, rfl, nq, hp, hq, mm h3 h2, u + n * l, l, by rw [← add_one_is hl]; rfl, hl, b3, bl, ?_⟩
  refine ⟨trivial, by decide, rfl, rfl, _, _, _, rfl, nq, hp, hq, mm h3 h2, u - n * l, l, by rw [← sub_one_is hl]; rfl, hl, b4, bl, ?_⟩
  refine ⟨by decide, rfl, rfl, _, _, _, rfl, nq, hp, hq, mm h3 h2, n * l - u, l, by rw [← rsub_one_is hl]; rfl, hl, b5, bl, ?_⟩
  refine ⟨trivial, by decide, rfl, rfl, _, _, _, rfl, nq, hp, hq, mm h1 h3, u * n, l, by rw [← mul_one_is]; rfl, hl, b6, bl, ?_⟩
  refine ⟨by decide, rfl, rfl, _, _, _, rfl, nq, hp, hq, mm h1 h3, u * n, l, by rw [← mul_one_is]; rfl, hl, b6, bl, ?_⟩
  show semSs _ _ _ _ _ _
  refine nil_go ?_
  show semSs _ _ _ _ _ _
  refine brb_not (brb_eqI (fun e => ?_) (fun ne => ?_))
  · show semSs _ _ _ _ _ _
    refine nil_go ?_
    show semSs _ _ _ _ _ _
    exact one_rest (M := M) (K1 := K1) (E1 := E1) K hl h1 h2 h3 hp hq h
  · refine ⟨rfl, _, _, _, rfl, nq, int_nz ne, hp, hq, mm h2 h3, u, l * n, by rw [← over_one_is ne]; rfl, Int.mul_ne_zero hl ne, bu, b7, ?_⟩
    show semSs _ _ _ _ _ _
    refine nil_go ?_
    show semSs _ _ _ _ _ _
    exact one_rest (M := M) (K1 := K1) (E1 := E1) K hl h1 h2 h3 hp hq h
end
end L02
end PyD
set_option Elab.async false
set_option linter.all false
set_option autoImplicit false
set_option maxRecDepth 100000
set_option maxHeartbeats 400000
set_option exponentiation.threshold 10000
namespace PyD
open PySem PySem.Spec L2
namespace L02
section
variable (K : PySem.W.Frag) {u l n : Int}
theorem sp39 : SpecOk (GK K) Γ lv 39 c39 := by
  rintro ds M K1 E1 ⟨p, q, n, rfl, hp, hq, h3, h⟩
  refine ⟨rfl, ?_⟩
  have hp := sz_le (b := 3000) hp (by omega)
  have hq := sz_le (b := 3000) hq (by omega)
  have hn : Sz 3000 (n : Rat) := ⟨by rw [Rat.num_intCast]; exact big (n := 100) (by omega) h3, by rw [Rat.den_intCast]; exact Nat.one_lt_two_pow (by omega)⟩
  have nn : Nm (.int n) (n : Rat) := .inr ⟨n, rfl, rfl⟩
  have nm : ∀ {q}, Nm (amt q) q := .inl rfl
  refine ⟨rfl, by decide, rfl, rfl, _, _, _, rfl, nm, hp, hq, ?_⟩
  refine ⟨trivial, by decide, rfl, rfl, _, _, _, rfl, nn, hp, hn, ?_⟩
  refine ⟨rfl, by decide, rfl, rfl, _, _, _, rfl, nm, hp, hq, ?_⟩
  refine ⟨rfl, by decide, rfl, rfl, _, _, _, rfl, nm, hp, hq, rfl, rfl, _, _, _, rfl, nm, ?_⟩
  refine brb_dec (fun _ => ?_) (fun ne => absurd rfl ne)
  refine ⟨trivial, by decide, rfl, rfl, _, _, _, rfl, nn, hp, hn, rfl, rfl, _, _, _, rfl, nm, ?_⟩
  refine brb_dec (fun _ => ?_) (fun ne => absurd rfl ne)
  refine ⟨rfl, by decide, rfl, rfl, _, _, _, rfl, nm, hp, hq, rfl, rfl, _, _, _, rfl, nm, ?_⟩
  rw [decide_eq_true rfl]
  exact h
end
end L02
end PyD
set_option Elab.async false
set_option linter.all false
set_option autoImplicit false
set_option maxRecDepth 100000
set_option maxHeartbeats 400000
set_option exponentiation.threshold 10000
namespace PyD
open PySem PySem.Spec L2
namespace L02
section
variable (K : PySem.W.Frag) {u l v m n : Int}
def forB : Ss → Ss
  | .cons (.for1 _ _ b) _ => b
  | s => s
/-- a turn of the law -/
def tb : Ss := forB (tl b35)
theorem add3 (p q n : Rat) : addAll [p, n, q] 0 = p + q + n := by
  show 0 + p + n + q = p + q + n
  rw [Rat.zero_add, Rat.add_assoc, Rat.add_comm n q, ← Rat.add_assoc]
theorem ten30 {i : Int} (h : i.natAbs ≤ 10 ^ 30) : Bd 100 i := Nat.lt_of_le_of_lt h (by decide)
abbrev G5 := below lv (lv 40) Γ
variable {M : Mst} {En : EndD} {o0 o1 o2 : Option D}
theorem turn4 {p q : Rat} (hl : l ≠ 0) (h1 : Bd 100 u) (h2 : Bd 100 l) (h5 : Bd 100 n) (hp : p = Rat.divInt u l) {o4 o7 : Option D} (o8 : Option D)
    (h : ∀ ρ : Slots, ρ = [o0, o1, o2, some (.tup [.int u, .int l]), o4, some (.int n), some (amt p), o7, o8] → En.nx ρ M) :
    semSs (GK K) G5 (tls 7 tb) [o0, o1, o2, some (.tup [.int u, .int l]), o4, some (.int n), some (amt p), o7, o8] M En := by
  subst hp
  refine ⟨_, rfl, _, rfl, u, l, rfl, hl, big (by omega) h1, big (by omega) h2, n, rfl, big (by omega) h5, n, 1, by rw [divInt_one]; rfl, by decide, big (by omega) h5, Nat.one_lt_two_pow (by omega), ?_⟩
  exact h _ rfl
end
end L02
end PyD
set_option Elab.async false
set_option linter.all false
set_option autoImplicit false
set_option maxRecDepth 100000
set_option maxHeartbeats 400000
set_option exponentiation.threshold 10000
namespace PyD
open PySem PySem.Spec L2
namespace L02
section
variable (K : PySem.W.Frag) {u l v m n : Int}
variable {M : Mst} {En : EndD} {o0 o1 o2 : Option D}
theorem allT_go {f : D → D → KB → Mst → ED → Prop} {d e : D} {ds es : List D} {L : KB} {M : Mst} {E : ED} (h : f d e (fun b M' => brb b (allT f ds es L M' E) (L false M')) M E) : allT f (d :: ds) (e :: es) L M E := by
  unfold allT
  exact h
theorem allT_nil {f : D → D → KB → Mst → ED → Prop} {es : List D} {L : KB} {M : Mst} {E : ED} (h : L true M) : allT f [] es L M E := by
  unfold allT
  exact h
theorem cmp_ne {G : Gam} {Γ' : Nat → SpD} {a b : D} {ρ : Slots} {M : Mst} {K : KD} {E : ED} (h : neC G Γ' a b (fun z M' => K (.bl z) M') M E) : cmpD G Γ' .NotEq a b ρ M K E := h
theorem amt_eq {p : Rat} {k : Nat} {L : Bool → Mst → Prop} {E : ED} (h : L true M) : eqT (GK K) G5 (k + 1) (amt p) (amt p) L M E := by
  refine ⟨fun _ => h, rfl, rfl, _, _, _, rfl, .inl rfl, ?_⟩
  show L (decide (p = p)) M
  rw [decide_eq_true rfl]
  exact h
theorem int_eq {i : Int} {k : Nat} {L : Bool → Mst → Prop} {E : ED} (h : L true M) : eqT (GK K) G5 (k + 1) (.int i) (.int i) L M E := by
  refine ⟨rfl, rfl, ?_⟩
  show L (i == i) M
  rw [beq_self_eq_true]
  exact h
theorem list3 {p q : Rat} {L : Bool → Mst → Prop} {E : ED} (h : L false M) : neC (GK K) G5 (.lst [amt p, .int n, amt q]) (.lst [amt p, .int n, amt q]) L M E := by
  show (if 3 = 3 then allT (eqT (GK K) G5 5) [amt p, .int n, amt q] [amt p, .int n, amt q] (fun z M' => L (!z) M') M E else L true M)
  rw [if_pos rfl]
  refine allT_go (amt_eq K (k := 4) ?_)
  refine allT_go (int_eq K (k := 4) ?_)
  refine allT_go (amt_eq K (k := 4) ?_)
  refine brb_t (allT_nil ?_)
  exact h
theorem turn3 {p q : Rat} (hl : l ≠ 0) (h1 : Bd 100 u) (h2 : Bd 100 l) (h5 : Bd 100 n) (hp : p = Rat.divInt u l) (sp : Sz 100 p) (sq : Sz 100 q) {o4 o8 : Option D}
    (h : ∀ ρ : Slots, (∃ o8, ρ = [o0, o1, o2, some (.tup [.int u, .int l]), o4, some (.int n), some (amt p), some (amt q), o8]) → En.nx ρ M) :
    semSs (GK K) G5 (tls 5 tb) [o0, o1, o2, some (.tup [.int u, .int l]), o4, some (.int n), some (amt p), some (amt q), o8] M En := by
  have hp3 := sz_le (b := 3000) sp (by omega)
  have hq3 := sz_le (b := 3000) sq (by omega)
  have hp4 := sz_le (b := 400) sp (by omega)
  have hq4 := sz_le (b := 400) sq (by omega)
  have hn : Sz 100 (n : Rat) := ⟨by rw [Rat.num_intCast]; exact h5, by rw [Rat.den_intCast]; exact Nat.one_lt_two_pow (by omega)⟩
  have hn3 := sz_le (b := 3000) hn (by omega)
  have hn4 := sz_le (b := 400) hn (by omega)
  have hpq := sz_le (b := 3000) (sz_add sp sq) (by omega)
  have nn : Nm (.int n) (n : Rat) := .inr ⟨n, rfl, rfl⟩
  have nm : ∀ {q}, Nm (amt q) q := .inl rfl
  have nms : Nms [amt p, .int n, amt q] [p, (n : Rat), q] := ⟨_, _, rfl, nm, _, _, rfl, nn, _, _, rfl, nm, rfl⟩
  have z : Sz 3000 0 := ⟨by decide, by decide⟩
  refine ⟨le_d rfl, _, _, .inl rfl, nms, le_d rfl, ?_, ?_⟩
  · intro x hx
    simp only [List.mem_cons, List.not_mem_nil, or_false] at hx
    rcases hx with rfl | rfl | rfl
    · exact hp4
    · exact hn4
    · exact hq4
  rw [add3]
  refine ⟨rfl, by decide, rfl, rfl, _, _, _, rfl, nm, hp3, hq3, trivial, by decide, rfl, rfl, _, _, _, rfl, nn, hpq, hn3, ?_⟩
  refine ⟨rfl, rfl, _, _, _, rfl, nm, ?_⟩
  rw [decide_eq_true rfl]
  refine ⟨le_d rfl, ?_⟩
  refine cmp_ne (list3 (n := n) (p := p) (q := q) K ?_)
  refine ⟨le_d rfl, _, [], .inr rfl, rfl, le_d rfl, fun q h => absurd h List.not_mem_nil, ?_⟩
  refine ⟨trivial, rfl, _, _, _, rfl, .inr ⟨0, rfl, rfl⟩, ?_⟩
  rw [show addAll [] 0 = 0 from rfl, show ((0 : Int) : Rat) = 0 from rfl, decide_eq_true rfl]
  show semSs _ _ _ _ _ _
  refine nil_go ?_
  show semSs _ _ _ _ _ _
  exact turn4 (M := M) (En := En) (o0 := o0) (o1 := o1) (o2 := o2) (o4 := o4) (o7 := some (amt q)) (p := p) (q := q) (u := u) (l := l) (n := n) K hl h1 h2 h5 hp _ fun ρ e => h ρ ⟨_, e⟩
end
end L02
end PyD
set_option Elab.async false
set_option linter.all false
set_option autoImplicit false
set_option maxRecDepth 100000
set_option maxHeartbeats 400000
set_option exponentiation.threshold 10000
namespace PyD
open PySem PySem.Spec L2
namespace L02
section
variable (K : PySem.W.Frag) {u l v m n : Int}
variable {M : Mst} {En : EndD} {o0 o1 o2 : Option D}
theorem turn2b (hl : l ≠ 0) (hm : m ≠ 0) (h1 : Bd 100 u) (h2 : Bd 100 l) (h3 : Bd 100 v) (h4 : Bd 100 m) (h5 : Bd 100 n) {o8 : Option D}
    (h : ∀ ρ : Slots, (∃ o8, ρ = [o0, o1, o2, some (.tup [.int u, .int l]), some (.tup [.int v, .int m]), some (.int n), some (amt (Rat.divInt u l)), some (amt (Rat.divInt v m)), o8]) → En.nx ρ M) :
    semSs (GK K) G5 (tls 3 tb) [o0, o1, o2, some (.tup [.int u, .int l]), some (.tup [.int v, .int m]), some (.int n), some (amt (Rat.divInt u l)), some (amt (Rat.divInt v m)), o8] M En := by
  have sp := sz_div hl h1 h2
  have sq := sz_div hm h3 h4
  refine ⟨u, l, v, m, rfl, hl, hm, h1, h2, h3, h4, v, m, u, l, rfl, hm, hl, h3, h4, h1, h2, ?_⟩
  show semSs _ _ _ _ _ _
  refine nil_go ?_
  show semSs _ _ _ _ _ _
  refine ⟨u, l, n, rfl, hl, h1, h2, h5, _, _, n, rfl, sp, sq, h5, ?_⟩
  show semSs _ _ _ _ _ _
  refine nil_go ?_
  show semSs _ _ _ _ _ _
  exact turn3 (M := M) (En := En) (o0 := o0) (o1 := o1) (o2 := o2) (p := Rat.divInt u l) (q := Rat.divInt v m) (u := u) (l := l) (n := n) K hl h1 h2 h5 rfl sp sq h
def Turn (a : Addr) (ρ : Slots) : Prop := ∃ o0 o2 o3 o4 o5 o6 o7 o8, ρ = [o0, some (.loc a), o2, o3, o4, o5, o6, o7, o8]
theorem turn_ok {M0 : Mst} {a : Addr} {k : Nat} (hp : Pen M0 a k M) (hk : k < 1000) {ρ : Slots} (hρ : Turn a ρ) (h : ∀ ρ' M', Turn a ρ' → Pen M0 a (k + 18) M' → En.nx ρ' M') : semSs (GK K) G5 tb ρ M En := by
  obtain ⟨o0, o2, o3, o4, o5, o6, o7, o8, rfl⟩ := hρ
  have c1 : k < 2 ^ 17 := by omega
  have c2 : k + 7 < 2 ^ 17 := by omega
  have c3 : k + 7 + 7 < 2 ^ 18 := by omega
  refine ⟨M0, a, k, rfl, hp, c1, fun u l hu hl hl2 M1 p1 => ?_⟩
  refine ⟨M0, a, k + 7, rfl, p1, c2, fun v m hv hm hm2 M2 p2 => ?_⟩
  refine ⟨M0, a, k + 7 + 7, rfl, p2, c3, fun n hn M3 p3 => ?_⟩
  have h1 := ten30 hu
  have h2 := ten30 hl2
  have h3 := ten30 hv
  have h4 := ten30 hm2
  have h5 := ten30 hn
  have b1 : Bd 7800 u := big (by omega) h1
  have b2 : Bd 7800 l := big (by omega) h2
  have b3 : Bd 7800 v := big (by omega) h3
  have b4 : Bd 7800 m := big (by omega) h4
  refine ⟨_, rfl, _, rfl, u, l, rfl, hl, b1, b2, _, rfl, _, rfl, v, m, rfl, hm, b3, b4, ?_⟩
  refine ⟨_, rfl, _, rfl, u, l, rfl, hl, h1, h2, _, rfl, _, rfl, v, m, rfl, hm, h3, h4, ?_⟩
  show semSs _ _ _ _ _ _
  refine nil_go ?_
  show semSs _ _ _ _ _ _
  exact turn2b (M := M3) (En := En) (o0 := o0) (o1 := some (.loc a)) (o2 := o2) (u := u) (l := l) (v := v) (m := m) (n := n) (o8 := o8) K hl hm h1 h2 h3 h4 h5 fun ρ ⟨o8, e⟩ => h ρ M3 ⟨o0, o2, _, _, _, _, _, o8, e⟩ (p3.up (by omega))
theorem turns_ok {M0 : Mst} {a : Addr} : ∀ (j : Nat) (lo : Int) (k : Nat) {M : Mst} {ρ : Slots}, Pen M0 a k M → k + 18 * j < 1000 → Turn a ρ → (∀ ρ' M', Turn a ρ' → Pen M0 a (k + 18 * j) M' → En.nx ρ' M') → forS (set1 2) (semSs (GK K) G5 tb) (rngL lo j) ρ M En
  | 0, lo, k, M, ρ, hp, hk, hρ, h => h ρ M hρ hp
  | j + 1, lo, k, M, ρ, hp, hk, hρ, h => by
    have hρ' : Turn a (ρ.set 2 (some (.int lo))) := by
      obtain ⟨o0, o2, o3, o4, o5, o6, o7, o8, rfl⟩ := hρ
      exact ⟨o0, some (.int lo), o3, o4, o5, o6, o7, o8, rfl⟩
    show semSs (GK K) G5 tb (ρ.set 2 (some (.int lo))) M _
    refine turn_ok (M0 := M0) (a := a) (k := k) K hp (by omega) hρ' fun ρ1 M1 t1 p1 => ?_
    exact turns_ok j (lo + 1) (k + 18) p1 (by omega) t1 fun ρ2 M2 t2 p2 => h ρ2 M2 t2 (by rw [show k + 18 * (j + 1) = k + 18 + 18 * j by omega]; exact p2)
theorem sp40 : SpecOk (GK K) Γ lv 40 c40 := by
  rintro ds M K1 E1 ⟨rfl, ns, rfl, h⟩
  refine ⟨rfl, ?_⟩
  refine ⟨ns, rfl, fun a M1 ha p1 => ⟨by decide, ?_⟩⟩
  refine turns_ok (M0 := fun _ => none) (a := a) K 8 0 0 p1 (by omega) ⟨_, _, _, _, _, _, _, _, rfl⟩ fun ρ M2 t2 p2 => ?_
  obtain ⟨o0, o2, o3, o4, o5, o6, o7, o8, rfl⟩ := t2
  show semSs _ _ _ _ _ _
  have nms : Nms [.int 1, amt (Rat.divInt 1 2)] [((1 : Int) : Rat), Rat.divInt 1 2] := ⟨_, _, rfl, .inr ⟨1, rfl, rfl⟩, _, _, rfl, .inl rfl, rfl⟩
  have b1 : ∀ {i : Int}, i.natAbs < 2 ^ 5 → Bd 7800 i := fun h => big (n := 5) (by omega) h
  have hz : ∀ q ∈ [((1 : Int) : Rat), Rat.divInt 1 2], Sz 400 q := by
    intro q hq
    simp only [List.mem_cons, List.not_mem_nil, or_false] at hq
    rcases hq with rfl | rfl
    · exact ⟨Nat.lt_of_lt_of_le (by decide : (((1 : Int) : Rat).num).natAbs < 2 ^ 5) (Nat.pow_le_pow_right (by omega) (by omega)), Nat.lt_of_lt_of_le (by decide : (((1 : Int) : Rat).den) < 2 ^ 5) (Nat.pow_le_pow_right (by omega) (by omega))⟩
    · exact sz_le (a := 5) (sz_div (by decide) (show (1 : Nat) < 2 ^ 5 by decide) (show (2 : Nat) < 2 ^ 5 by decide)) (by omega)
  refine ⟨1, 2, rfl, by decide, b1 (by decide), b1 (by decide), le_d rfl, _, _, .inr rfl, nms, le_d rfl, hz, ?_⟩
  refine ⟨3, 2, rfl, by decide, b1 (by decide), b1 (by decide), rfl, rfl, _, _, _, rfl, .inl rfl, ?_⟩
  have e : addAll [((1 : Int) : Rat), Rat.divInt 1 2] 0 = Rat.divInt 3 2 := by decide +kernel
  rw [e, decide_eq_true rfl]
  exact h M2
end
end L02
end PyD
set_option Elab.async false
set_option linter.all false
set_option autoImplicit false
set_option maxRecDepth 100000
set_option maxHeartbeats 4000000
namespace PyD
open PySem PySem.Spec L2
namespace L02
theorem spec (K : PySem.W.Frag) : ∀ i cb, cbs[i]? = some cb → SpecOk (gamOf T hN K) Γ lv i cb := by
  intro i cb h
  have lt : i < 41 := (List.getElem?_eq_some_iff.mp h).1
  match i, h with
  | 0, h => cases h; exact sp0 K
  | 1, h => cases h; exact sp1 K
  | 2, h => cases h; exact sp2 K
  | 3, h => cases h; exact sp3 K
  | 4, h => cases h; exact sp4 K
  | 5, h => cases h; exact sp5 K
  | 6, h => cases h; exact sp6 K
  | 7, h => cases h; exact sp7 K
  | 8, h => cases h; exact sp8 K
  | 9, h => cases h; exact sp9 K
  | 10, h => cases h; exact sp10 K
  | 11, h => cases h; exact sp11 K
  | 12, h => cases h; exact sp12 K
  | 13, h => cases h; exact sp13 K
  | 14, h => cases h; exact sp14 K
  | 15, h => cases h; exact sp15 K
  | 16, h => cases h; exact sp16 K
  | 17, h => cases h; exact sp17 K
  | 18, h => cases h; exact sp18 K
  | 19, h => cases h; exact sp19 K
  | 20, h => cases h; exact sp20 K
  | 21, h => cases h; exact sp21 K
  | 22, h => cases h; exact sp22 K
  | 23, h => cases h; exact sp23 K
  | 24, h => cases h; exact sp24 K
  | 25, h => cases h; exact sp25 K
  | 26, h => cases h; exact sp26 K
  | 27, h => cases h; exact sp27 K
  | 28, h => cases h; exact sp28 K
  | 29, h => cases h; exact sp29 K
  | 30, h => cases h; exact sp30 K
  | 31, h => cases h; exact sp31 K
  | 32, h => cases h; exact sp32 K
  | 33, h => cases h; exact sp33 K
  | 34, h => cases h; exact sp34 K
  | 35, h => cases h; exact sp35 K
  | 36, h => cases h; exact sp36 K
  | 37, h => cases h; exact sp37 K
  | 38, h => cases h; exact sp38 K
  | 39, h => cases h; exact sp39 K
  | 40, h => cases h; exact sp40 K
  | n + 41, h => omega
theorem bind : ∀ i cb, cbs[i]? = some cb → BindH cb (ksA T i) := by
  intro i cb h
  have lt : i < 41 := (List.getElem?_eq_some_iff.mp h).1
  match i, h with
  | 0, h => cases h; exact bd0
  | 1, h => cases h; exact bd1
  | 2, h => cases h; exact bd2
  | 3, h => cases h; exact bd3
  | 4, h => cases h; exact bd4
  | 5, h => cases h; exact bd5
  | 6, h => cases h; exact bd6
  | 7, h => cases h; exact bd7
  | 8, h => cases h; exact bd8
  | 9, h => cases h; exact bd9
  | 10, h => cases h; exact bd10
  | 11, h => cases h; exact bd11
  | 12, h => cases h; exact bd12
  | 13, h => cases h; exact bd13
  | 14, h => cases h; exact bd14
  | 15, h => cases h; exact bd15
  | 16, h => cases h; exact bd16
  | 17, h => cases h; exact bd17
  | 18, h => cases h; exact bd18
  | 19, h => cases h; exact bd19
  | 20, h => cases h; exact bd20
  | 21, h => cases h; exact bd21
  | 22, h => cases h; exact bd22
  | 23, h => cases h; exact bd23
  | 24, h => cases h; exact bd24
  | 25, h => cases h; exact bd25
  | 26, h => cases h; exact bd26
  | 27, h => cases h; exact bd27
  | 28, h => cases h; exact bd28
  | 29, h => cases h; exact bd29
  | 30, h => cases h; exact bd30
  | 31, h => cases h; exact bd31
  | 32, h => cases h; exact bd32
  | 33, h => cases h; exact bd33
  | 34, h => cases h; exact bd34
  | 35, h => cases h; exact bd35
  | 36, h => cases h; exact bd36
  | 37, h => cases h; exact bd37
  | 38, h => cases h; exact bd38
  | 39, h => cases h; exact bd39
  | 40, h => cases h; exact bd40
  | n + 41, h => omega
theorem no : ∀ i, cbs[i]? = none → ∀ ds M K1 E1, ¬ Γ i ds M K1 E1 := by
  intro i h ds M K1 E1 z
  have le : 41 ≤ i := List.getElem?_eq_none_iff.mp h
  unfold Γ at z
  split at z <;> first | omega | exact z
theorem mem : ∀ cb ∈ cbs, cb.d ∈ fn := by
  intro cb hc
  obtain ⟨i, h⟩ := List.mem_iff_getElem?.mp hc
  have lt : i < 41 := (List.getElem?_eq_some_iff.mp h).1
  match i, h with
  | 0, h => cases h; exact List.mem_of_getElem? (i := 0) rfl
  | 1, h => cases h; exact List.mem_of_getElem? (i := 1) rfl
  | 2, h => cases h; exact List.mem_of_getElem? (i := 2) rfl
  | 3, h => cases h; exact List.mem_of_getElem? (i := 3) rfl
  | 4, h => cases h; exact List.mem_of_getElem? (i := 3) rfl
  | 5, h => cases h; exact List.mem_of_getElem? (i := 3) rfl
  | 6, h => cases h; exact List.mem_of_getElem? (i := 4) rfl
  | 7, h => cases h; exact List.mem_of_getElem? (i := 5) rfl
  | 8, h => cases h; exact List.mem_of_getElem? (i := 5) rfl
  | 9, h => cases h; exact List.mem_of_getElem? (i := 6) rfl
  | 10, h => cases h; exact List.mem_of_getElem? (i := 7) rfl
  | 11, h => cases h; exact List.mem_of_getElem? (i := 8) rfl
  | 12, h => cases h; exact List.mem_of_getElem? (i := 9) rfl
  | 13, h => cases h; exact List.mem_of_getElem? (i := 10) rfl
  | 14, h => cases h; exact List.mem_of_getElem? (i := 11) rfl
  | 15, h => cases h; exact List.mem_of_getElem? (i := 12) rfl
  | 16, h => cases h; exact List.mem_of_getElem? (i := 13) rfl
  | 17, h => cases h; exact List.mem_of_getElem? (i := 14) rfl
  | 18, h => cases h; exact List.mem_of_getElem? (i := 15) rfl
  | 19, h => cases h; exact List.mem_of_getElem? (i := 16) rfl
  | 20, h => cases h; exact List.mem_of_getElem? (i := 17) rfl
  | 21, h => cases h; exact List.mem_of_getElem? (i := 18) rfl
  | 22, h => cases h; exact List.mem_of_getElem? (i := 19) rfl
  | 23, h => cases h; exact List.mem_of_getElem? (i := 20) rfl
  | 24, h => cases h; exact List.mem_of_getElem? (i := 21) rfl
  | 25, h => cases h; exact List.mem_of_getElem? (i := 22) rfl
  | 26, h => cases h; exact List.mem_of_getElem? (i := 22) rfl
  | 27, h => cases h; exact List.mem_of_getElem? (i := 23) rfl
  | 28, h => cases h; exact List.mem_of_getElem? (i := 23) rfl
  | 29, h => cases h; exact List.mem_of_getElem? (i := 24) rfl
  | 30, h => cases h; exact List.mem_of_getElem? (i := 25) rfl
  | 31, h => cases h; exact List.mem_of_getElem? (i := 26) rfl
  | 32, h => cases h; exact List.mem_of_getElem? (i := 27) rfl
  | 33, h => cases h; exact List.mem_of_getElem? (i := 28) rfl
  | 34, h => cases h; exact List.mem_of_getElem? (i := 29) rfl
  | 35, h => cases h; exact List.mem_of_getElem? (i := 30) rfl
  | 36, h => cases h; exact List.mem_of_getElem? (i := 31) rfl
  | 37, h => cases h; exact List.mem_of_getElem? (i := 32) rfl
  | 38, h => cases h; exact List.mem_of_getElem? (i := 33) rfl
  | 39, h => cases h; exact List.mem_of_getElem? (i := 34) rfl
  | 40, h => cases h; exact List.mem_of_getElem? (i := 35) rfl
  | n + 41, h => omega
end L02
end PyD
open PySem PySem.W PySem.Calls PyProof.Rows
set_option Elab.async false
set_option maxRecDepth 100000 in
set_option maxHeartbeats 0 in
theorem PySem.Challenge.cw_gangruns_k02_amounts_put_together_holds : PySem.Challenge.rw_gangruns_k02_amounts_put_together.Holds := by
  w_on; o_law
  refine HandSHeadRun.head_any (r := OpenLaw.row PySem.Challenge.rw_gangruns_k02_amounts_put_together) (q := view (OpenLaw.row PySem.Challenge.rw_gangruns_k02_amounts_put_together).prog [27]) (H := PyD.L02.hk) (ob := PyD.L02.ob) (M := 20000) (loose := PyD.L02.loose) (d := HandSHeadRun.topDef (OpenLaw.row PySem.Challenge.rw_gangruns_k02_amounts_put_together).prog 27) (kwd := []) PyD.L02.ob_eq
    (by kernel_rfl) (fun s => by kernel_rfl) PyD.L02.run (by kernel_rfl) (by kernel_rfl) (by kernel_rfl) (by rfl) (by first | assumption | decide +kernel) (by decide +kernel) ⟨rfl, rfl, rfl, rfl, rfl, by decide +kernel⟩ ?hw ?hc
  case hw => w_witness2
  case hc =>
    refine PyD.law_of (l := PySem.Challenge.rw_gangruns_k02_amounts_put_together) (n := 63) (i := 40) (T := PyD.L02.T) (hN := PyD.L02.hN) (fn := PyD.L02.fn) (cbs := PyD.L02.cbs) (lv := PyD.L02.lv) (Γ := PyD.L02.Γ) rfl (by decide) (by kernel_rfl) ⟨rfl, by decide, by decide⟩ PyD.L02.mem PyD.L02.chk PyD.L02.bind PyD.L02.no PyD.L02.spec ?hg rfl (by decide) ?law
    case hg => kernel_rfl
    case law =>
      intro ns _
      exact ⟨rfl, ns, rfl, fun M' => rfl⟩
