import PyProof.Rows.All
import Wide.All
import OpenK.AllK
import Wide.FinOn
import HandS.ForMost
import HandS.ForExc
import HandS.Wide
import HandS.CallSlots
import HandS.Evl
import HandS.TupAny
import HandS.TupLe
import HandS.IsInst
import HandS.WordsDict
import HandS.Small
import HandS.ExcInit
import HandS.ExcField
import HandS.ExcIs
import HandS.TryOnly
import KE.KExcIs
import HandS.Nested
import KE.KExcSuper
import HandS.SetFor
import HandS.Strs
import PyProof.ReprRoads
import PyProof.CallFns
import HandS.EndBits
import PySem.Challenge.RW_guardsums_k20_residues
import KE.RegKSuper
set_option Elab.async false
set_option linter.all false
set_option maxRecDepth 100000
set_option maxHeartbeats 8000000
/-! Gd: data D over the layer's heap; S holds what never changes, Mu what is owned and may change. -/
namespace GD
open PySem PySem.Spec PyProof.Rows L2

/-- plain data; ptr: the address of an owned thing -/
inductive D where
  | non | bl (b : Bool) | int (i : Int) | str (x : Str) | ty (n : String) | ptr (a : Addr)
  | tup (l : List D) | lst (l : List D) | rdl (l : List D) | dic (kvs : List (Key × D)) | obj (C : Addr) (fs : List (Str × D))
  | exn (a : Addr) (d : Option Addr) (C : Addr) (fs : List (Str × D))

/-- the fields of an error whose dict is d -/
def Xv (S : Hp) : Option Addr → List (Str × V) → Prop
  | none, vs => vs = []
  | some dx, vs => S dx = some (.xd vs)
mutual
inductive At (K : PySem.W.Frag) (S : Hp) : D → V → Prop
  | non : At K S .non .non
  | bl (b : Bool) : At K S (.bl b) (.bl b)
  | int (i : Int) : At K S (.int i) (.int i)
  | str (x : Str) : At K S (.str x) (.str x)
  | ty (n : String) : At K S (.ty n) (.ty n)
  | ptr (a : Addr) : At K S (.ptr a) (.ref a)
  | tup {a : Addr} {xs : List V} {l : List D} : SqT K S a xs → AtL K S l xs → At K S (.tup l) (.ref a)
  | lst {a : Addr} {xs : List V} {l : List D} : S a = some (.lst xs) → AtL K S l xs → At K S (.lst l) (.ref a)
  | rdl {a : Addr} {xs : List V} {l : List D} : SqL K S a xs → AtL K S l xs → At K S (.rdl l) (.ref a)
  | dic {a : Addr} {ys : List (Key × V)} {kvs : List (Key × D)} : Rd S a (.dK ys) → AtK K S kvs ys → At K S (.dic kvs) (.ref a)
  | obj {a C dx : Addr} {vs : List (Str × V)} {fs : List (Str × D)} : S a = some (.ins C dx vs) → AtF K S fs vs → At K S (.obj C fs) (.ref a)
  | exn {a C : Addr} {d : Option Addr} {vs : List (Str × V)} {fs : List (Str × D)} : Xv S d vs → AtF K S fs vs → At K S (.exn a d C fs) (.ref a)
inductive AtL (K : PySem.W.Frag) (S : Hp) : List D → List V → Prop
  | nil : AtL K S [] []
  | cons {d : D} {v : V} {ds : List D} {vs : List V} : At K S d v → AtL K S ds vs → AtL K S (d :: ds) (v :: vs)
inductive AtK (K : PySem.W.Frag) (S : Hp) : List (Key × D) → List (Key × V) → Prop
  | nil : AtK K S [] []
  | cons {k : Key} {d : D} {v : V} {ds : List (Key × D)} {vs : List (Key × V)} : At K S d v → AtK K S ds vs → AtK K S ((k, d) :: ds) ((k, v) :: vs)
inductive AtF (K : PySem.W.Frag) (S : Hp) : List (Str × D) → List (Str × V) → Prop
  | nil : AtF K S [] []
  | cons {k : Str} {d : D} {v : V} {ds : List (Str × D)} {vs : List (Str × V)} : At K S d v → AtF K S ds vs → AtF K S ((k, d) :: ds) ((k, v) :: vs)
end

abbrev Ex := Evl.Ex
theorem exT {K : PySem.W.Frag} {H H' : Hp} {a : Addr} {xs : List V} (e : Ex H H') (h : SqT K H a xs) : SqT K H' a xs := Evl.ex_t e h
theorem exL {K : PySem.W.Frag} {H H' : Hp} {a : Addr} {xs : List V} (e : Ex H H') (h : SqL K H a xs) : SqL K H' a xs := Evl.ex_l e h
theorem exRd {H H' : Hp} {a : Addr} {u : HO} (e : Ex H H') (h : Rd H a u) : Rd H' a u := Evl.ex_rd e h

theorem Xv.mono {S S' : Hp} (e : Ex S S') {vs : List (Str × V)} : ∀ {d : Option Addr}, Xv S d vs → Xv S' d vs
  | none, h => h
  | some _, h => e _ _ h
section
variable {K : PySem.W.Frag} {S S' : Hp} (e : Ex S S')
include e
mutual
theorem At.mono : ∀ {d : D} {v : V}, At K S d v → At K S' d v
  | _, _, .non => .non
  | _, _, .bl b => .bl b
  | _, _, .int i => .int i
  | _, _, .str x => .str x
  | _, _, .ty n => .ty n
  | _, _, .ptr a => .ptr a
  | _, _, .tup h l => .tup (exT e h) (AtL.mono l)
  | _, _, .lst h l => .lst (e _ _ h) (AtL.mono l)
  | _, _, .rdl h l => .rdl (exL e h) (AtL.mono l)
  | _, _, .dic h l => .dic (exRd e h) (AtK.mono l)
  | _, _, .obj h l => .obj (e _ _ h) (AtF.mono l)
  | _, _, .exn h l => .exn (Xv.mono e h) (AtF.mono l)
theorem AtL.mono : ∀ {ds : List D} {vs : List V}, AtL K S ds vs → AtL K S' ds vs
  | _, _, .nil => .nil
  | _, _, .cons h t => .cons (At.mono h) (AtL.mono t)
theorem AtK.mono : ∀ {ds : List (Key × D)} {vs : List (Key × V)}, AtK K S ds vs → AtK K S' ds vs
  | _, _, .nil => .nil
  | _, _, .cons h t => .cons (At.mono h) (AtK.mono t)
theorem AtF.mono : ∀ {ds : List (Str × D)} {vs : List (Str × V)}, AtF K S ds vs → AtF K S' ds vs
  | _, _, .nil => .nil
  | _, _, .cons h t => .cons (At.mono h) (AtF.mono t)
end
end

section
variable {K : PySem.W.Frag} {S : Hp}
theorem AtL.len : ∀ {ds : List D} {vs : List V}, AtL K S ds vs → ds.length = vs.length
  | _, _, .nil => rfl
  | _, _, .cons _ t => by simp only [List.length_cons, AtL.len t]
theorem AtK.len : ∀ {ds : List (Key × D)} {vs : List (Key × V)}, AtK K S ds vs → ds.length = vs.length
  | _, _, .nil => rfl
  | _, _, .cons _ t => by simp only [List.length_cons, AtK.len t]
theorem AtF.len : ∀ {ds : List (Str × D)} {vs : List (Str × V)}, AtF K S ds vs → ds.length = vs.length
  | _, _, .nil => rfl
  | _, _, .cons _ t => by simp only [List.length_cons, AtF.len t]
theorem AtL.get : ∀ {ds : List D} {vs : List V} {i : Nat} {d : D}, AtL K S ds vs → ds[i]? = some d → ∃ v, vs[i]? = some v ∧ At K S d v
  | _, _, _, _, .nil, e => by simp at e
  | _, _, 0, d, .cons h _, e => by simp at e; subst e; exact ⟨_, rfl, h⟩
  | _, _, i + 1, d, .cons _ t, e => by
    obtain ⟨v, h1, h2⟩ := AtL.get (i := i) (d := d) t (by simpa using e)
    exact ⟨v, by simpa using h1, h2⟩
theorem AtL.get' : ∀ {ds : List D} {vs : List V} {i : Nat} {v : V}, AtL K S ds vs → vs[i]? = some v → ∃ d, ds[i]? = some d ∧ At K S d v
  | _, _, _, _, .nil, e => by simp at e
  | _, _, 0, v, .cons h _, e => by simp at e; subst e; exact ⟨_, rfl, h⟩
  | _, _, i + 1, v, .cons _ t, e => by
    obtain ⟨d, h1, h2⟩ := AtL.get' (i := i) (v := v) t (by simpa using e)
    exact ⟨d, by simpa using h1, h2⟩
theorem AtL.append : ∀ {ds es : List D} {vs ws : List V}, AtL K S ds vs → AtL K S es ws → AtL K S (ds ++ es) (vs ++ ws)
  | _, _, _, _, .nil, s => s
  | _, _, _, _, .cons r t, s => .cons r (AtL.append t s)
theorem AtL.set {d : D} {v : V} (r : At K S d v) : ∀ {ds : List D} {vs : List V} (i : Nat), AtL K S ds vs → AtL K S (ds.set i d) (vs.set i v)
  | _, _, _, .nil => .nil
  | _, _, 0, .cons _ t => .cons r t
  | _, _, i + 1, .cons q t => .cons q (AtL.set r i t)
theorem AtL.take : ∀ {ds : List D} {vs : List V} (n : Nat), AtL K S ds vs → AtL K S (ds.take n) (vs.take n)
  | _, _, 0, _ => .nil
  | _, _, _ + 1, .nil => .nil
  | _, _, n + 1, .cons r t => .cons r (AtL.take n t)
theorem AtL.drop : ∀ {ds : List D} {vs : List V} (n : Nat), AtL K S ds vs → AtL K S (ds.drop n) (vs.drop n)
  | _, _, 0, r => r
  | _, _, _ + 1, .nil => .nil
  | _, _, n + 1, .cons _ t => AtL.drop n t
theorem AtL.ints : ∀ {ns : List Int} {vs : List V}, AtL K S (ns.map D.int) vs → vs = ns.map V.int
  | [], _, .nil => rfl
  | n :: ns, _, .cons h t => by
    cases h
    rw [AtL.ints (ns := ns) t]
    rfl
theorem AtL.bls : ∀ {ns : List Bool} {vs : List V}, AtL K S (ns.map D.bl) vs → vs = ns.map V.bl
  | [], _, .nil => rfl
  | n :: ns, _, .cons h t => by
    cases h
    rw [AtL.bls (ns := ns) t]
    rfl
theorem AtF.lookup : ∀ {ds : List (Str × D)} {vs : List (Str × V)} {f : Str} {d : D}, AtF K S ds vs → ds.lookup f = some d → ∃ v, vs.lookup f = some v ∧ At K S d v
  | _, _, _, _, .nil, e => by simp at e
  | (k, d0) :: ds, (_, v0) :: vs, f, d, .cons h t, e => by
    rw [List.lookup_cons] at e ⊢
    cases hb : (f == k) with
    | true => rw [hb] at e; cases e; exact ⟨v0, rfl, h⟩
    | false => rw [hb] at e; exact AtF.lookup t e
theorem AtF.lookupN : ∀ {ds : List (Str × D)} {vs : List (Str × V)} {f : Str}, AtF K S ds vs → ds.lookup f = none → vs.lookup f = none
  | _, _, _, .nil, _ => rfl
  | (k, d0) :: ds, (_, v0) :: vs, f, .cons h t, e => by
    rw [List.lookup_cons] at e ⊢
    cases hb : (f == k) with
    | true => rw [hb] at e; cases e
    | false => rw [hb] at e; exact AtF.lookupN t e
end

/-! ### what is owned -/
inductive O where
  | lst (l : List D) | dic (kvs : List (Key × D)) | obj (C : Addr) (fs : List (Str × D))
abbrev Mu := Addr → Option O
def updM (μ : Mu) (a : Addr) (o : O) : Mu := fun b => if b = a then some o else μ b
theorem updM_same {μ : Mu} {a : Addr} {o : O} : updM μ a o a = some o := by unfold updM; rw [if_pos rfl]
theorem updM_ne {μ : Mu} {a b : Addr} {o : O} (h : b ≠ a) : updM μ a o b = μ b := by unfold updM; rw [if_neg h]
theorem updM_updM {μ : Mu} {a : Addr} {o u : O} : updM (updM μ a o) a u = updM μ a u := by
  funext b; unfold updM; split <;> rfl
theorem neM {μ : Mu} {a b : Addr} {o : O} (h : μ a = some o) (h' : μ b = none) : a ≠ b := by
  intro e; subst e; rw [h] at h'; cases h'

def OAt (K : PySem.W.Frag) (S H : Hp) (a : Addr) : O → Prop
  | .lst l => ∃ xs, H a = some (.lst xs) ∧ AtL K S l xs
  | .dic kvs => ∃ ys, H a = some (.dK ys) ∧ AtK K S kvs ys
  | .obj C fs => ∃ dx vs, H a = some (.ins C dx vs) ∧ AtF K S fs vs
theorem OAt.some {K : PySem.W.Frag} {S H : Hp} {a : Addr} {o : O} (h : OAt K S H a o) : ∃ u, H a = some u := by
  cases o with
  | lst l => obtain ⟨_, e, _⟩ := h; exact ⟨_, e⟩
  | dic l => obtain ⟨_, e, _⟩ := h; exact ⟨_, e⟩
  | obj C l => obtain ⟨_, _, e, _⟩ := h; exact ⟨_, e⟩
theorem OAt.mono {K : PySem.W.Frag} {S S' H H' : Hp} {a : Addr} {o : O} (e : Ex S S') (eh : H' a = H a) (h : OAt K S H a o) : OAt K S' H' a o := by
  cases o with
  | lst l => obtain ⟨_, e1, e2⟩ := h; exact ⟨_, eh.trans e1, e2.mono e⟩
  | dic l => obtain ⟨_, e1, e2⟩ := h; exact ⟨_, eh.trans e1, e2.mono e⟩
  | obj C l => obtain ⟨_, _, e1, e2⟩ := h; exact ⟨_, _, eh.trans e1, e2.mono e⟩

/-- S stands in H; a dict may be locked (walked) there -/
def ExH (S H : Hp) : Prop := ∀ a o, S a = some o → H a = some o ∨ ∃ ob kvs, o = .dK kvs ∧ H a = some (.frz ob (.dK kvs))
theorem ExH.trans {S H H' : Hp} (a : ExH S H) (b : Ex H H') : ExH S H' := fun c o h => by
  rcases a c o h with q | ⟨ob, kvs, e, q⟩
  · exact .inl (b _ _ q)
  · exact .inr ⟨ob, kvs, e, b _ _ q⟩
theorem ExH.fresh {S H : Hp} {p : Addr} (e : ExH S H) (h : H p = none) : S p = none := by
  cases q : S p with
  | none => rfl
  | some o =>
    rcases e p o q with z | ⟨_, _, _, z⟩ <;> (rw [h] at z; cases z)
structure Rel (K : PySem.W.Frag) (S : Hp) (μ : Mu) (H : Hp) : Prop where
  ex : ExH S H
  own : ∀ a o, μ a = some o → S a = none ∧ OAt K S H a o

section
variable {K : PySem.W.Frag} {S S' H H' : Hp} {μ μ' : Mu} {a p : Addr} {o : O}
theorem Rel.fresh (r : Rel K S μ H) (h : H p = none) : S p = none ∧ μ p = none := by
  refine ⟨r.ex.fresh h, ?_⟩
  cases e : μ p with
  | none => rfl
  | some o =>
    obtain ⟨u, q⟩ := (r.own p o e).2.some
    rw [h] at q; cases q
/-- a new thing that is owned -/
theorem Rel.newO {u : HO} (r : Rel K S μ H) (h : H p = none) (q : OAt K S (upd H p u) p o) : Rel K S (updM μ p o) (upd H p u) where
  ex := fun b v e => by rw [upd_ne (ne_of_none e (r.fresh h).1)]; exact r.ex b v e
  own := fun b v e => by
    by_cases hb : b = p
    · subst hb
      rw [updM_same] at e; cases e
      exact ⟨(r.fresh h).1, q⟩
    · rw [updM_ne hb] at e
      obtain ⟨h1, h2⟩ := r.own b v e
      exact ⟨h1, h2.mono (Evl.Ex.refl S) (upd_ne hb)⟩
/-- a new thing that never changes -/
theorem Rel.newS {u : HO} (r : Rel K S μ H) (h : H p = none) : Ex S (upd S p u) ∧ Rel K (upd S p u) μ (upd H p u) := by
  have e0 : Ex S (upd S p u) := Evl.Ex.new (r.fresh h).1
  refine ⟨e0, fun b v e => ?_, fun b v e => ?_⟩
  · by_cases hb : b = p
    · subst hb; rw [upd_same] at e ⊢; exact .inl e
    · rw [upd_ne hb] at e ⊢; exact r.ex b v e
  · have hb : b ≠ p := neM e (r.fresh h).2
    obtain ⟨h1, h2⟩ := r.own b v e
    exact ⟨by rw [upd_ne hb]; exact h1, h2.mono e0 (upd_ne hb)⟩
/-- an owned thing is changed -/
theorem Rel.chg {u : HO} {o' : O} (r : Rel K S μ H) (h : μ a = some o) (q : OAt K S (upd H a u) a o') : Rel K S (updM μ a o') (upd H a u) where
  ex := fun b v e => by rw [upd_ne (ne_of_none e (r.own a o h).1)]; exact r.ex b v e
  own := fun b v e => by
    by_cases hb : b = a
    · subst hb
      rw [updM_same] at e; cases e
      exact ⟨(r.own b o h).1, q⟩
    · rw [updM_ne hb] at e
      obtain ⟨h1, h2⟩ := r.own b v e
      exact ⟨h1, h2.mono (Evl.Ex.refl S) (upd_ne hb)⟩
/-- the heap grows where nothing is owned -/
theorem Rel.grow (r : Rel K S μ H) (e : Ex H H') : Rel K S μ H' where
  ex := r.ex.trans e
  own := fun b v q => by
    obtain ⟨h1, h2⟩ := r.own b v q
    obtain ⟨u, hu⟩ := h2.some
    exact ⟨h1, h2.mono (Evl.Ex.refl S) ((e b u hu).trans hu.symm)⟩
/-- owned things are forgotten -/
theorem Rel.drop (r : Rel K S μ H) (h : ∀ a o, μ' a = some o → μ a = some o) : Rel K S μ' H := ⟨r.ex, fun a o e => r.own a o (h a o e)⟩
end

section
variable {K : PySem.W.Frag} {S H : Hp} {a C dx : Addr} {xs : List V}
theorem ExH.tup (e : ExH S H) (h : SqT K S a xs) : SqT K H a xs := by
  rcases h with (h | ⟨o, h⟩) | h
  · rcases e _ _ h with q | ⟨_, _, z, _⟩
    · exact .inl (.inl q)
    · cases z
  · rcases e _ _ h with q | ⟨_, _, z, _⟩
    · exact .inl (.inr ⟨o, q⟩)
    · cases z
  · exact .inr h
theorem ExH.lst (e : ExH S H) (h : S a = some (.lst xs)) : H a = some (.lst xs) := by
  rcases e _ _ h with q | ⟨_, _, z, _⟩
  · exact q
  · cases z
theorem ExH.rdl (e : ExH S H) (h : SqL K S a xs) : SqL K H a xs := by
  rcases h with (h | ⟨o, h⟩) | h
  · exact .inl (.inl (e.lst h))
  · rcases e _ _ h with q | ⟨_, _, z, _⟩
    · exact .inl (.inr ⟨o, q⟩)
    · cases z
  · exact .inr h
theorem ExH.dic {kvs : List (Key × V)} (e : ExH S H) (h : Rd S a (.dK kvs)) : Rd H a (.dK kvs) := by
  rcases h with h | ⟨o, h⟩
  · rcases e _ _ h with q | ⟨ob, kvs, z, q⟩
    · exact .inl q
    · cases z; exact .inr ⟨ob, q⟩
  · rcases e _ _ h with q | ⟨_, _, z, _⟩
    · exact .inr ⟨o, q⟩
    · cases z
theorem ExH.ins {fs : List (Str × V)} (e : ExH S H) (h : S a = some (.ins C dx fs)) : H a = some (.ins C dx fs) := by
  rcases e _ _ h with q | ⟨_, _, z, _⟩
  · exact q
  · cases z
end

/-! ### slots -/
abbrev Rho := List (Option D)
structure Slt (K : PySem.W.Frag) (S : Hp) (σ : L2.St) (ρ : Rho) : Prop where
  len : ρ.length = σ.length
  get : ∀ (i : Nat) (d : D), ρ[i]? = some (some d) → ∃ v, σ[i]? = some (some v) ∧ At K S d v
theorem Slt.mono {K : PySem.W.Frag} {S S' : Hp} {σ : L2.St} {ρ : Rho} (e : Ex S S') (h : Slt K S σ ρ) : Slt K S' σ ρ :=
  ⟨h.len, fun i d q => by obtain ⟨v, h1, h2⟩ := h.get i d q; exact ⟨v, h1, h2.mono e⟩⟩
theorem Slt.set {K : PySem.W.Frag} {S : Hp} {σ : L2.St} {ρ : Rho} {d : D} {v : V} (h : Slt K S σ ρ) (i : Nat) (r : At K S d v) : Slt K S (σ.set i (some v)) (ρ.set i (some d)) := by
  refine ⟨by simp [h.len], fun j d' q => ?_⟩
  by_cases hj : i = j
  · subst hj
    have hl : i < ρ.length := by
      by_cases hl : i < ρ.length
      · exact hl
      · rw [List.getElem?_eq_none (by simpa using hl)] at q; cases q
    rw [List.getElem?_set_self hl] at q
    cases q
    exact ⟨v, List.getElem?_set_self (by rw [← h.len]; exact hl), r⟩
  · rw [List.getElem?_set_ne hj] at q ⊢
    exact h.get j d' q
theorem Slt.setN {K : PySem.W.Frag} {S : Hp} {σ : L2.St} {ρ : Rho} (h : Slt K S σ ρ) (i : Nat) (x : Option V) : Slt K S (σ.set i x) (ρ.set i none) := by
  refine ⟨by simp [h.len], fun j d' q => ?_⟩
  by_cases hj : i = j
  · subst hj
    by_cases hl : i < ρ.length
    · rw [List.getElem?_set_self hl] at q; cases q
    · rw [List.getElem?_eq_none (by simpa using hl)] at q; cases q
  · rw [List.getElem?_set_ne hj] at q ⊢
    exact h.get j d' q

/-! ### readings over data -/
/-- an exception's fields -/
def XAt (K : PySem.W.Frag) (S : Hp) (fs : List (Str × D)) (d : Option Addr) : Prop := ∃ vs, Xv S d vs ∧ AtF K S fs vs
abbrev Th := Addr → List (Str × D) → Mu → Prop
abbrev Kd := D → Mu → Prop
abbrev GE := Rho → Mu → Th → Kd → Prop
abbrev GT := Rho → Mu → Th → (Bool → Mu → Prop) → Prop
abbrev GA := Rho → Mu → Th → (List D → Mu → Prop) → Prop
structure En where
  nx : Rho → Mu → Prop
  rt : Kd
  bk : Rho → Mu → Prop
  ct : Rho → Mu → Prop
  ex : Rho → Th
abbrev GS := En → Rho → Mu → Prop

/-- what the exceptions are to reach -/
def XW (K : PySem.W.Frag) (W : WX) (σ : L2.St) (S : Hp) (Θ : Th) : Prop := ∀ C fs μ' S' H' d, Θ C fs μ' → XAt K S' fs d → Ex S S' → Rel K S' μ' H' → W (.ref C) d σ H'
theorem XW.mono {K : PySem.W.Frag} {W : WX} {σ : L2.St} {S S' : Hp} {Θ : Th} (h : XW K W σ S Θ) (e : Ex S S') : XW K W σ S' Θ :=
  fun C fs μ' S2 H' d t x e2 r => h C fs μ' S2 H' d t x (e.trans e2) r
def KW (K : PySem.W.Frag) (S : Hp) (Φ : Kd) (Q : VK) : Prop := ∀ v d μ' S' H', Φ d μ' → At K S' d v → Ex S S' → Rel K S' μ' H' → Q v H'
theorem KW.mono {K : PySem.W.Frag} {S S' : Hp} {Φ : Kd} {Q : VK} (h : KW K S Φ Q) (e : Ex S S') : KW K S' Φ Q :=
  fun v d μ' S2 H' t x e2 r => h v d μ' S2 H' t x (e.trans e2) r
def KA (K : PySem.W.Frag) (S : Hp) (Φ : List D → Mu → Prop) (Q : List V → Hp → Prop) : Prop := ∀ vs ds μ' S' H', Φ ds μ' → AtL K S' ds vs → Ex S S' → Rel K S' μ' H' → Q vs H'
def KB (K : PySem.W.Frag) (S : Hp) (Φ : Bool → Mu → Prop) (Q : Bool → Hp → Prop) : Prop := ∀ b μ' S' H', Φ b μ' → Ex S S' → Rel K S' μ' H' → Q b H'

def rdE (K : PySem.W.Frag) (W : WX) (t : GE) : TE := fun σ H Q => ∃ S μ ρ Θ Φ, Rel K S μ H ∧ Slt K S σ ρ ∧ t ρ μ Θ Φ ∧ XW K W σ S Θ ∧ KW K S Φ Q
def rdT (K : PySem.W.Frag) (W : WX) (t : GT) : TT := fun σ H Q => ∃ S μ ρ Θ Φ, Rel K S μ H ∧ Slt K S σ ρ ∧ t ρ μ Θ Φ ∧ XW K W σ S Θ ∧ KB K S Φ Q
def rdA (K : PySem.W.Frag) (W : WX) (t : GA) : TA := fun σ H Q => ∃ S μ ρ Θ Φ, Rel K S μ H ∧ Slt K S σ ρ ∧ t ρ μ Θ Φ ∧ XW K W σ S Θ ∧ KA K S Φ Q
structure EW (K : PySem.W.Frag) (W : WX) (S : Hp) (E : En) (Z : Ends) : Prop where
  nx : ∀ ρ μ' σ' S' H', E.nx ρ μ' → Ex S S' → Rel K S' μ' H' → Slt K S' σ' ρ → Z.nx σ' H'
  rt : KW K S E.rt Z.rt
  bk : ∀ ρ μ' σ' S' H', E.bk ρ μ' → Ex S S' → Rel K S' μ' H' → Slt K S' σ' ρ → Z.bk σ' H'
  ct : ∀ ρ μ' σ' S' H', E.ct ρ μ' → Ex S S' → Rel K S' μ' H' → Slt K S' σ' ρ → Z.ct σ' H'
  ex : ∀ ρ σ' S', Ex S S' → Slt K S' σ' ρ → XW K W σ' S' (E.ex ρ)
theorem EW.mono {K : PySem.W.Frag} {W : WX} {S S' : Hp} {E : En} {Z : Ends} (h : EW K W S E Z) (e : Ex S S') : EW K W S' E Z :=
  ⟨fun ρ μ' σ' S2 H' q e2 => h.nx ρ μ' σ' S2 H' q (e.trans e2), h.rt.mono e, fun ρ μ' σ' S2 H' q e2 => h.bk ρ μ' σ' S2 H' q (e.trans e2),
    fun ρ μ' σ' S2 H' q e2 => h.ct ρ μ' σ' S2 H' q (e.trans e2), fun ρ σ' S2 e2 => h.ex ρ σ' S2 (e.trans e2)⟩
def rdS (K : PySem.W.Frag) (W : WX) (t : GS) : TS := fun Z σ H => ∃ S μ ρ E, Rel K S μ H ∧ Slt K S σ ρ ∧ t E ρ μ ∧ EW K W S E Z

structure SE (X : Cx) (e : Expr) (t : GE) : Prop where
  pe : ∀ W, Takes X W → PE X e (rdE X.K W t)
structure ST (X : Cx) (e : Expr) (t : GT) : Prop where
  pt : ∀ W, Takes X W → PT X e (rdT X.K W t)
structure SA (X : Cx) (es : List Expr) (t : GA) : Prop where
  pa : ∀ W, Takes X W → PA X es (rdA X.K W t)
structure SS (X : Cx) (st : Stmt) (t : GS) : Prop where
  ps : ∀ W, Takes X W → PS X st (rdS X.K W t)
structure SSs (X : Cx) (st : List Stmt) (t : GS) : Prop where
  pss : ∀ W, Takes X W → PSs X st (rdS X.K W t)
theorem PE.imp {X : Cx} {e : Expr} {t u : TE} (h : PE X e t) (i : ∀ σ H Q, u σ H Q → t σ H Q) : PE X e u := ⟨fun pins s σ H Q I q => h.run pins s σ H Q I (i σ H Q q)⟩
theorem PT.imp {X : Cx} {e : Expr} {t u : TT} (h : PT X e t) (i : ∀ σ H Q, u σ H Q → t σ H Q) : PT X e u := ⟨fun pins s σ H Q I q => h.run pins s σ H Q I (i σ H Q q)⟩
theorem PA.imp {X : Cx} {e : List Expr} {t u : TA} (h : PA X e t) (i : ∀ σ H Q, u σ H Q → t σ H Q) : PA X e u := ⟨fun pos pins s σ H Q I q => h.run pos pins s σ H Q I (i σ H Q q)⟩
theorem PS.imp {X : Cx} {e : Stmt} {t u : TS} (h : PS X e t) (i : ∀ Z σ H, u Z σ H → t Z σ H) : PS X e u := ⟨fun pins s σ H Z I q => h.run pins s σ H Z I (i Z σ H q)⟩
theorem PSs.imp {X : Cx} {e : List Stmt} {t u : TS} (h : PSs X e t) (i : ∀ Z σ H, u Z σ H → t Z σ H) : PSs X e u := ⟨fun pins s σ H Z I q => h.run pins s σ H Z I (i Z σ H q)⟩
end GD

/-! Gd2: expressions -/
namespace GD
open PySem PySem.Spec PyProof.Rows L2

def LIM : Nat := 16000000
theorem lim_line {n : Nat} (h : n ≤ LIM) : n ≤ sizeLine := Nat.le_trans h (by decide)

/-! ### lists, sequences seen from the data -/
def IsL (μ : Mu) : D → List D → Prop
  | .lst l', l => l' = l
  | .ptr p, l => μ p = some (.lst l)
  | _, _ => False
def IsQ (μ : Mu) : D → List D → Prop
  | .tup l', l => l' = l
  | .lst l', l => l' = l
  | .rdl l', l => l' = l
  | .ptr p, l => μ p = some (.lst l)
  | _, _ => False
/-- a list: readable -/
def IsR (μ : Mu) : D → List D → Prop
  | .lst l', l => l' = l
  | .rdl l', l => l' = l
  | .ptr p, l => μ p = some (.lst l)
  | _, _ => False
section
variable {K : PySem.W.Frag} {S S' H : Hp} {μ : Mu} {d : D} {l : List D} {x : V} {Φ : Kd} {Q : VK}
theorem IsL.at' (r : Rel K S μ H) (h : At K S d x) (q : IsL μ d l) : ∃ a xs, x = .ref a ∧ H a = some (.lst xs) ∧ AtL K S l xs := by
  cases h with
  | lst e t => cases q; exact ⟨_, _, rfl, r.ex.lst e, t⟩
  | ptr a =>
    obtain ⟨_, xs, e, t⟩ := r.own _ _ q
    exact ⟨_, _, rfl, e, t⟩
  | _ => cases q
theorem IsR.at' (r : Rel K S μ H) (h : At K S d x) (q : IsR μ d l) : ∃ a xs, x = .ref a ∧ SqL K H a xs ∧ AtL K S l xs := by
  cases h with
  | lst e t => cases q; exact ⟨_, _, rfl, SqL.of (r.ex.lst e), t⟩
  | rdl e t => cases q; exact ⟨_, _, rfl, r.ex.rdl e, t⟩
  | ptr a =>
    obtain ⟨_, xs, e, t⟩ := r.own _ _ q
    exact ⟨_, _, rfl, SqL.of e, t⟩
  | _ => cases q
theorem IsQ.at' (r : Rel K S μ H) (h : At K S d x) (q : IsQ μ d l) : ∃ a xs, x = .ref a ∧ (SqL K H a xs ∨ SqT K H a xs) ∧ AtL K S l xs := by
  cases h with
  | tup e t => cases q; exact ⟨_, _, rfl, .inr (r.ex.tup e), t⟩
  | lst e t => cases q; exact ⟨_, _, rfl, .inl (SqL.of (r.ex.lst e)), t⟩
  | rdl e t => cases q; exact ⟨_, _, rfl, .inl (r.ex.rdl e), t⟩
  | ptr a =>
    obtain ⟨_, xs, e, t⟩ := r.own _ _ q
    exact ⟨_, _, rfl, .inl (SqL.of e), t⟩
  | _ => cases q

/-- a new list: owned, or never to be changed -/
def NewL (l : List D) (μ : Mu) (Φ : Kd) : Prop := Φ (.lst l) μ ∨ ∀ p, μ p = none → Φ (.ptr p) (updM μ p (.lst l))
theorem NewL.fr (n : Φ (.lst l) μ) : NewL l μ Φ := .inl n
theorem NewL.ow (n : ∀ p, μ p = none → Φ (.ptr p) (updM μ p (.lst l))) : NewL l μ Φ := .inr n
theorem newL {xs : List V} {p : Addr} (r : Rel K S μ H) (t : AtL K S l xs) (n : NewL l μ Φ) (k : KW K S Φ Q) (hp : H p = none) : Q (.ref p) (upd H p (.lst xs)) := by
  rcases n with n | n
  · obtain ⟨e, r'⟩ := r.newS (u := .lst xs) hp
    exact k _ _ _ _ _ n (.lst upd_same (t.mono e)) e r'
  · exact k _ _ _ _ _ (n p (r.fresh hp).2) (.ptr p) (Evl.Ex.refl S) (r.newO hp ⟨xs, upd_same, t⟩)
theorem newT {xs : List V} {p : Addr} (r : Rel K S μ H) (t : AtL K S l xs) (n : Φ (.tup l) μ) (k : KW K S Φ Q) (hp : H p = none) : Q (.ref p) (upd H p (.tup xs)) := by
  obtain ⟨e, r'⟩ := r.newS (u := .tup xs) hp
  exact k _ _ _ _ _ n (.tup (SqT.of upd_same) (t.mono e)) e r'
theorem KW.same {v : V} (k : KW K S Φ Q) (r : Rel K S μ H) (a : At K S d v) (h : Φ d μ) : Q v H := k v d μ S H h a (Evl.Ex.refl S) r
end

/-! ### names, constants -/
section
variable {X : Cx} {e a b : Expr} {es : List Expr} {t ta tb : GE} {tr : GA} {pos : Pos}
def gVar (i : Nat) : GE := fun ρ μ _ Φ => match ρ[i]? with | some (some d) => Φ d μ | _ => False
def gC (d : D) : GE := fun _ μ _ Φ => Φ d μ
theorem se_var (i : Nat) {x : Str} (hN : X.N[i]? = some x := by rfl) (hv : Vis X.env.scope x := by first | exact Or.inl rfl | exact Or.inr (Or.inl rfl) | exact Or.inr (Or.inr rfl)) (hd : (x == ("__debug__" : Str)) = false := by decide)
    (hcd : (x == ("__classdict__" : Str)) = false := by decide) : SE X (.Name x pos) (gVar i) := ⟨fun W tk => PE.imp (pv i hN hv hd hcd) fun σ H Q h => by
  obtain ⟨S, μ, ρ, Θ, Φ, r, en, q, _, k⟩ := h
  unfold gVar at q
  split at q
  · rename_i d e
    obtain ⟨v, h1, h2⟩ := en.get i d e
    exact ⟨v, h1, k.same r h2 q⟩
  · cases q⟩
theorem se_c {d : D} {v : V} (h : PE X e (tC v)) (r : ∀ K S, At K S d v) : SE X e (gC d) := ⟨fun W tk => PE.imp h fun σ H Q h => by
  obtain ⟨S, μ, ρ, Θ, Φ, rl, en, q, _, k⟩ := h
  exact k.same rl (r _ _) q⟩
theorem se_int {i j} : SE X (.Constant (.int i) j pos) (gC (.int i)) := se_c pe_int fun _ _ => .int _
theorem se_bl {i j} : SE X (.Constant (.bool i) j pos) (gC (.bl i)) := se_c pe_bl fun _ _ => .bl _
theorem se_str {i j} : SE X (.Constant (.str i) j pos) (gC (.str i)) := se_c pe_str fun _ _ => .str _
theorem se_non {j} : SE X (.Constant .none j pos) (gC .non) := se_c pe_non fun _ _ => .non

/-! ### argument lists, displays -/
def gNil : GA := fun _ μ _ Φ => Φ [] μ
def gCons (t : GE) (u : GA) : GA := fun ρ μ Θ Φ => t ρ μ Θ fun d μ1 => u ρ μ1 Θ fun ds μ2 => Φ (d :: ds) μ2
theorem sa_nil : SA X [] gNil := ⟨fun W tk => PA.imp pa_nil fun σ H Q h => by
  obtain ⟨S, μ, ρ, Θ, Φ, r, en, q, _, k⟩ := h
  exact k _ _ _ _ _ q .nil (Evl.Ex.refl S) r⟩
theorem sa_cons (ha : SE X e t) (hr : SA X es tr) (hs : starEach (e :: es) X.env = (false, eval e X.env) :: starEach es X.env := by rfl) : SA X (e :: es) (gCons t tr) := ⟨fun W tk => PA.imp (pa_cons (ha.pe W tk) (hr.pa W tk) hs) fun σ H Q h => by
  obtain ⟨S, μ, ρ, Θ, Φ, r, en, q, xw, k⟩ := h
  exact ⟨S, μ, ρ, Θ, _, r, en, q, xw, fun v d μ1 S1 H1 q1 a1 e1 r1 => ⟨S1, μ1, ρ, Θ, _, r1, en.mono e1, q1, xw.mono e1, fun vs ds μ2 S2 H2 q2 a2 e2 r2 => k _ _ _ _ _ q2 (.cons (a1.mono e2) a2) (e1.trans e2) r2⟩⟩⟩
def gTup (n : Nat) (t : GA) : GE := fun ρ μ Θ Φ => t ρ μ Θ fun ds μ1 => Φ (.tup ds) μ1
theorem SA.len {es : List Expr} {tr : GA} {n : Nat} (h : SA X es tr) : True := trivial
/-- a display of n items -/
def gTupN (t : GA) : GE := fun ρ μ Θ Φ => t ρ μ Θ fun ds μ1 => ds.length ≤ LIM ∧ Φ (.tup ds) μ1
theorem se_tup {x1} (h : SA X es tr) : SE X (.Tuple es x1 pos) (gTupN tr) := ⟨fun W tk => PE.imp (pe_tup (h.pa W tk)) fun σ H Q h => by
  obtain ⟨S, μ, ρ, Θ, Φ, r, en, q, xw, k⟩ := h
  exact ⟨S, μ, ρ, Θ, _, r, en, q, xw, fun vs ds μ1 S1 H1 q1 a1 e1 r1 => ⟨lim_line (by rw [← a1.len]; exact q1.1), fun p hp => newT r1 a1 q1.2 (k.mono e1) hp⟩⟩⟩
def gLst (t : GA) : GE := fun ρ μ Θ Φ => t ρ μ Θ fun ds μ1 => ds.length ≤ LIM ∧ NewL ds μ1 Φ
theorem se_lst (h : SA X es tr) : SE X (.List es pos) (gLst tr) := ⟨fun W tk => PE.imp (pe_lst (h.pa W tk)) fun σ H Q h => by
  obtain ⟨S, μ, ρ, Θ, Φ, r, en, q, xw, k⟩ := h
  exact ⟨S, μ, ρ, Θ, _, r, en, q, xw, fun vs ds μ1 S1 H1 q1 a1 e1 r1 => ⟨lim_line (by rw [← a1.len]; exact q1.1), fun p hp => newL r1 a1 q1.2 (k.mono e1) hp⟩⟩⟩

/-! ### two-place operations -/
abbrev R2D := D → D → Mu → Kd → Prop
def RD (K : PySem.W.Frag) (r : R2) (R : R2D) : Prop := ∀ S μ H x y d1 d2 Φ Q, Rel K S μ H → At K S d1 x → At K S d2 y → R d1 d2 μ Φ → KW K S Φ Q → r x y H Q
def gOp (R : R2D) (ta tb : GE) : GE := fun ρ μ Θ Φ => ta ρ μ Θ fun d1 μ1 => tb ρ μ1 Θ fun d2 μ2 => R d1 d2 μ2 Φ
theorem rd_two {K : PySem.W.Frag} {W : WX} {r : R2} {R : R2D} (hr : RD K r R) {σ : L2.St} {H : Hp} {Q : VK} (h : rdE K W (gOp R ta tb) σ H Q) : tOp r (rdE K W ta) (rdE K W tb) σ H Q := by
  obtain ⟨S, μ, ρ, Θ, Φ, rl, en, q, xw, k⟩ := h
  exact ⟨S, μ, ρ, Θ, _, rl, en, q, xw, fun v d μ1 S1 H1 q1 a1 e1 r1 => ⟨S1, μ1, ρ, Θ, _, r1, en.mono e1, q1, xw.mono e1, fun v2 d2 μ2 S2 H2 q2 a2 e2 r2 =>
    hr S2 μ2 H2 v v2 d d2 Φ Q r2 (a1.mono e2) a2 q2 (k.mono (e1.trans e2))⟩⟩
theorem se_op {op : Operator} {r : R2} {R : R2D} (ho : OpR X (binaryOp op) r) (hr : RD X.K r R) (ha : SE X a ta) (hb : SE X b tb) : SE X (.BinOp a op b pos) (gOp R ta tb) :=
  ⟨fun W tk => PE.imp (pe_op ho (ha.pe W tk) (hb.pe W tk)) fun σ H Q h => rd_two hr h⟩
theorem se_cmp {op : CmpOp} {r : R2} {R : R2D} (ho : OpR X (compareOp op) r) (hr : RD X.K r R) (ha : SE X a ta) (hb : SE X b tb) (hm : behindInMarks op b = false) : SE X (.Compare a [op] [b] pos) (gOp R ta tb) :=
  ⟨fun W tk => PE.imp (pe_cmpR ho (ha.pe W tk) (hb.pe W tk) hm) fun σ H Q h => rd_two hr h⟩
/-- a value that is True or False, as a test -/
def gTest (t : GE) : GT := fun ρ μ Θ Φ => t ρ μ Θ fun d μ1 => match d with | .bl b => Φ b μ1 | _ => False
theorem rd_test {K : PySem.W.Frag} {W : WX} {tt : TE} {σ : L2.St} {H : Hp} {Q : Bool → Hp → Prop} (hi : ∀ Q', rdE K W t σ H Q' → tt σ H Q') (h : rdT K W (gTest t) σ H Q) : tTest tt σ H Q := by
  obtain ⟨S, μ, ρ, Θ, Φ, rl, en, q, xw, k⟩ := h
  refine hi _ ⟨S, μ, ρ, Θ, _, rl, en, q, xw, fun v d μ1 S1 H1 q1 a1 e1 r1 => ?_⟩
  cases a1 with
  | bl b => exact ⟨b, rfl, k _ _ _ _ q1 e1 r1⟩
  | _ => cases q1
theorem st_cmp {op : CmpOp} {r : R2} {R : R2D} (ho : OpR X (compareOp op) r) (hr : RD X.K r R) (ha : SE X a ta) (hb : SE X b tb) (hm : behindInMarks op b = false) : ST X (.Compare a [op] [b] pos) (gTest (gOp R ta tb)) :=
  ⟨fun W tk => PT.imp (pt_cmpR ho (ha.pe W tk) (hb.pe W tk) hm) fun σ H Q h => rd_test (fun Q' q => rd_two hr q) h⟩

def IBI (f : Int → Int → D) : R2D := fun d1 d2 μ Φ => match d1, d2 with | .int i, .int j => Φ (f i j) μ | _, _ => False
theorem rd_I0 {K : PySem.W.Frag} {f : Int → Int → D} {g : Int → Int → V} (h : ∀ K S i j, At K S (f i j) (g i j)) : RD K (rI0 g) (IBI f) := fun S μ H x y d1 d2 Φ Q r a1 a2 q k => by
  cases a1 with
  | int i =>
    cases a2 with
    | int j => exact ⟨i, j, rfl, rfl, k.same r (h _ _ _ _) q⟩
    | _ => cases q
  | _ => cases q
/-- with a side condition -/
def IBC (C : Int → Int → Prop) (f : Int → Int → D) : R2D := fun d1 d2 μ Φ => match d1, d2 with | .int i, .int j => C i j ∧ Φ (f i j) μ | _, _ => False
theorem rd_I {K : PySem.W.Frag} {C : Int → Int → Prop} {f : Int → Int → D} {g : Int → Int → V} (h : ∀ K S i j, At K S (f i j) (g i j)) : RD K (rI C g) (IBC C f) := fun S μ H x y d1 d2 Φ Q r a1 a2 q k => by
  cases a1 with
  | int i =>
    cases a2 with
    | int j => exact ⟨i, j, rfl, rfl, q.1, k.same r (h _ _ _ _) q.2⟩
    | _ => cases q
  | _ => cases q
abbrev subD : R2D := IBI fun i j => .int (i - j)
abbrev mulD : R2D := IBC CMulW fun i j => .int (i * j)
def CPos (_ j : Int) : Prop := 0 < j
abbrev modD : R2D := IBC CPos fun i j => .int (i % j)
abbrev divD : R2D := IBC CDivW fun i j => .int (i / j)
abbrev powD : R2D := IBC CPow fun i j => .int (i ^ j.toNat)
abbrev ltD : R2D := IBI fun i j => .bl (decide (i < j))
abbrev leD : R2D := IBI fun i j => .bl (decide (i ≤ j))
abbrev gtD : R2D := IBI fun i j => .bl (decide (j < i))
abbrev geD : R2D := IBI fun i j => .bl (decide (j ≤ i))
theorem se_sub (ha : SE X a ta) (hb : SE X b tb) : SE X (.BinOp a .Sub b pos) (gOp subD ta tb) := se_op op_sub (rd_I0 fun _ _ _ _ => .int _) ha hb
theorem se_mulI (ha : SE X a ta) (hb : SE X b tb) : SE X (.BinOp a .Mult b pos) (gOp mulD ta tb) := se_op op_mulW (rd_I fun _ _ _ _ => .int _) ha hb
theorem se_mod (ha : SE X a ta) (hb : SE X b tb) : SE X (.BinOp a .Mod b pos) (gOp modD ta tb) := se_op op_mod (rd_I fun _ _ _ _ => .int _) ha hb
theorem se_div (ha : SE X a ta) (hb : SE X b tb) : SE X (.BinOp a .FloorDiv b pos) (gOp divD ta tb) := se_op op_fdivW (rd_I fun _ _ _ _ => .int _) ha hb
theorem se_pow (ha : SE X a ta) (hb : SE X b tb) : SE X (.BinOp a .Pow b pos) (gOp powD ta tb) := se_op op_pow (rd_I fun _ _ _ _ => .int _) ha hb
theorem se_lt (ha : SE X a ta) (hb : SE X b tb) : SE X (.Compare a [.Lt] [b] pos) (gOp ltD ta tb) := se_cmp op_lt (rd_I0 fun _ _ _ _ => .bl _) ha hb (nomark _)
theorem se_le (ha : SE X a ta) (hb : SE X b tb) : SE X (.Compare a [.LtE] [b] pos) (gOp leD ta tb) := se_cmp op_le (rd_I0 fun _ _ _ _ => .bl _) ha hb (nomark _)
theorem se_gt (ha : SE X a ta) (hb : SE X b tb) : SE X (.Compare a [.Gt] [b] pos) (gOp gtD ta tb) := se_cmp op_gt (rd_I0 fun _ _ _ _ => .bl _) ha hb (nomark _)
theorem se_ge (ha : SE X a ta) (hb : SE X b tb) : SE X (.Compare a [.GtE] [b] pos) (gOp geD ta tb) := se_cmp op_ge (rd_I0 fun _ _ _ _ => .bl _) ha hb (nomark _)
theorem st_lt (ha : SE X a ta) (hb : SE X b tb) : ST X (.Compare a [.Lt] [b] pos) (gTest (gOp ltD ta tb)) := st_cmp op_lt (rd_I0 fun _ _ _ _ => .bl _) ha hb (nomark _)
theorem st_le (ha : SE X a ta) (hb : SE X b tb) : ST X (.Compare a [.LtE] [b] pos) (gTest (gOp leD ta tb)) := st_cmp op_le (rd_I0 fun _ _ _ _ => .bl _) ha hb (nomark _)
theorem st_gt (ha : SE X a ta) (hb : SE X b tb) : ST X (.Compare a [.Gt] [b] pos) (gTest (gOp gtD ta tb)) := st_cmp op_gt (rd_I0 fun _ _ _ _ => .bl _) ha hb (nomark _)
theorem st_ge (ha : SE X a ta) (hb : SE X b tb) : ST X (.Compare a [.GtE] [b] pos) (gTest (gOp geD ta tb)) := st_cmp op_ge (rd_I0 fun _ _ _ _ => .bl _) ha hb (nomark _)

/-! ### + : ints, tuples, lists, texts -/
def addD : R2D := fun d1 d2 μ Φ => match d1, d2 with
  | .int i, .int j => Φ (.int (i + j)) μ
  | .int i, .bl b => Φ (.int (i + b2i b)) μ
  | .tup l, .tup m => l.length + m.length ≤ LIM ∧ Φ (.tup (l ++ m)) μ
  | .str x, .str y => x.length + y.length ≤ LIM ∧ Φ (.str (x ++ y)) μ
  | d1, d2 => ∃ l m, IsL μ d1 l ∧ IsL μ d2 m ∧ l.length + m.length ≤ LIM ∧ NewL (l ++ m) μ Φ
abbrev rAddS : R2 := fun x y H Q => ∃ i j, x = .str i ∧ y = .str j ∧ i.length + j.length ≤ sizeLine ∧ Q (.str (i ++ j)) H
abbrev rAddB : R2 := fun x y H Q => ∃ i k, x = .int i ∧ y = .bl k ∧ Q (.int (i + b2i k)) H
abbrev rAddU (K : PySem.W.Frag) : R2 := fun x y H Q => rI0 (fun i j => .int (i + j)) x y H Q ∨ rCatA K x y H Q ∨ rCat x y H Q ∨ rAddS x y H Q ∨ rAddB x y H Q
theorem op_addU : OpR X (binaryOp .Add) (rAddU X.K) := op_add.or (op_catA.or (op_cat.or (op_add_str.or op_add_ib)))
theorem atL_nil {K : PySem.W.Frag} {S : Hp} {l : List D} (h : AtL K S l []) : l = [] := by cases h; rfl
theorem rd_add {K : PySem.W.Frag} : RD K (rAddU K) addD := fun S μ H x y d1 d2 Φ Q r a1 a2 q k => by
  have lists : (∃ l m, IsL μ d1 l ∧ IsL μ d2 m ∧ l.length + m.length ≤ LIM ∧ NewL (l ++ m) μ Φ) → rAddU K x y H Q := by
    rintro ⟨l, m, h1, h2, hz, n⟩
    obtain ⟨p, xs, rfl, e1, t1⟩ := h1.at' r a1
    obtain ⟨p2, ys, rfl, e2, t2⟩ := h2.at' r a2
    exact .inr (.inr (.inl ⟨p, p2, xs, ys, rfl, rfl, e1, e2, lim_line (by rw [← t1.len, ← t2.len]; exact hz), fun p hp => newL r (t1.append t2) n k hp⟩))
  cases a1 with
  | int i =>
    cases a2 with
    | int j => exact .inl ⟨i, j, rfl, rfl, k.same r (.int _) q⟩
    | bl b => exact .inr (.inr (.inr (.inr ⟨i, b, rfl, rfl, k.same r (.int _) q⟩)))
    | _ => exact lists q
  | tup e1 t1 =>
    cases a2 with
    | tup e2 t2 =>
      obtain ⟨hz, q⟩ := q
      refine .inr (.inl ⟨_, _, _, _, rfl, rfl, r.ex.tup e1, r.ex.tup e2, lim_line (by rw [← t1.len, ← t2.len]; exact hz), fun z => ?_, fun _ z => ?_, fun _ _ p hp => newT r (t1.append t2) q k hp⟩)
      · subst z
        have := atL_nil t1
        subst this
        exact k.same r (.tup e2 t2) q
      · subst z
        have := atL_nil t2
        subst this
        rw [List.append_nil] at q
        exact k.same r (.tup e1 t1) q
    | _ => exact lists q
  | str s =>
    cases a2 with
    | str s' => exact .inr (.inr (.inr (.inl ⟨s, s', rfl, rfl, lim_line q.1, k.same r (.str _) q.2⟩)))
    | _ => exact lists q
  | _ => exact lists q
theorem se_add (ha : SE X a ta) (hb : SE X b tb) : SE X (.BinOp a .Add b pos) (gOp addD ta tb) := se_op op_addU rd_add ha hb
end
end GD

/-! Gd3: tests, comparisons, subscripts, built-ins -/
namespace GD
open PySem PySem.Spec PyProof.Rows L2

section
variable {X : Cx} {e a b c : Expr} {es rest : List Expr} {t ta tb tc : GE} {tr : GA} {pos : Pos} {u v : GT}

/-! ### one-place operations -/
def RD1 (K : PySem.W.Frag) (r : V → Hp → VK → Prop) (R : D → Mu → Kd → Prop) : Prop := ∀ S μ H x d Φ Q, Rel K S μ H → At K S d x → R d μ Φ → KW K S Φ Q → r x H Q
def gUn (R : D → Mu → Kd → Prop) (t : GE) : GE := fun ρ μ Θ Φ => t ρ μ Θ fun d μ1 => R d μ1 Φ
theorem se_un {op : UnaryOp} {r : V → Hp → VK → Prop} {R : D → Mu → Kd → Prop} (ho : UnR X (unaryOp op) r) (hr : RD1 X.K r R) (ha : SE X a ta) : SE X (.UnaryOp op a pos) (gUn R ta) :=
  ⟨fun W tk => PE.imp (pe_un ho (ha.pe W tk)) fun σ H Q h => by
    obtain ⟨S, μ, ρ, Θ, Φ, r, en, q, xw, k⟩ := h
    exact ⟨S, μ, ρ, Θ, _, r, en, q, xw, fun v d μ1 S1 H1 q1 a1 e1 r1 => hr S1 μ1 H1 v d Φ Q r1 a1 q1 (k.mono e1)⟩⟩
def negD : D → Mu → Kd → Prop := fun d μ Φ => match d with | .int i => Φ (.int (-i)) μ | _ => False
theorem se_neg (ha : SE X a ta) : SE X (.UnaryOp .USub a pos) (gUn negD ta) := se_un un_neg (fun S μ H x d Φ Q r a1 q k => by
  cases a1 with
  | int i => exact ⟨i, rfl, k.same r (.int _) q⟩
  | _ => cases q) ha

/-! ### truth -/
def TruD (d : D) (μ : Mu) (k : Bool → Prop) : Prop := match d with
  | .non => k false
  | .bl b => k b
  | .int i => k (i != 0)
  | .str s => s.length ≤ LIM ∧ k ((s.length : Int) != 0)
  | .tup l => k (!l.isEmpty)
  | .lst l => k (!l.isEmpty)
  | .rdl l => k (!l.isEmpty)
  | .ptr p => (∃ l, μ p = some (.lst l) ∧ k (!l.isEmpty)) ∨ ∃ l, μ p = some (.dic l) ∧ k (!l.isEmpty)
  | _ => False
theorem empL {K : PySem.W.Frag} {S : Hp} {l : List D} {xs : List V} (h : AtL K S l xs) : l.isEmpty = xs.isEmpty := by cases h <;> rfl
theorem empK {K : PySem.W.Frag} {S : Hp} {l : List (Key × D)} {xs : List (Key × V)} (h : AtK K S l xs) : l.isEmpty = xs.isEmpty := by cases h <;> rfl
theorem tru_at {K : PySem.W.Frag} {S H : Hp} {μ : Mu} {d : D} {x : V} {k : Bool → Prop} (r : Rel K S μ H) (h : At K S d x) (q : TruD d μ k) : ∃ b, TruV K x H b ∧ k b := by
  cases h with
  | non => exact ⟨false, rfl, q⟩
  | bl b => exact ⟨b, rfl, q⟩
  | int i => exact ⟨_, rfl, q⟩
  | str s => exact ⟨_, ⟨lim_line q.1, rfl⟩, q.2⟩
  | tup e t => exact ⟨_, .inr (.inl ⟨_, r.ex.tup e, rfl⟩), by rw [← empL t]; exact q⟩
  | lst e t => exact ⟨_, .inl ⟨_, SqL.of (r.ex.lst e), rfl⟩, by rw [← empL t]; exact q⟩
  | rdl e t => exact ⟨_, .inl ⟨_, r.ex.rdl e, rfl⟩, by rw [← empL t]; exact q⟩
  | ptr p =>
    rcases q with ⟨l, e, q⟩ | ⟨l, e, q⟩
    · obtain ⟨_, xs, e1, t1⟩ := r.own _ _ e
      exact ⟨_, .inl ⟨_, SqL.of e1, rfl⟩, by rw [← empL t1]; exact q⟩
    · obtain ⟨_, xs, e1, t1⟩ := r.own _ _ e
      exact ⟨_, .inr (.inr ⟨_, e1, rfl⟩), by rw [← empK t1]; exact q⟩
  | _ => cases q
def gTru (t : GE) : GT := fun ρ μ Θ Φ => t ρ μ Θ fun d μ1 => TruD d μ1 fun b => Φ b μ1
theorem st_tru (ha : SE X a ta) (he : ∀ whole, isTrue a X.env whole = (do let v ← whole; standAt a.pos; holding [v] (truthy v)) := by intro _; rfl) : ST X a (gTru ta) :=
  ⟨fun W tk => PT.imp (pt_truth (ha.pe W tk) he) fun σ H Q h => by
    obtain ⟨S, μ, ρ, Θ, Φ, r, en, q, xw, k⟩ := h
    refine ⟨S, μ, ρ, Θ, _, r, en, q, xw, fun v d μ1 S1 H1 q1 a1 e1 r1 => ?_⟩
    obtain ⟨b, h1, h2⟩ := tru_at r1 a1 q1
    exact ⟨b, h1, k _ _ _ _ h2 e1 r1⟩⟩

/-! ### and, or, not -/
structure SW (X : Cx) (e : Expr) (t : GT) : Prop where
  pw : ∀ W, Takes X W → PW X e (rdT X.K W t)
theorem PW.imp {X : Cx} {e : Expr} {t u : TT} (h : PW X e t) (i : ∀ σ H Q, u σ H Q → t σ H Q) : PW X e u := ⟨fun wh pins s σ H Q I q => h.run wh pins s σ H Q I (i σ H Q q)⟩
def gAnd (t u : GT) : GT := fun ρ μ Θ Φ => t ρ μ Θ fun b μ1 => if b = true then u ρ μ1 Θ Φ else Φ false μ1
def gOr (t u : GT) : GT := fun ρ μ Θ Φ => t ρ μ Θ fun b μ1 => if b = true then Φ true μ1 else u ρ μ1 Θ Φ
def gNot (t : GT) : GT := fun ρ μ Θ Φ => t ρ μ Θ fun b μ1 => Φ (!b) μ1
theorem sw_and1 (ha : ST X a u) : SW X (.BoolOp .And [a] pos) u := ⟨fun W tk => pw_and1 (ha.pt W tk)⟩
theorem sw_or1 (ha : ST X a u) : SW X (.BoolOp .Or [a] pos) u := ⟨fun W tk => pw_or1 (ha.pt W tk)⟩
theorem sw_and (ha : ST X a u) (hb : SW X (.BoolOp .And (b :: rest) pos) v) : SW X (.BoolOp .And (a :: b :: rest) pos) (gAnd u v) :=
  ⟨fun W tk => PW.imp (pw_and (ha.pt W tk) (hb.pw W tk)) fun σ H Q h => by
    obtain ⟨S, μ, ρ, Θ, Φ, r, en, q, xw, k⟩ := h
    refine ⟨S, μ, ρ, Θ, _, r, en, q, xw, fun c μ1 S1 H1 q1 e1 r1 => ?_⟩
    cases c with
    | true => exact ⟨S1, μ1, ρ, Θ, Φ, r1, en.mono e1, q1, xw.mono e1, fun b μ2 S2 H2 q2 e2 r2 => k _ _ _ _ q2 (e1.trans e2) r2⟩
    | false => exact k _ _ _ _ q1 e1 r1⟩
theorem sw_or (ha : ST X a u) (hb : SW X (.BoolOp .Or (b :: rest) pos) v) : SW X (.BoolOp .Or (a :: b :: rest) pos) (gOr u v) :=
  ⟨fun W tk => PW.imp (pw_or (ha.pt W tk) (hb.pw W tk)) fun σ H Q h => by
    obtain ⟨S, μ, ρ, Θ, Φ, r, en, q, xw, k⟩ := h
    refine ⟨S, μ, ρ, Θ, _, r, en, q, xw, fun c μ1 S1 H1 q1 e1 r1 => ?_⟩
    cases c with
    | true => exact k _ _ _ _ q1 e1 r1
    | false => exact ⟨S1, μ1, ρ, Θ, Φ, r1, en.mono e1, q1, xw.mono e1, fun b μ2 S2 H2 q2 e2 r2 => k _ _ _ _ q2 (e1.trans e2) r2⟩⟩
theorem SW.st {e : Expr} (h : SW X e u) : ST X e u := ⟨fun W tk => (h.pw W tk).pt⟩
theorem st_not (ha : ST X a u) : ST X (.UnaryOp .Not a pos) (gNot u) :=
  ⟨fun W tk => PT.imp (pt_not (ha.pt W tk)) fun σ H Q h => by
    obtain ⟨S, μ, ρ, Θ, Φ, r, en, q, xw, k⟩ := h
    exact ⟨S, μ, ρ, Θ, _, r, en, q, xw, fun c μ1 S1 H1 q1 e1 r1 => k _ _ _ _ q1 e1 r1⟩⟩
/-- as values, of True and False -/
def gAndV (t u : GE) : GE := fun ρ μ Θ Φ => t ρ μ Θ fun d μ1 => match d with | .bl c => if c = true then u ρ μ1 Θ Φ else Φ (.bl false) μ1 | _ => False
def gOrV (t u : GE) : GE := fun ρ μ Θ Φ => t ρ μ Θ fun d μ1 => match d with | .bl c => if c = true then Φ (.bl true) μ1 else u ρ μ1 Θ Φ | _ => False
def gNotV (t : GE) : GE := fun ρ μ Θ Φ => t ρ μ Θ fun d μ1 => match d with | .bl c => Φ (.bl (!c)) μ1 | _ => False
theorem se_one {op} (h : SE X a ta) : SE X (.BoolOp op [a] pos) ta := ⟨fun W tk => pe_one (h.pe W tk)⟩
theorem se_and (ha : SE X a ta) (hb : SE X (.BoolOp .And (b :: rest) pos) tb) : SE X (.BoolOp .And (a :: b :: rest) pos) (gAndV ta tb) :=
  ⟨fun W tk => PE.imp (pe_and (ha.pe W tk) (hb.pe W tk)) fun σ H Q h => by
    obtain ⟨S, μ, ρ, Θ, Φ, r, en, q, xw, k⟩ := h
    refine ⟨S, μ, ρ, Θ, _, r, en, q, xw, fun v d μ1 S1 H1 q1 a1 e1 r1 => ?_⟩
    cases a1 with
    | bl c =>
      refine ⟨c, rfl, ?_⟩
      cases c with
      | true => exact ⟨S1, μ1, ρ, Θ, Φ, r1, en.mono e1, q1, xw.mono e1, k.mono e1⟩
      | false => exact k _ _ _ _ _ q1 (.bl _) e1 r1
    | _ => cases q1⟩
theorem se_or (ha : SE X a ta) (hb : SE X (.BoolOp .Or (b :: rest) pos) tb) : SE X (.BoolOp .Or (a :: b :: rest) pos) (gOrV ta tb) :=
  ⟨fun W tk => PE.imp (pe_or (ha.pe W tk) (hb.pe W tk)) fun σ H Q h => by
    obtain ⟨S, μ, ρ, Θ, Φ, r, en, q, xw, k⟩ := h
    refine ⟨S, μ, ρ, Θ, _, r, en, q, xw, fun v d μ1 S1 H1 q1 a1 e1 r1 => ?_⟩
    cases a1 with
    | bl c =>
      refine ⟨c, rfl, ?_⟩
      cases c with
      | true => exact k _ _ _ _ _ q1 (.bl _) e1 r1
      | false => exact ⟨S1, μ1, ρ, Θ, Φ, r1, en.mono e1, q1, xw.mono e1, k.mono e1⟩
    | _ => cases q1⟩
theorem se_not (ha : SE X a ta) : SE X (.UnaryOp .Not a pos) (gNotV ta) :=
  ⟨fun W tk => PE.imp (pe_not (ha.pe W tk)) fun σ H Q h => by
    obtain ⟨S, μ, ρ, Θ, Φ, r, en, q, xw, k⟩ := h
    refine ⟨S, μ, ρ, Θ, _, r, en, q, xw, fun v d μ1 S1 H1 q1 a1 e1 r1 => ?_⟩
    cases a1 with
    | bl c => exact ⟨c, rfl, k _ _ _ _ _ q1 (.bl _) e1 r1⟩
    | _ => cases q1⟩
def gIf (t : GT) (ta tb : GE) : GE := fun ρ μ Θ Φ => t ρ μ Θ fun c μ1 => if c = true then ta ρ μ1 Θ Φ else tb ρ μ1 Θ Φ
theorem se_if (hc : ST X c u) (ha : SE X a ta) (hb : SE X b tb) : SE X (.IfExp c a b pos) (gIf u ta tb) :=
  ⟨fun W tk => PE.imp (pe_ifExp (hc.pt W tk) (ha.pe W tk) (hb.pe W tk)) fun σ H Q h => by
    obtain ⟨S, μ, ρ, Θ, Φ, r, en, q, xw, k⟩ := h
    refine ⟨S, μ, ρ, Θ, _, r, en, q, xw, fun c μ1 S1 H1 q1 e1 r1 => ?_⟩
    cases c with
    | true => exact ⟨S1, μ1, ρ, Θ, Φ, r1, en.mono e1, q1, xw.mono e1, k.mono e1⟩
    | false => exact ⟨S1, μ1, ρ, Θ, Φ, r1, en.mono e1, q1, xw.mono e1, k.mono e1⟩⟩
/-- an expression that gives True or False (a call, a name), as a test -/
theorem st_val (ha : SE X a ta) (he : ∀ whole, isTrue a X.env whole = (do let v ← whole; standAt a.pos; holding [v] (truthy v)) := by intro _; rfl) : ST X a (gTest ta) :=
  ⟨fun W tk => PT.imp (pt_val (ha.pe W tk) he) fun σ H Q h => rd_test (fun Q' q => q) h⟩

/-! ### == and != of data -/
mutual
def toP : D → PyData
  | .non => .none
  | .bl b => .bool b
  | .int i => .int i
  | .str s => .str s
  | .tup l => .tuple (toPs l)
  | .lst l => .list (toPs l)
  | .rdl l => .list (toPs l)
  | _ => .dict []
def toPs : List D → List PyData
  | [] => []
  | d :: ds => toP d :: toPs ds
end
def toPm (μ : Mu) : D → PyData
  | .ptr p => match μ p with | some (.lst l) => .list (toPs l) | _ => .dict []
  | d => toP d
theorem canLay_dict (kvs) : PyData.canLay0 (.dict kvs) = false := by first | rfl | (cases kvs <;> rfl) | simp [PyData.canLay0]
mutual
theorem dp_of {K : PySem.W.Frag} {S H : Hp} (e : ExH S H) : ∀ {d : D} {v : V}, At K S d v → (toP d).canLay0 = true → Dp K H v (toP d)
  | _, _, .non, _ => .non
  | _, _, .bl b, _ => .bl b
  | _, _, .int i, _ => .int i
  | _, _, .str s, _ => .str s
  | _, _, .tup h t, c => by
    rw [toP] at c ⊢
    exact .tup (e.tup h) (dps_of e t (by simpa [PyData.canLay0] using c))
  | _, _, .lst h t, c => by
    rw [toP] at c ⊢
    exact .lst (SqL.of (e.lst h)) (dps_of e t (by simpa [PyData.canLay0] using c))
  | _, _, .rdl h t, c => by
    rw [toP] at c ⊢
    exact .lst (e.rdl h) (dps_of e t (by simpa [PyData.canLay0] using c))
  | _, _, .ty n, c => by rw [toP, canLay_dict] at c; cases c; all_goals intros; contradiction
  | _, _, .ptr n, c => by rw [toP, canLay_dict] at c; cases c; all_goals intros; contradiction
  | _, _, .dic h t, c => by rw [toP, canLay_dict] at c; cases c; all_goals intros; contradiction
  | _, _, .obj h t, c => by rw [toP, canLay_dict] at c; cases c; all_goals intros; contradiction
  | _, _, .exn h t, c => by rw [toP, canLay_dict] at c; cases c; all_goals intros; contradiction
theorem dps_of {K : PySem.W.Frag} {S H : Hp} (e : ExH S H) : ∀ {ds : List D} {vs : List V}, AtL K S ds vs → PyData.canLayAll0 (toPs ds) = true → DpAll K H vs (toPs ds)
  | _, _, .nil, _ => .nil
  | d :: ds, v :: vs, .cons h t, c => by
    rw [toPs] at c ⊢
    have c' : (toP d).canLay0 = true ∧ PyData.canLayAll0 (toPs ds) = true := by simpa [PyData.canLayAll0] using c
    exact .cons (dp_of e h c'.1) (dps_of e t c'.2)
end
theorem dp_m {K : PySem.W.Frag} {S H : Hp} {μ : Mu} {d : D} {v : V} (r : Rel K S μ H) (h : At K S d v) (c : SeqAt.shaped (toPm μ d) = true) : Dp K H v (toPm μ d) := by
  have c0 := SeqAt.canLay_of_shaped c
  cases h with
  | ptr p =>
    dsimp only [toPm] at c0 ⊢
    cases e : μ p with
    | none => simp only [e] at c0; rw [canLay_dict] at c0; cases c0
    | some o =>
      cases o with
      | lst l =>
        obtain ⟨_, xs, e1, t⟩ := r.own _ _ e
        simp only [e] at c0 ⊢
        exact .lst (SqL.of e1) (dps_of r.ex t (by simpa [PyData.canLay0] using c0))
      | dic l => simp only [e] at c0; rw [canLay_dict] at c0; cases c0
      | obj C l => simp only [e] at c0; rw [canLay_dict] at c0; cases c0
  | non => exact dp_of r.ex .non c0
  | bl b => exact dp_of r.ex (.bl b) c0
  | int i => exact dp_of r.ex (.int i) c0
  | str s => exact dp_of r.ex (.str s) c0
  | ty n => exact dp_of r.ex (.ty n) c0
  | tup h t => exact dp_of r.ex (.tup h t) c0
  | lst h t => exact dp_of r.ex (.lst h t) c0
  | rdl h t => exact dp_of r.ex (.rdl h t) c0
  | dic h t => exact dp_of r.ex (.dic h t) c0
  | obj h t => exact dp_of r.ex (.obj h t) c0
  | exn h t => exact dp_of r.ex (.exn h t) c0
def eqD : R2D := fun d1 d2 μ Φ => SeqAt.shaped (toPm μ d1) = true ∧ SeqAt.shaped (toPm μ d2) = true ∧ Φ (.bl (PyData.eqv (toPm μ d1) (toPm μ d2))) μ
def neD : R2D := fun d1 d2 μ Φ => SeqAt.shaped (toPm μ d1) = true ∧ SeqAt.shaped (toPm μ d2) = true ∧ Φ (.bl (!PyData.eqv (toPm μ d1) (toPm μ d2))) μ
theorem rd_eq {K : PySem.W.Frag} : RD K (rEqD K) eqD := fun S μ H x y d1 d2 Φ Q r a1 a2 q k => ⟨_, _, dp_m r a1 q.1, dp_m r a2 q.2.1, q.1, q.2.1, k.same r (.bl _) q.2.2⟩
theorem rd_ne {K : PySem.W.Frag} : RD K (rNeD K) neD := fun S μ H x y d1 d2 Φ Q r a1 a2 q k => ⟨_, _, dp_m r a1 q.1, dp_m r a2 q.2.1, q.1, q.2.1, k.same r (.bl _) q.2.2⟩
theorem se_eq (hu : X.A.units + 64 < cLine) (ha : SE X a ta) (hb : SE X b tb) : SE X (.Compare a [.Eq] [b] pos) (gOp eqD ta tb) := se_cmp (op_eqD hu) rd_eq ha hb (nomark _)
theorem se_ne (hu : X.A.units + 64 < cLine) (ha : SE X a ta) (hb : SE X b tb) : SE X (.Compare a [.NotEq] [b] pos) (gOp neD ta tb) := se_cmp (op_neD hu) rd_ne ha hb (nomark _)
theorem st_eq (hu : X.A.units + 64 < cLine) (ha : SE X a ta) (hb : SE X b tb) : ST X (.Compare a [.Eq] [b] pos) (gTest (gOp eqD ta tb)) := st_cmp (op_eqD hu) rd_eq ha hb (nomark _)
theorem st_ne (hu : X.A.units + 64 < cLine) (ha : SE X a ta) (hb : SE X b tb) : ST X (.Compare a [.NotEq] [b] pos) (gTest (gOp neD ta tb)) := st_cmp (op_neD hu) rd_ne ha hb (nomark _)

/-! ### is None, is not None, is True -/
def isNon : D → Bool
  | .non => true
  | _ => false
theorem isNon_at {K : PySem.W.Frag} {S : Hp} {d : D} {v : V} (h : At K S d v) : decide (v = .non) = isNon d := by cases h <;> rfl
def isD : R2D := fun d1 d2 μ Φ => match d2 with
  | .non => Φ (.bl (isNon d1)) μ
  | .bl b => match d1 with | .bl a => Φ (.bl (decide (a = b))) μ | _ => False
  | _ => False
def isntD : R2D := fun d1 d2 μ Φ => match d2 with
  | .non => Φ (.bl (!isNon d1)) μ
  | .bl b => match d1 with | .bl a => Φ (.bl (!decide (a = b))) μ | _ => False
  | _ => False
abbrev rIsU : R2 := fun x y H Q => (y = .non ∧ Q (.bl (decide (x = .non))) H) ∨ ∃ a b, x = .bl a ∧ y = .bl b ∧ Q (.bl (decide (a = b))) H
abbrev rIsntU : R2 := fun x y H Q => (y = .non ∧ Q (.bl (!decide (x = .non))) H) ∨ ∃ a b, x = .bl a ∧ y = .bl b ∧ Q (.bl (!decide (a = b))) H
theorem rd_is {K : PySem.W.Frag} : RD K rIsU isD := fun S μ H x y d1 d2 Φ Q r a1 a2 q k => by
  cases a2 with
  | non => exact .inl ⟨rfl, by rw [isNon_at a1]; exact k.same r (.bl _) q⟩
  | bl b =>
    cases a1 with
    | bl a => exact .inr ⟨a, b, rfl, rfl, k.same r (.bl _) q⟩
    | _ => cases q
  | _ => cases q
theorem rd_isnt {K : PySem.W.Frag} : RD K rIsntU isntD := fun S μ H x y d1 d2 Φ Q r a1 a2 q k => by
  cases a2 with
  | non => exact .inl ⟨rfl, by rw [isNon_at a1]; exact k.same r (.bl _) q⟩
  | bl b =>
    cases a1 with
    | bl a => exact .inr ⟨a, b, rfl, rfl, k.same r (.bl _) q⟩
    | _ => cases q
  | _ => cases q
theorem se_is (ha : SE X a ta) (hb : SE X b tb) : SE X (.Compare a [.Is] [b] pos) (gOp isD ta tb) := se_cmp (op_isN.or op_is_bl) rd_is ha hb (nomark _)
theorem se_isnt (ha : SE X a ta) (hb : SE X b tb) : SE X (.Compare a [.IsNot] [b] pos) (gOp isntD ta tb) := se_cmp (op_notN.or op_isnot_bl) rd_isnt ha hb (nomark _)
theorem st_is (ha : SE X a ta) (hb : SE X b tb) : ST X (.Compare a [.Is] [b] pos) (gTest (gOp isD ta tb)) := st_cmp (op_isN.or op_is_bl) rd_is ha hb (nomark _)
theorem st_isnt (ha : SE X a ta) (hb : SE X b tb) : ST X (.Compare a [.IsNot] [b] pos) (gTest (gOp isntD ta tb)) := st_cmp (op_notN.or op_isnot_bl) rd_isnt ha hb (nomark _)

/-! ### a < b < c -/
def gChain (R R' : R2D) (ta tb tc : GE) : GE := fun ρ μ Θ Φ => ta ρ μ Θ fun d1 μ1 => tb ρ μ1 Θ fun d2 μ2 => R d1 d2 μ2 fun z μ3 => match z with
  | .bl k => if k = true then tc ρ μ3 Θ fun d3 μ4 => R' d2 d3 μ4 Φ else Φ (.bl false) μ3
  | _ => False

/-! ### subscripts -/
def ixD : R2D := fun d1 d2 μ Φ => match d2 with
  | .int i => (match d1 with
    | .str s => s.length ≤ LIM ∧ ∃ c, atI s.cps.toList i = some c ∧ Φ (.str ⟨#[c]⟩) μ
    | d1 => ∃ l d, IsQ μ d1 l ∧ atI l i = some d ∧ Φ d μ)
  | _ => False
theorem atL_atI {K : PySem.W.Frag} {S : Hp} {l : List D} {xs : List V} {i : Int} {d : D} (t : AtL K S l xs) (h : atI l i = some d) : ∃ v, atI xs i = some v ∧ At K S d v := by
  unfold atI at h ⊢
  rw [← t.len]
  cases e : ixN l.length i with
  | none => rw [e] at h; cases h
  | some j =>
    rw [e] at h
    exact t.get h
theorem rd_ix {K : PySem.W.Frag} : RD K (rIx K) ixD := fun S μ H x y d1 d2 Φ Q r a1 a2 q k => by
  cases a2 with
  | int i =>
    have seqs : (∃ l d, IsQ μ d1 l ∧ atI l i = some d ∧ Φ d μ) → rIx K x (.int i) H Q := by
      rintro ⟨l, d, h1, h2, q⟩
      obtain ⟨a, xs, rfl, sq, t⟩ := h1.at' r a1
      obtain ⟨v, hv, av⟩ := atL_atI t h2
      rcases sq with sq | sq
      · exact .inl ⟨a, xs, i, v, rfl, rfl, sq, hv, k.same r av q⟩
      · exact .inr (.inl ⟨a, xs, i, v, rfl, rfl, sq, hv, k.same r av q⟩)
    cases a1 with
    | str s =>
      obtain ⟨hz, c, hc, q⟩ := q
      exact .inr (.inr ⟨s, i, c, rfl, rfl, lim_line hz, hc, k.same r (.str _) q⟩)
    | _ => exact seqs q
  | _ => cases q
theorem se_ix (ha : SE X a ta) (hb : SE X b tb) (hs : PlainIx b := by exact fun _ _ => rfl) : SE X (.Subscript a b pos) (gOp ixD ta tb) :=
  ⟨fun W tk => PE.imp (pe_ix ix_seq (ha.pe W tk) (hb.pe W tk) hs) fun σ H Q h => rd_two rd_ix h⟩

/-! ### calls of built-ins -/
abbrev RLD := List D → Mu → Kd → Prop
def RDL (K : PySem.W.Frag) (r : List V → Hp → VK → Prop) (R : RLD) : Prop := ∀ S μ H vs ds Φ Q, Rel K S μ H → AtL K S ds vs → R ds μ Φ → KW K S Φ Q → r vs H Q
def gCB (R : RLD) (tr : GA) : GE := fun ρ μ Θ Φ => tr ρ μ Θ fun ds μ1 => R ds μ1 Φ
theorem rd_cb {K : PySem.W.Frag} {W : WX} {r : List V → Hp → VK → Prop} {R : RLD} (hr : RDL K r R) {σ : L2.St} {H : Hp} {Q : VK} (h : rdE K W (gCB R tr) σ H Q) : tCB r (rdA K W tr) σ H Q := by
  obtain ⟨S, μ, ρ, Θ, Φ, rl, en, q, xw, k⟩ := h
  exact ⟨S, μ, ρ, Θ, _, rl, en, q, xw, fun vs ds μ1 S1 H1 q1 a1 e1 r1 => hr S1 μ1 H1 vs ds Φ Q r1 a1 q1 (k.mono e1)⟩
variable {x : Str} {p : Pos} {bi T : String}
theorem se_callB {r : List V → Hp → VK → Prop} {R : RLD} (hc : CallR X (.builtin bi) r) (hr : RDL X.K r R) (hg : Gl X x) (hm : X.mg x = none) (hv : bootBuiltins x = some (.builtin bi)) (ha : SA X (e :: es) tr) (hn : x ≠ "__name__" := by decide) (hdb : (x == ("__debug__" : Str)) = false := by decide)
    (he : starEach (e :: es) X.env = (false, eval e X.env) :: starEach es X.env := by rfl) (hpl : (backTo pos (starEach es X.env)).any (·.1) = false := by rfl) : SE X (.Call (.Name x p) (e :: es) [] pos) (gCB R tr) :=
  ⟨fun W tk => PE.imp (pe_callB hc hg hm hv (ha.pa W tk) hn hdb he hpl) fun σ H Q h => rd_cb hr h⟩
theorem se_callTy {r : List V → Hp → VK → Prop} {R : RLD} (hc : CallR X (.type T) r) (hr : RDL X.K r R) (hg : Gl X x) (hm : X.mg x = none) (hv : bootBuiltins x = some (.type T)) (ha : SA X (e :: es) tr) (hn : x ≠ "__name__" := by decide) (hdb : (x == ("__debug__" : Str)) = false := by decide)
    (he : starEach (e :: es) X.env = (false, eval e X.env) :: starEach es X.env := by rfl) (hpl : (backTo pos (starEach es X.env)).any (·.1) = false := by rfl) : SE X (.Call (.Name x p) (e :: es) [] pos) (gCB R tr) :=
  ⟨fun W tk => PE.imp (pe_callTy hc hg hm hv (ha.pa W tk) hn hdb he hpl) fun σ H Q h => rd_cb hr h⟩

def lenD : RLD := fun ds μ Φ => match ds with
  | [.str s] => s.length ≤ LIM ∧ Φ (.int s.length) μ
  | [d] => ∃ l, IsQ μ d l ∧ Φ (.int l.length) μ
  | _ => False
theorem rd_len {K : PySem.W.Frag} : RDL K (fun xs H Q => ∃ x n, xs = [x] ∧ LenV K x H n ∧ Q (.int n) H) lenD := fun S μ H vs ds Φ Q r at1 q k => by
  cases at1 with
  | nil => cases q
  | cons a1 at2 =>
    cases at2 with
    | cons _ _ => unfold lenD at q; split at q <;> simp_all
    | nil =>
      rename_i d v
      have seqs : (∃ l, IsQ μ d l ∧ Φ (.int l.length) μ) → ∃ x n, [v] = [x] ∧ LenV K x H n ∧ Q (.int n) H := by
        rintro ⟨l, h, q⟩
        obtain ⟨a, xs, rfl, sq, t⟩ := h.at' r a1
        rw [t.len] at q
        rcases sq with sq | sq
        · exact ⟨_, _, rfl, .inl ⟨xs, sq, rfl⟩, k.same r (.int _) q⟩
        · exact ⟨_, _, rfl, .inr ⟨xs, sq, rfl⟩, k.same r (.int _) q⟩
      cases a1 with
      | str s => exact ⟨_, _, rfl, ⟨lim_line q.1, rfl⟩, k.same r (.int _) q.2⟩
      | _ => exact seqs q
def sumD : RLD := fun ds μ Φ => match ds with
  | [d] => ∃ ns : List Int, IsR μ d (ns.map D.int) ∧ Φ (.int ns.sum) μ
  | _ => False
theorem rd_sum {K : PySem.W.Frag} : RDL K (rSum K) sumD := fun S μ H vs ds Φ Q r at1 q k => by
  cases at1 with
  | nil => cases q
  | cons a1 at2 =>
    cases at2 with
    | cons _ _ => cases q
    | nil =>
      obtain ⟨ns, h, q⟩ := q
      obtain ⟨a, xs, rfl, sq, t⟩ := h.at' r a1
      have e := t.ints
      subst e
      exact ⟨a, ns, rfl, sq, k.same r (.int _) q⟩
def anyD : RLD := fun ds μ Φ => match ds with
  | [d] => ∃ ns : List Bool, IsR μ d (ns.map D.bl) ∧ Φ (.bl (ns.any id)) μ
  | _ => False
def allD : RLD := fun ds μ Φ => match ds with
  | [d] => ∃ ns : List Bool, IsR μ d (ns.map D.bl) ∧ Φ (.bl (ns.all id)) μ
  | _ => False
theorem rd_any {K : PySem.W.Frag} : RDL K (rAny K) anyD := fun S μ H vs ds Φ Q r at1 q k => by
  cases at1 with
  | nil => cases q
  | cons a1 at2 =>
    cases at2 with
    | cons _ _ => cases q
    | nil =>
      obtain ⟨ns, h, q⟩ := q
      obtain ⟨a, xs, rfl, sq, t⟩ := h.at' r a1
      have e := t.bls
      subst e
      exact ⟨a, ns, rfl, sq, k.same r (.bl _) q⟩
theorem rd_all {K : PySem.W.Frag} : RDL K (rAll K) allD := fun S μ H vs ds Φ Q r at1 q k => by
  cases at1 with
  | nil => cases q
  | cons a1 at2 =>
    cases at2 with
    | cons _ _ => cases q
    | nil =>
      obtain ⟨ns, h, q⟩ := q
      obtain ⟨a, xs, rfl, sq, t⟩ := h.at' r a1
      have e := t.bls
      subst e
      exact ⟨a, ns, rfl, sq, k.same r (.bl _) q⟩
def tupleD : RLD := fun ds μ Φ => match ds with
  | [d] => ∃ l, IsQ μ d l ∧ Φ (.tup l) μ
  | _ => False
theorem rd_tuple {K : PySem.W.Frag} : RDL K (fun xs H Q => ∃ p ys, xs = [.ref p] ∧ ((SqL K H p ys ∧ ∀ l, H l = none → Q (.ref l) (upd H l (.tup ys))) ∨ (SqT K H p ys ∧ Q (.ref p) H))) tupleD := fun S μ H vs ds Φ Q r at1 q k => by
  cases at1 with
  | nil => cases q
  | cons a1 at2 =>
    cases at2 with
    | cons _ _ => cases q
    | nil =>
      obtain ⟨l, h, q⟩ := q
      cases a1 with
      | tup e t => cases h; exact ⟨_, _, rfl, .inr ⟨r.ex.tup e, k.same r (.tup e t) q⟩⟩
      | lst e t => cases h; exact ⟨_, _, rfl, .inl ⟨SqL.of (r.ex.lst e), fun p hp => newT r t q k hp⟩⟩
      | rdl e t => cases h; exact ⟨_, _, rfl, .inl ⟨r.ex.rdl e, fun p hp => newT r t q k hp⟩⟩
      | ptr p =>
        obtain ⟨_, xs, e, t⟩ := r.own _ _ h
        exact ⟨_, _, rfl, .inl ⟨SqL.of e, fun p hp => newT r t q k hp⟩⟩
      | _ => cases h
def listD : RLD := fun ds μ Φ => match ds with
  | [d] => ∃ l, IsQ μ d l ∧ NewL l μ Φ
  | _ => False
theorem rd_list {K : PySem.W.Frag} : RDL K (fun xs H Q => ∃ p ys, xs = [.ref p] ∧ (SqL K H p ys ∨ SqT K H p ys) ∧ ∀ l, H l = none → Q (.ref l) (upd H l (.lst ys))) listD := fun S μ H vs ds Φ Q r at1 q k => by
  cases at1 with
  | nil => cases q
  | cons a1 at2 =>
    cases at2 with
    | cons _ _ => cases q
    | nil =>
      obtain ⟨l, h, q⟩ := q
      obtain ⟨a, xs, rfl, sq, t⟩ := h.at' r a1
      exact ⟨a, xs, rfl, sq, fun p hp => newL r t q k hp⟩
def intD : RLD := fun ds μ Φ => match ds with
  | [.int i] => Φ (.int i) μ
  | [.bl b] => Φ (.int (if b then 1 else 0)) μ
  | _ => False
theorem rd_int {K : PySem.W.Frag} : RDL K (fun xs H Q => (∃ i, xs = [.int i] ∧ Q (.int i) H) ∨ ∃ k, xs = [.bl k] ∧ Q (.int (if k then 1 else 0)) H) intD := fun S μ H vs ds Φ Q r at1 q k => by
  cases at1 with
  | nil => cases q
  | cons a1 at2 =>
    cases at2 with
    | cons _ _ => unfold intD at q; split at q <;> simp_all
    | nil =>
      cases a1 with
      | int i => exact .inl ⟨i, rfl, k.same r (.int _) q⟩
      | bl b => exact .inr ⟨b, rfl, k.same r (.int _) q⟩
      | _ => cases q
def absD : RLD := fun ds μ Φ => match ds with
  | [.int i] => Φ (.int (if i < 0 then -i else i)) μ
  | _ => False
theorem rd_abs {K : PySem.W.Frag} : RDL K (fun xs H Q => ∃ i, xs = [.int i] ∧ Q (.int (if i < 0 then -i else i)) H) absD := fun S μ H vs ds Φ Q r at1 q k => by
  cases at1 with
  | nil => cases q
  | cons a1 at2 =>
    cases at2 with
    | cons _ _ => unfold absD at q; split at q <;> simp_all
    | nil =>
      cases a1 with
      | int i => exact ⟨i, rfl, k.same r (.int _) q⟩
      | _ => cases q
def minD : RLD := fun ds μ Φ => match ds with
  | [.int i, .int j] => Φ (.int (if j < i then j else i)) μ
  | _ => False
theorem rd_min {K : PySem.W.Frag} : RDL K (fun xs H Q => ∃ i j, xs = [.int i, .int j] ∧ Q (.int (if j < i then j else i)) H) minD := fun S μ H vs ds Φ Q r at1 q k => by
  cases at1 with
  | nil => cases q
  | cons a1 at2 =>
    cases at2 with
    | nil => unfold minD at q; split at q <;> simp_all
    | cons a2 at3 =>
      cases at3 with
      | cons _ _ => unfold minD at q; split at q <;> simp_all
      | nil =>
        cases a1 with
        | int i =>
          cases a2 with
          | int j => exact ⟨i, j, rfl, k.same r (.int _) q⟩
          | _ => cases q
        | _ => cases q
def maxD : RLD := fun ds μ Φ => match ds with
  | [.int i, .int j] => Φ (.int (if j > i then j else i)) μ
  | _ => False
theorem rd_max {K : PySem.W.Frag} : RDL K (fun xs H Q => ∃ i j, xs = [.int i, .int j] ∧ Q (.int (if j > i then j else i)) H) maxD := fun S μ H vs ds Φ Q r at1 q k => by
  cases at1 with
  | nil => cases q
  | cons a1 at2 =>
    cases at2 with
    | nil => unfold maxD at q; split at q <;> simp_all
    | cons a2 at3 =>
      cases at3 with
      | cons _ _ => unfold maxD at q; split at q <;> simp_all
      | nil =>
        cases a1 with
        | int i =>
          cases a2 with
          | int j => exact ⟨i, j, rfl, k.same r (.int _) q⟩
          | _ => cases q
        | _ => cases q
end
end GD

/-! Gd4: dicts, slices, statements, loops, comprehensions, calls -/
namespace GD
open PySem PySem.Spec PyProof.Rows L2

/-! ### dicts -/
def dval {α : Type} (kvs : List (Key × α)) (k : Key) : Option α := (kvs.find? fun kv => decide (kv.1 = k)).map (·.2)
def dput {α : Type} (kvs : List (Key × α)) (k : Key) (v : α) : List (Key × α) :=
  if (kvs.any fun kv => decide (kv.1 = k)) = true then kvs.map (fun kv => if kv.1 = k then (kv.1, v) else kv) else kvs ++ [(k, v)]
def ddrop {α : Type} (kvs : List (Key × α)) (k : Key) : List (Key × α) := kvs.filter fun kv => decide (kv.1 ≠ k)
section
variable {K : PySem.W.Frag} {S : Hp}
theorem AtK.val : ∀ {ds : List (Key × D)} {vs : List (Key × V)}, AtK K S ds vs → ∀ k, (∃ d v, dval ds k = some d ∧ valV vs k = some v ∧ At K S d v) ∨ (dval ds k = none ∧ valV vs k = none)
  | _, _, .nil, _ => .inr ⟨rfl, rfl⟩
  | (k0, d) :: ds, (_, v) :: vs, .cons h t, k => by
    by_cases e : k0 = k
    · subst e
      exact .inl ⟨d, v, by simp [dval], by simp [valV], h⟩
    · have e1 : dval ((k0, d) :: ds) k = dval ds k := by simp [dval, List.find?_cons, e]
      have e2 : valV ((k0, v) :: vs) k = valV vs k := by simp [valV, List.find?_cons, e]
      rw [e1, e2]
      exact AtK.val t k
theorem AtK.any : ∀ {ds : List (Key × D)} {vs : List (Key × V)}, AtK K S ds vs → ∀ k, (ds.any fun kv => decide (kv.1 = k)) = vs.any fun kv => decide (kv.1 = k)
  | _, _, .nil, _ => rfl
  | (k0, d) :: ds, (_, v) :: vs, .cons h t, k => by rw [List.any_cons, List.any_cons, AtK.any t k]
theorem AtK.app : ∀ {ds es : List (Key × D)} {vs ws : List (Key × V)}, AtK K S ds vs → AtK K S es ws → AtK K S (ds ++ es) (vs ++ ws)
  | _, _, _, _, .nil, s => s
  | _, _, _, _, .cons h t, s => .cons h (AtK.app t s)
theorem AtK.upd {k : Key} {d : D} {v : V} (a : At K S d v) : ∀ {ds : List (Key × D)} {vs : List (Key × V)}, AtK K S ds vs → AtK K S (ds.map fun kv => if kv.1 = k then (kv.1, d) else kv) (vs.map fun kv => if kv.1 = k then (kv.1, v) else kv)
  | _, _, .nil => .nil
  | (k0, d0) :: ds, (_, v0) :: vs, .cons h t => by
    rw [List.map_cons, List.map_cons]
    by_cases e : k0 = k
    · rw [if_pos e, if_pos e]; exact .cons a (AtK.upd a t)
    · rw [if_neg e, if_neg e]; exact .cons h (AtK.upd a t)
theorem AtK.put {ds : List (Key × D)} {vs : List (Key × V)} (t : AtK K S ds vs) (k : Key) {d : D} {v : V} (a : At K S d v) : AtK K S (dput ds k d) (putK vs k v) := by
  unfold dput putK
  rw [t.any k]
  split
  · exact t.upd a
  · exact t.app (.cons a .nil)
theorem AtK.drop : ∀ {ds : List (Key × D)} {vs : List (Key × V)}, AtK K S ds vs → ∀ k, AtK K S (ddrop ds k) (dropK vs k)
  | _, _, .nil, _ => .nil
  | (k0, d0) :: ds, (_, v0) :: vs, .cons h t, k => by
    have ih := AtK.drop t k
    unfold ddrop dropK at ih ⊢
    rw [List.filter_cons, List.filter_cons]
    by_cases e : k0 = k
    · rw [if_neg (by simp [e]), if_neg (by simp [e])]; exact ih
    · rw [if_pos (by simp [e]), if_pos (by simp [e])]; exact .cons h ih
end
/-- what is a key -/
def keyD : D → Option Key
  | .int i => some (.inl i)
  | .str s => some (.inr s)
  | _ => none
theorem keyD_at {K : PySem.W.Frag} {S : Hp} {d : D} {v : V} {k : Key} (h : At K S d v) (e : keyD d = some k) : v = kV k := by
  cases h <;> first | (cases e; rfl) | cases e
/-- a dict: readable -/
def IsDc (μ : Mu) : D → List (Key × D) → Prop
  | .dic l', l => l' = l
  | .ptr p, l => μ p = some (.dic l)
  | _, _ => False
theorem IsDc.at' {K : PySem.W.Frag} {S H : Hp} {μ : Mu} {d : D} {l : List (Key × D)} {x : V} (r : Rel K S μ H) (h : At K S d x) (q : IsDc μ d l) : ∃ a xs, x = .ref a ∧ Rd H a (.dK xs) ∧ AtK K S l xs := by
  cases h with
  | dic e t => cases q; exact ⟨_, _, rfl, r.ex.dic e, t⟩
  | ptr p =>
    obtain ⟨_, xs, e, t⟩ := r.own _ _ q
    exact ⟨_, _, rfl, .inl e, t⟩
  | _ => cases q

section
variable {X : Cx} {e a b c : Expr} {es rest : List Expr} {t ta tb tc : GE} {tr : GA} {pos : Pos} {u v : GT}
theorem subTail {prog : Program} {w : World} {A : Around} {F : Value → Shared → Prop} {s : Shared} {vx sx : Expr} {o i : Value} {T : String} {bi : String} {Q : Value → Shared → Prop} (hT : s.TypeIs o T)
    (hl : typeLookup (.type T) "__getitem__" = pure (some (.builtin bi))) (hs : subscripted sx false o i = operate [o, i] (getItem o i)) (h : wpAny (model prog w) A (getItem o i) Q F s) :
    wpAny (model prog w) A (subscriptTail vx sx o i) Q F s := by
  have last : wpAny (model prog w) A (subscripted sx false o i) (fun r s' => wpAny (model prog w) A (letTemporaryGo vx o r >>= fun _ => pure r) Q F s') F s := by
    rw [hs]
    exact wpAny_operating (wpAny_mono h (fun r s' q => wpAny_bind (wpAny_letTemporaryGo (wpAny_pure q))) fun _ _ z => z)
  unfold subscriptTail
  refine wpAny_bind ?_
  rw [getitemInPython_of_ne hT.not_modules]
  refine wpAny_bind (wpAny_specialOf hT hl ?_)
  first
    | exact wpAny_bind last
    | exact wpAny_pure (wpAny_bind last)
    | exact wpAny_bind (wpAny_pure (wpAny_bind last))
abbrev rGetD : R2 := fun x y H Q => ∃ a v, x = .ref a ∧ DGet H a y (some v) ∧ Q v H
theorem ix_dict (hu : X.A.units + 1 < cLine) : IxR X rGetD := by
  intro vx sx pins s σ H x y v u Q I rx ry h hs
  obtain ⟨a, z, rfl, g, q⟩ := h
  cases rx
  exact subTail (dict_typeIs I g) PySem.F.slot_dict_getitem.lookup hs (d_getItem hu I g ry fun w' s' I' r' => ⟨z, H, I', r', q⟩)
/-- a subscript of anything -/
def ixU : R2D := fun d1 d2 μ Φ => (ixD d1 d2 μ Φ) ∨ ∃ l k d, IsDc μ d1 l ∧ keyD d2 = some k ∧ dval l k = some d ∧ Φ d μ
theorem rd_ixU {K : PySem.W.Frag} : RD K (fun x y H Q => rIx K x y H Q ∨ rGetD x y H Q) ixU := fun S μ H x y d1 d2 Φ Q r a1 a2 q k => by
  rcases q with q | ⟨l, ky, d, h1, h2, h3, q⟩
  · exact .inl (rd_ix S μ H x y d1 d2 Φ Q r a1 a2 q k)
  · obtain ⟨a, xs, rfl, rd, t⟩ := h1.at' r a1
    have ey := keyD_at a2 h2
    rcases t.val ky with ⟨d', v, e1, e2, av⟩ | ⟨e1, _⟩
    · rw [h3] at e1; cases e1
      exact .inr ⟨a, v, rfl, .inl ⟨xs, ky, rd, ey, e2.symm⟩, k.same r av q⟩
    · rw [h3] at e1; cases e1
theorem se_sub' (hu : X.A.units + 1 < cLine) (ha : SE X a ta) (hb : SE X b tb) (hs : PlainIx b := by exact fun _ _ => rfl) : SE X (.Subscript a b pos) (gOp ixU ta tb) :=
  ⟨fun W tk => PE.imp (pe_ix (ix_seq.or (ix_dict hu)) (ha.pe W tk) (hb.pe W tk) hs) fun σ H Q h => rd_two rd_ixU h⟩

/-! ### in -/
/-- flat things: numbers, texts, True, None -/
def flatD : D → Bool
  | .non => true
  | .bl _ => true
  | .int _ => true
  | .str _ => true
  | _ => false
def inD (neg : Bool) : R2D := fun d1 d2 μ Φ => (∃ l k, IsDc μ d2 l ∧ keyD d1 = some k ∧ Φ (.bl (if neg then !(dval l k).isSome else (dval l k).isSome)) μ)
abbrev rInD : R2 := fun x y H Q => ∃ a o, y = .ref a ∧ DGet H a x o ∧ Q (.bl o.isSome) H
abbrev rNinD : R2 := fun x y H Q => ∃ a o, y = .ref a ∧ DGet H a x o ∧ Q (.bl (!o.isSome)) H
theorem op_inD (hu : X.A.units + 1 < cLine) : OpR X (compareOp .In) rInD := by
  intro pins s σ H x y v u Q I rx ry h
  obtain ⟨a, o, rfl, g, q⟩ := h
  cases ry
  exact d_in hu I g rx fun s' I' => ⟨.bl _, H, I', rfl, q⟩
theorem op_ninD (hu : X.A.units + 1 < cLine) : OpR X (compareOp .NotIn) rNinD := by
  intro pins s σ H x y v u Q I rx ry h
  obtain ⟨a, o, rfl, g, q⟩ := h
  cases ry
  exact d_notIn hu I g rx fun s' I' => ⟨.bl _, H, I', rfl, q⟩
theorem rd_inD {K : PySem.W.Frag} : RD K rInD (inD false) := fun S μ H x y d1 d2 Φ Q r a1 a2 q k => by
  obtain ⟨l, ky, h1, h2, q⟩ := q
  obtain ⟨a, xs, rfl, rd, t⟩ := h1.at' r a2
  refine ⟨a, valV xs ky, rfl, .inl ⟨xs, ky, rd, keyD_at a1 h2, rfl⟩, ?_⟩
  rcases t.val ky with ⟨d', v, e1, e2, av⟩ | ⟨e1, e2⟩
  · rw [e1] at q; rw [e2]; exact k.same r (.bl _) q
  · rw [e1] at q; rw [e2]; exact k.same r (.bl _) q
theorem rd_ninD {K : PySem.W.Frag} : RD K rNinD (inD true) := fun S μ H x y d1 d2 Φ Q r a1 a2 q k => by
  obtain ⟨l, ky, h1, h2, q⟩ := q
  obtain ⟨a, xs, rfl, rd, t⟩ := h1.at' r a2
  refine ⟨a, valV xs ky, rfl, .inl ⟨xs, ky, rd, keyD_at a1 h2, rfl⟩, ?_⟩
  rcases t.val ky with ⟨d', v, e1, e2, av⟩ | ⟨e1, e2⟩
  · rw [e1] at q; rw [e2]; exact k.same r (.bl _) q
  · rw [e1] at q; rw [e2]; exact k.same r (.bl _) q
theorem se_inD (hu : X.A.units + 1 < cLine) (ha : SE X a ta) (hb : SE X b tb) (hm : behindInMarks .In b = false := by rfl) : SE X (.Compare a [.In] [b] pos) (gOp (inD false) ta tb) := se_cmp (op_inD hu) rd_inD ha hb hm
theorem se_ninD (hu : X.A.units + 1 < cLine) (ha : SE X a ta) (hb : SE X b tb) (hm : behindInMarks .NotIn b = false := by rfl) : SE X (.Compare a [.NotIn] [b] pos) (gOp (inD true) ta tb) := se_cmp (op_ninD hu) rd_ninD ha hb hm
theorem st_inD (hu : X.A.units + 1 < cLine) (ha : SE X a ta) (hb : SE X b tb) (hm : behindInMarks .In b = false := by rfl) : ST X (.Compare a [.In] [b] pos) (gTest (gOp (inD false) ta tb)) := st_cmp (op_inD hu) rd_inD ha hb hm
theorem st_ninD (hu : X.A.units + 1 < cLine) (ha : SE X a ta) (hb : SE X b tb) (hm : behindInMarks .NotIn b = false := by rfl) : ST X (.Compare a [.NotIn] [b] pos) (gTest (gOp (inD true) ta tb)) := st_cmp (op_ninD hu) rd_ninD ha hb hm

/-! ### slices -/
abbrev GO := Rho → Mu → Th → (Option Int → Mu → Prop) → Prop
def rdO (K : PySem.W.Frag) (W : WX) (t : GO) : TO := fun σ H Q => ∃ S μ ρ Θ Φ, Rel K S μ H ∧ Slt K S σ ρ ∧ t ρ μ Θ Φ ∧ XW K W σ S Θ ∧ ∀ o μ' S' H', Φ o μ' → Ex S S' → Rel K S' μ' H' → Q o H'
structure SO (X : Cx) (e : Option Expr) (t : GO) : Prop where
  po : ∀ W, Takes X W → PO X e (rdO X.K W t)
theorem PO.imp {X : Cx} {e : Option Expr} {t u : TO} (h : PO X e t) (i : ∀ σ H Q, u σ H Q → t σ H Q) : PO X e u := ⟨fun pins s σ H Q I q => h.run pins s σ H Q I (i σ H Q q)⟩
def gNoPart : GO := fun _ μ _ Φ => Φ none μ
def gPart (t : GE) : GO := fun ρ μ Θ Φ => t ρ μ Θ fun d μ1 => match d with | .int i => Φ (some i) μ1 | _ => False
theorem so_none : SO X none gNoPart := ⟨fun W tk => PO.imp po_none fun σ H Q h => by
  obtain ⟨S, μ, ρ, Θ, Φ, r, en, q, _, k⟩ := h
  exact k _ _ _ _ q (Evl.Ex.refl S) r⟩
theorem so_some (h : SE X e t) : SO X (some e) (gPart t) := ⟨fun W tk => PO.imp (po_some (h.pe W tk)) fun σ H Q h => by
  obtain ⟨S, μ, ρ, Θ, Φ, r, en, q, xw, k⟩ := h
  refine ⟨S, μ, ρ, Θ, _, r, en, q, xw, fun v d μ1 S1 H1 q1 a1 e1 r1 => ?_⟩
  cases a1 with
  | int i => exact ⟨i, rfl, k _ _ _ _ q1 e1 r1⟩
  | _ => cases q1⟩
def cutD (l : List D) (lo hi : Option Int) : List D := (l.drop (HT.sIx l.length 0 lo)).take (HT.sIx l.length l.length hi - HT.sIx l.length 0 lo)
theorem AtL.cut {K : PySem.W.Frag} {S : Hp} {l : List D} {xs : List V} (t : AtL K S l xs) (lo hi : Option Int) : AtL K S (cutD l lo hi) (cutV xs lo hi) := by
  unfold cutD cutV
  rw [t.len]
  exact (t.drop _).take _
def slD (d : D) (lo hi : Option Int) (μ : Mu) (Φ : Kd) : Prop := match d with
  | .tup l => Φ (.tup (cutD l lo hi)) μ
  | d => ∃ l, IsR μ d l ∧ NewL (cutD l lo hi) μ Φ
def gSl (te : GE) (tl th : GO) : GE := fun ρ μ Θ Φ => te ρ μ Θ fun d μ1 => tl ρ μ1 Θ fun lo μ2 => th ρ μ2 Θ fun hi μ3 => slD d lo hi μ3 Φ
theorem cut_all {l : List V} {lo hi : Option Int} (h : HT.sIx l.length 0 lo = 0 ∧ HT.sIx l.length l.length hi = l.length) : cutV l lo hi = l := by
  unfold cutV
  rw [h.1, h.2]
  simp
theorem cut_allD {l : List D} {lo hi : Option Int} (h : HT.sIx l.length 0 lo = 0 ∧ HT.sIx l.length l.length hi = l.length) : cutD l lo hi = l := by
  unfold cutD
  rw [h.1, h.2]
  simp
theorem se_slice {lo hi : Option Expr} {tl th : GO} {p2 : Pos} (he : SE X e t) (hl : SO X lo tl) (hh : SO X hi th) : SE X (.Subscript e (.Slice lo hi none p2) pos) (gSl t tl th) :=
  ⟨fun W tk => PE.imp (pe_slice (sl_tupA.or sl_list) (he.pe W tk) (hl.po W tk) (hh.po W tk)) fun σ H Q h => by
    obtain ⟨S, μ, ρ, Θ, Φ, r, en, q, xw, k⟩ := h
    refine ⟨S, μ, ρ, Θ, _, r, en, q, xw, fun v d μ1 S1 H1 q1 a1 e1 r1 => ⟨S1, μ1, ρ, Θ, _, r1, en.mono e1, q1, xw.mono e1, fun lo μ2 S2 H2 q2 e2 r2 => ⟨S2, μ2, ρ, Θ, _, r2, en.mono (e1.trans e2), q2, xw.mono (e1.trans e2), fun hi μ3 S3 H3 q3 e3 r3 => ?_⟩⟩⟩
    have a3 := a1.mono (e2.trans e3)
    have k3 := k.mono ((e1.trans e2).trans e3)
    have seqs : (∃ l, IsR μ3 d l ∧ NewL (cutD l lo hi) μ3 Φ) → rSlL X.K v lo hi H3 Q := by
      rintro ⟨l, h1, n⟩
      obtain ⟨a, xs, rfl, sq, t⟩ := h1.at' r3 a3
      exact ⟨a, xs, rfl, sq, fun p hp => newL r3 (t.cut lo hi) n k3 hp⟩
    cases a3 with
    | tup e t =>
      refine .inl ⟨_, _, rfl, r3.ex.tup e, fun z => ?_, fun z p hp => newT r3 (t.cut lo hi) q3 k3 hp⟩
      have q4 : Φ (.tup (cutD _ lo hi)) μ3 := q3
      rw [cut_allD (by rw [t.len]; exact z)] at q4
      exact k3.same r3 (.tup e t) q4
    | lst e t => exact .inr (seqs q3)
    | rdl e t => exact .inr (seqs q3)
    | ptr p => exact .inr (seqs q3)
    | _ => obtain ⟨l, h, _⟩ := q3; cases h⟩

/-! ### statements -/
variable {st : Stmt} {ss : List Stmt} {s1 s2 : GS}
def gNext : GS := fun E ρ μ => E.nx ρ μ
def gSeq (t u : GS) : GS := fun E ρ μ => t { E with nx := u E } ρ μ
theorem sss_nil : SSs X [] gNext := ⟨fun W tk => PSs.imp pss_nil fun Z σ H h => by
  obtain ⟨S, μ, ρ, E, r, en, q, ew⟩ := h
  exact ew.nx _ _ _ _ _ q (Evl.Ex.refl S) r en⟩
theorem sss_one (h : SS X st s1) : SSs X [st] s1 := ⟨fun W tk => pss_one (h.ps W tk)⟩
theorem sss_cons (h : SS X st s1) (h2 : SSs X ss s2) : SSs X (st :: ss) (gSeq s1 s2) := ⟨fun W tk => PSs.imp (pss_cons (h.ps W tk) (h2.pss W tk)) fun Z σ H h => by
  obtain ⟨S, μ, ρ, E, r, en, q, ew⟩ := h
  exact ⟨S, μ, ρ, { E with nx := s2 E }, r, en, q, { ew with nx := fun ρ' μ' σ' S' H' q' e' r' en' => ⟨S', μ', ρ', E, r', en', q', ew.mono e'⟩ }⟩⟩
/-- what follows is shown once, from Mid -/
def gCut (t u : GS) : GS := fun E ρ μ => ∃ Mid : Rho → Mu → Prop, t { E with nx := Mid } ρ μ ∧ ∀ ρ' μ', Mid ρ' μ' → u E ρ' μ'
theorem sss_cut (h : SS X st s1) (h2 : SSs X ss s2) : SSs X (st :: ss) (gCut s1 s2) := ⟨fun W tk => PSs.imp (pss_cons (h.ps W tk) (h2.pss W tk)) fun Z σ H h => by
  obtain ⟨S, μ, ρ, E, r, en, ⟨Mid, q, hm⟩, ew⟩ := h
  exact ⟨S, μ, ρ, { E with nx := Mid }, r, en, q, { ew with nx := fun ρ' μ' σ' S' H' q' e' r' en' => ⟨S', μ', ρ', E, r', en', hm _ _ q', ew.mono e'⟩ }⟩⟩
theorem ss_pass : SS X (.Pass pos) gNext := ⟨fun W tk => PS.imp ps_pass fun Z σ H h => by
  obtain ⟨S, μ, ρ, E, r, en, q, ew⟩ := h
  exact ew.nx _ _ _ _ _ q (Evl.Ex.refl S) r en⟩
def gBrk : GS := fun E ρ μ => E.bk ρ μ
def gCnt : GS := fun E ρ μ => E.ct ρ μ
theorem ss_break : SS X (.Break pos) gBrk := ⟨fun W tk => PS.imp ps_break fun Z σ H h => by
  obtain ⟨S, μ, ρ, E, r, en, q, ew⟩ := h
  exact ew.bk _ _ _ _ _ q (Evl.Ex.refl S) r en⟩
theorem ss_continue : SS X (.Continue pos) gCnt := ⟨fun W tk => PS.imp ps_continue fun Z σ H h => by
  obtain ⟨S, μ, ρ, E, r, en, q, ew⟩ := h
  exact ew.ct _ _ _ _ _ q (Evl.Ex.refl S) r en⟩
def gRet (t : GE) : GS := fun E ρ μ => t ρ μ (E.ex ρ) E.rt
theorem ss_ret (h : SE X e t) : SS X (.Return (some e) pos) (gRet t) := ⟨fun W tk => PS.imp (ps_ret (h.pe W tk)) fun Z σ H h => by
  obtain ⟨S, μ, ρ, E, r, en, q, ew⟩ := h
  exact ⟨S, μ, ρ, _, _, r, en, q, ew.ex ρ σ S (Evl.Ex.refl S) en, ew.rt⟩⟩
def gRetN : GS := fun E _ μ => E.rt .non μ
theorem ss_retN : SS X (.Return none pos) gRetN := ⟨fun W tk => PS.imp ps_retN fun Z σ H h => by
  obtain ⟨S, μ, ρ, E, r, en, q, ew⟩ := h
  exact ew.rt.same r .non q⟩
def gDrop (t : GE) : GS := fun E ρ μ => t ρ μ (E.ex ρ) fun _ μ1 => E.nx ρ μ1
theorem ss_expr (h : SE X e t) (hs : swapsWith e none pos.line X.env = pure false := by rfl) : SS X (.Expr e pos) (gDrop t) := ⟨fun W tk => PS.imp (ps_expr (h.pe W tk) hs) fun Z σ H h => by
  obtain ⟨S, μ, ρ, E, r, en, q, ew⟩ := h
  exact ⟨S, μ, ρ, _, _, r, en, q, ew.ex ρ σ S (Evl.Ex.refl S) en, fun v d μ1 S1 H1 q1 a1 e1 r1 => ew.nx _ _ _ _ _ q1 e1 r1 (en.mono e1)⟩⟩
def gIfS (c : GT) (t u : GS) : GS := fun E ρ μ => c ρ μ (E.ex ρ) fun b μ1 => if b = true then t E ρ μ1 else u E ρ μ1
theorem ss_if {ss' : List Stmt} (hc : ST X c u) (h1 : SSs X ss s1) (h2 : SSs X ss' s2) : SS X (.If c ss ss' pos) (gIfS u s1 s2) := ⟨fun W tk => PS.imp (ps_if (hc.pt W tk) (h1.pss W tk) (h2.pss W tk)) fun Z σ H h => by
  obtain ⟨S, μ, ρ, E, r, en, q, ew⟩ := h
  refine ⟨S, μ, ρ, _, _, r, en, q, ew.ex ρ σ S (Evl.Ex.refl S) en, fun b μ1 S1 H1 q1 e1 r1 => ?_⟩
  cases b with
  | true => exact ⟨S1, μ1, ρ, E, r1, en.mono e1, q1, ew.mono e1⟩
  | false => exact ⟨S1, μ1, ρ, E, r1, en.mono e1, q1, ew.mono e1⟩⟩

/-! ### targets -/
abbrev GG := D → Rho → Mu → (Rho → Mu → Prop) → Prop
abbrev GGs := List D → Rho → Mu → (Rho → Mu → Prop) → Prop
abbrev NoX : Th := fun _ _ _ => False
abbrev NoW : WX := fun _ _ _ _ => False
theorem noXW {K : PySem.W.Frag} {W : WX} {σ : L2.St} {S : Hp} : XW K W σ S NoX := fun _ _ _ _ _ _ z => z.elim
def KR (K : PySem.W.Frag) (S : Hp) (Ψ : Rho → Mu → Prop) (Q : L2.St → Hp → Prop) : Prop := ∀ ρ' μ' σ' S' H', Ψ ρ' μ' → Ex S S' → Rel K S' μ' H' → Slt K S' σ' ρ' → Q σ' H'
def rdG (K : PySem.W.Frag) (g : GG) : TG := fun v σ H Q => ∃ S μ ρ d Ψ, Rel K S μ H ∧ Slt K S σ ρ ∧ At K S d v ∧ g d ρ μ Ψ ∧ KR K S Ψ Q
def rdGs (K : PySem.W.Frag) (g : GGs) : TGs := fun vs σ H Q => ∃ S μ ρ ds Ψ, Rel K S μ H ∧ Slt K S σ ρ ∧ AtL K S ds vs ∧ g ds ρ μ Ψ ∧ KR K S Ψ Q
structure SG (X : Cx) (tg : Expr) (g : GG) : Prop where
  pg : PG X tg (rdG X.K g)
structure SGs (X : Cx) (tg : List Expr) (g : GGs) : Prop where
  pgs : PGs X tg (rdGs X.K g)
theorem PG.imp {X : Cx} {e : Expr} {t u : TG} (h : PG X e t) (i : ∀ v σ H Q, u v σ H Q → t v σ H Q) : PG X e u := ⟨fun pins s σ H v uv Q I rv q => h.run pins s σ H v uv Q I rv (i v σ H Q q)⟩
theorem PGs.imp {X : Cx} {e : List Expr} {t u : TGs} (h : PGs X e t) (i : ∀ v σ H Q, u v σ H Q → t v σ H Q) : PGs X e u := ⟨fun pins s σ H v uv Q I rv q => h.run pins s σ H v uv Q I rv (i v σ H Q q)⟩
variable {g : GG} {gs : GGs} {tg : Expr} {tgs : List Expr}
def gN (i : Nat) : GG := fun d ρ μ Ψ => Ψ (ρ.set i (some d)) μ
theorem sg_name (i : Nat) {x : Str} (hN : X.N.Nodup) (hi : X.N[i]? = some x) (hx : Loc X.env.scope x) (hf : X.fn x = true ∨ X.env.scope.names.lookup x = some .local := by first | exact .inl rfl | exact .inr rfl | assumption) : SG X (.Name x pos) (gN i) :=
  ⟨PG.imp (pg_name hN hi hx hf) fun v σ H Q h => by
    obtain ⟨S, μ, ρ, d, Ψ, r, en, a, q, k⟩ := h
    exact k _ _ _ _ _ q (Evl.Ex.refl S) r (en.set i a)⟩
def gsNil : GGs := fun ds ρ μ Ψ => ds = [] ∧ Ψ ρ μ
def gsCons (g : GG) (gs : GGs) : GGs := fun ds ρ μ Ψ => match ds with | d :: ds => g d ρ μ fun ρ1 μ1 => gs ds ρ1 μ1 Ψ | _ => False
theorem sgs_nil : SGs X [] gsNil := ⟨PGs.imp pgs_nil fun v σ H Q h => by
  obtain ⟨S, μ, ρ, ds, Ψ, r, en, a, ⟨e, q⟩, k⟩ := h
  subst e
  cases a
  exact ⟨rfl, k _ _ _ _ _ q (Evl.Ex.refl S) r en⟩⟩
theorem sgs_cons (h1 : SG X tg g) (h2 : SGs X tgs gs) (hs : (assignEach (tg :: tgs) X.env).map (·.2) = assign tg X.env :: (assignEach tgs X.env).map (·.2) := by rfl) : SGs X (tg :: tgs) (gsCons g gs) :=
  ⟨PGs.imp (pgs_cons h1.pg h2.pgs hs) fun v σ H Q h => by
    obtain ⟨S, μ, ρ, ds, Ψ, r, en, a, q, k⟩ := h
    cases a with
    | nil => cases q
    | cons a1 a2 =>
      refine ⟨_, _, rfl, S, μ, ρ, _, _, r, en, a1, q, fun ρ1 μ1 σ1 S1 H1 q1 e1 r1 en1 => ?_⟩
      exact ⟨S1, μ1, ρ1, _, Ψ, r1, en1, a2.mono e1, q1, fun ρ2 μ2 σ2 S2 H2 q2 e2 r2 en2 => k _ _ _ _ _ q2 (e1.trans e2) r2 en2⟩⟩
def gT (n : Nat) (gs : GGs) : GG := fun d ρ μ Ψ => match d with | .tup l => l.length = n ∧ gs l ρ μ Ψ | _ => False
theorem sg_tup {k : Nat} {n : Nat} (hc : X.calm = true) (h : SGs X tgs gs) (hn : (assignEach tgs X.env).length = n := by rfl) (hst : (assignEach tgs X.env).findIdx? (·.1) = none := by rfl) : SG X (.Tuple tgs k pos) (gT n gs) :=
  ⟨PG.imp (pg_tup hc h.pgs hn hst) fun v σ H Q h => by
    obtain ⟨S, μ, ρ, d, Ψ, r, en, a, q, k⟩ := h
    cases a with
    | tup e t => exact ⟨_, _, rfl, r.ex.tup e, by rw [← t.len]; exact q.1, S, μ, ρ, _, Ψ, r, en, t, q.2, k⟩
    | _ => cases q⟩
/-- o[i] = v, of a list or a dict that is owned -/
def setD (d1 d2 d : D) (μ : Mu) (Ψ : Mu → Prop) : Prop := match d1 with
  | .ptr p => (∃ l i j, μ p = some (.lst l) ∧ d2 = .int i ∧ ixN l.length i = some j ∧ Ψ (updM μ p (.lst (l.set j d)))) ∨
    ∃ l k, μ p = some (.dic l) ∧ keyD d2 = some k ∧ l.length < LIM ∧ Ψ (updM μ p (.dic (dput l k d)))
  | _ => False
theorem PSet.or {t u : TSet} (h : PSet X t) (h' : PSet X u) : PSet X (fun o i v H Q => t o i v H Q ∨ u o i v H Q) := by
  intro pins s σ H o i v ov iv u Q I ro ri rv q
  rcases q with q | q
  · exact h pins s σ H o i v ov iv u Q I ro ri rv q
  · exact h' pins s σ H o i v ov iv u Q I ro ri rv q
theorem set_at {K : PySem.W.Frag} {S H : Hp} {μ : Mu} {d1 d2 d : D} {x y v : V} {Ψ : Mu → Prop} {Q : Hp → Prop} (r : Rel K S μ H) (a1 : At K S d1 x) (a2 : At K S d2 y) (a : At K S d v) (q : setD d1 d2 d μ Ψ)
    (k : ∀ μ' H', Ψ μ' → Rel K S μ' H' → Q H') : rSetL x y v H Q ∨ rSetD x y v H Q := by
  cases a1 with
  | ptr p =>
    rcases q with ⟨l, i, j, e, rfl, hj, q⟩ | ⟨l, ky, e, hk, hl, q⟩
    · obtain ⟨_, xs, eH, t⟩ := r.own _ _ e
      cases a2
      exact .inl ⟨p, xs, i, j, rfl, rfl, eH, by rw [← t.len]; exact hj, k _ _ q (r.chg e ⟨_, upd_same, t.set a j⟩)⟩
    · obtain ⟨_, xs, eH, t⟩ := r.own _ _ e
      exact .inr ⟨p, _, rfl, .inl ⟨xs, ky, eH, keyD_at a2 hk, Nat.lt_of_lt_of_le (by rw [← t.len]; exact hl) (by decide), rfl⟩, k _ _ q (r.chg e ⟨_, upd_same, t.put ky a⟩)⟩
  | _ => cases q
def gSub (to ti : GE) : GG := fun d ρ μ Ψ => to ρ μ NoX fun d1 μ1 => ti ρ μ1 NoX fun d2 μ2 => setD d1 d2 d μ2 fun μ3 => Ψ ρ μ3
end
end GD

/-! Gd5: assignments, loops, comprehensions, calls of defs -/
namespace GD
open PySem PySem.Spec PyProof.Rows L2

section
variable {X : Cx} {e a b c o i : Expr} {es rest : List Expr} {t ta tb tc to ti : GE} {tr : GA} {pos : Pos} {u v : GT} {st : Stmt} {ss : List Stmt} {s1 s2 : GS} {g : GG} {gs : GGs} {tg : Expr} {tgs : List Expr}

theorem sg_sub (hu : X.A.units + 1 < cLine) (ho : SE X o to) (hi : SE X i ti)
    (ha : ∀ v, assign (.Subscript o i pos) X.env v = (do
      let ov ← holding [v] (eval o X.env)
      let iv ← holding [v, ov] (eval i X.env)
      standAt pos
      holding [v, ov, iv] (setItem ov iv v)
      release [v, ov, iv] []) := by intro _; rfl) : SG X (.Subscript o i pos) (gSub to ti) :=
  ⟨PG.imp (pg_sub (ho.pe NoW takes0) (hi.pe NoW takes0) (PSet.or set_list (set_dict hu)) ha) fun v σ H Q h => by
    obtain ⟨S, μ, ρ, d, Ψ, r, en, a, q, k⟩ := h
    refine ⟨S, μ, ρ, NoX, _, r, en, q, noXW, fun v1 d1 μ1 S1 H1 q1 a1 e1 r1 => ⟨S1, μ1, ρ, NoX, _, r1, en.mono e1, q1, noXW, fun v2 d2 μ2 S2 H2 q2 a2 e2 r2 => ?_⟩⟩
    exact set_at r2 (a1.mono e2) a2 (a.mono (e1.trans e2)) q2 fun μ3 H3 q3 r3 => k _ _ _ _ _ q3 (e1.trans e2) r3 (en.mono (e1.trans e2))⟩

def gAsg (te : GE) (g : GG) : GS := fun E ρ μ => te ρ μ (E.ex ρ) fun d μ1 => g d ρ μ1 E.nx
theorem asg_imp {K : PySem.W.Frag} {W : WX} {Z : Ends} {σ : L2.St} {H : Hp} {te : TE} (hi : ∀ Q, rdE K W t σ H Q → te σ H Q) (h : rdS K W (gAsg t g) Z σ H) : tAsg te (rdG K g) Z σ H := by
  obtain ⟨S, μ, ρ, E, r, en, q, ew⟩ := h
  exact hi _ ⟨S, μ, ρ, _, _, r, en, q, ew.ex ρ σ S (Evl.Ex.refl S) en, fun v d μ1 S1 H1 q1 a1 e1 r1 => ⟨S1, μ1, ρ, d, _, r1, en.mono e1, a1, q1, fun ρ' μ' σ' S' H' q' e' r' en' => ew.nx _ _ _ _ _ q' (e1.trans e') r' en'⟩⟩
theorem ss_asg (h : SE X e t) (hg : SG X tg g) (hs : swapsWithSole [tg] e pos.line X.env = pure false := by rfl) (hw : swappedStores [tg] e X.env = pure none := by rfl)
    (h1 : (assignEach [tg] X.env).map (·.2) = [assign tg X.env] := by rfl) : SS X (.Assign [tg] e pos) (gAsg t g) := ⟨fun W tk => PS.imp (ps_asg (h.pe W tk) hg.pg hs hw h1) fun Z σ H h => asg_imp (fun _ q => q) h⟩
theorem ss_set (i : Nat) {x : Str} {pos' : Pos} (hN : X.N.Nodup) (hi : X.N[i]? = some x) (hx : Loc X.env.scope x) (h : SE X e t) (hs : swapsWith e (some (.Name x pos')) pos.line X.env = pure false := by rfl)
    (hf : X.fn x = true ∨ X.env.scope.names.lookup x = some .local := by first | exact .inl rfl | exact .inr rfl | assumption) : SS X (.Assign [.Name x pos'] e pos) (gAsg t (gN i)) :=
  ⟨fun W tk => PS.imp (ps_set hN hi hx (h.pe W tk) hs hf) fun Z σ H h => by
    obtain ⟨S, μ, ρ, E, r, en, q, ew⟩ := h
    exact ⟨S, μ, ρ, _, _, r, en, q, ew.ex ρ σ S (Evl.Ex.refl S) en, fun v d μ1 S1 H1 q1 a1 e1 r1 => ew.nx _ _ _ _ _ q1 e1 r1 ((en.mono e1).set i a1)⟩⟩
/-- a, b = x, y of plain local names -/
def gPar (i j : Nat) (ta : GA) : GS := fun E ρ μ => ta ρ μ (E.ex ρ) fun ds μ1 => match ds with | [d1, d2] => E.nx ((ρ.set i (some d1)).set j (some d2)) μ1 | _ => False
theorem ss_par (i j : Nat) {x y : Str} {px py pt : Pos} {kt k2 pt2} (hc : X.calm = true) (hN : X.N.Nodup) (hi : X.N[i]? = some x) (hj : X.N[j]? = some y) (hij : i ≠ j)
    (hx : X.env.scope.names.lookup x = some .local) (hy : X.env.scope.names.lookup y = some .local) (ha : SA X [a, b] tr)
    (hw : swappedStores [.Tuple [.Name x px, .Name y py] kt pt] (.Tuple [a, b] k2 pt2) X.env = pure (some [x, y]) := by rfl)
    (hs : swapsWithSole [.Tuple [.Name x px, .Name y py] kt pt] (.Tuple [a, b] k2 pt2) pos.line X.env = pure false := by rfl) :
    SS X (.Assign [.Tuple [.Name x px, .Name y py] kt pt] (.Tuple [a, b] k2 pt2) pos) (gPar i j tr) :=
  ⟨fun W tk => PS.imp (ps_par hc hN hi hj hij hx hy (ha.pa W tk) hw hs) fun Z σ H h => by
    obtain ⟨S, μ, ρ, E, r, en, q, ew⟩ := h
    refine ⟨S, μ, ρ, _, _, r, en, q, ew.ex ρ σ S (Evl.Ex.refl S) en, fun vs ds μ1 S1 H1 q1 a1 e1 r1 => ?_⟩
    cases a1 with
    | nil => cases q1
    | cons a1 a2 =>
      cases a2 with
      | nil => cases q1
      | cons a2 a3 =>
        cases a3 with
        | cons _ _ => cases q1
        | nil => exact ⟨_, _, rfl, ew.nx _ _ _ _ _ q1 e1 r1 (((en.mono e1).set i a1).set j a2)⟩⟩
/-- name op= e -/
def gAug (i : Nat) (te : GE) (R : R2D) : GS := fun E ρ μ => match ρ[i]? with
  | some (some d) => te ρ μ (E.ex ρ) fun d2 μ1 => R d d2 μ1 fun d3 μ2 => E.nx (ρ.set i (some d3)) μ2
  | _ => False
theorem ss_aug (i : Nat) {x : Str} {op : Operator} {r : R2} {R : R2D} {pos' : Pos} (ho : OpR X (inplaceOp op) r) (hr : RD X.K r R) (hN : X.N.Nodup) (hi : X.N[i]? = some x) (hx : Loc X.env.scope x) (he : SE X e t)
    (hf : X.fn x = true ∨ X.env.scope.names.lookup x = some .local := by first | exact .inl rfl | exact .inr rfl | assumption) : SS X (.AugAssign (.Name x pos') op e pos) (gAug i t R) :=
  ⟨fun W tk => PS.imp (ps_aug hN hi hx (he.pe W tk) ho hf) fun Z σ H h => by
    obtain ⟨S, μ, ρ, E, rl, en, q, ew⟩ := h
    unfold gAug at q
    split at q
    · rename_i d ed
      obtain ⟨v, h1, h2⟩ := en.get i d ed
      exact ⟨v, h1, S, μ, ρ, _, _, rl, en, q, ew.ex ρ σ S (Evl.Ex.refl S) en, fun v2 d2 μ1 S1 H1 q1 a1 e1 r1 => hr S1 μ1 H1 v v2 d d2 _ _ r1 (h2.mono e1) a1 q1
        fun v3 d3 μ2 S2 H2 q2 a2 e2 r2 => ew.nx _ _ _ _ _ q2 (e1.trans e2) r2 ((en.mono (e1.trans e2)).set i a2)⟩
    · cases q⟩
theorem ss_augAdd (i : Nat) {x : Str} {pos' : Pos} (hN : X.N.Nodup) (hi : X.N[i]? = some x) (hx : Loc X.env.scope x) (he : SE X e t)
    (hf : X.fn x = true ∨ X.env.scope.names.lookup x = some .local := by first | exact .inl rfl | exact .inr rfl | assumption) : SS X (.AugAssign (.Name x pos') .Add e pos) (gAug i t (IBI fun i j => .int (i + j))) :=
  ss_aug i iop_add (rd_I0 fun _ _ _ _ => .int _) hN hi hx he hf

/-! ### while -/
def gWhile (c : GT) (tb : GS) : GS := fun E ρ μ => ∃ I : Nat → Rho → Mu → Prop, (∃ m, I m ρ μ) ∧ ∀ m ρ μ, I m ρ μ →
  c ρ μ (E.ex ρ) fun b μ1 => if b = true then tb { E with nx := fun ρ' μ' => ∃ m', m' < m ∧ I m' ρ' μ', ct := fun ρ' μ' => ∃ m', m' < m ∧ I m' ρ' μ', bk := E.nx } ρ μ1 else E.nx ρ μ1
theorem ss_while (hp : PassesOwn (model X.prog X.w) X.A X.env X.xe) (hc : ST X c u) (hb : SSs X ss s1) : SS X (.While c ss [] pos) (gWhile u s1) :=
  ⟨fun W tk => PS.imp (ps_while hp (hc.pt W tk) (hb.pss W tk)) fun Z σ H h => by
    obtain ⟨S, μ, ρ, E, rl, en, ⟨I, ⟨m0, i0⟩, turn⟩, ew⟩ := h
    refine ⟨fun m σ' H' => ∃ S' μ' ρ', Ex S S' ∧ Rel X.K S' μ' H' ∧ Slt X.K S' σ' ρ' ∧ I m ρ' μ', ⟨m0, S, μ, ρ, Evl.Ex.refl S, rl, en, i0⟩, ?_⟩
    rintro m σ' H' ⟨S', μ', ρ', e', r', en', im⟩
    refine ⟨S', μ', ρ', _, _, r', en', turn m ρ' μ' im, ew.ex ρ' σ' S' e' en', fun b μ1 S1 H1 q1 e1 r1 => ?_⟩
    cases b with
    | true =>
      refine ⟨fun σ2 H2 => ∃ m', m' < m ∧ ∃ S2 μ2 ρ2, Ex S S2 ∧ Rel X.K S2 μ2 H2 ∧ Slt X.K S2 σ2 ρ2 ∧ I m' ρ2 μ2, fun _ _ q => q, S1, μ1, ρ', _, r1, en'.mono e1, q1, ?_⟩
      have ew1 := ew.mono (e'.trans e1)
      exact { ew1 with
        nx := fun ρ2 μ2 σ2 S2 H2 q2 e2 r2 en2 => by
          obtain ⟨m', hm, i2⟩ := q2
          exact ⟨m', hm, S2, μ2, ρ2, (e'.trans e1).trans e2, r2, en2, i2⟩
        ct := fun ρ2 μ2 σ2 S2 H2 q2 e2 r2 en2 => by
          obtain ⟨m', hm, i2⟩ := q2
          exact ⟨m', hm, S2, μ2, ρ2, (e'.trans e1).trans e2, r2, en2, i2⟩
        bk := ew1.nx }
    | false => exact ew.nx _ _ _ _ _ q1 (e'.trans e1) r1 (en'.mono e1)⟩

/-! ### what is walked -/
/-- the items, and what must stay true of what is owned while they are walked -/
abbrev GI := Rho → Mu → Th → (List D → (Mu → Prop) → Mu → Prop) → Prop
abbrev GF : Mu → Prop := fun _ => True
/-- an iterator over data -/
def ItOk (K : PySem.W.Frag) (S : Hp) (J : It) (items : List D) (G : Mu → Prop) : Prop := ∀ i H μ S1, Ex S S1 → Rel K S1 μ H → G μ →
  (∀ d, items[i]? = some d → J.go i H ∧ ∀ x H', J.yld i H x H' → ∃ S', Ex S1 S' ∧ Rel K S' μ H' ∧ At K S' d x) ∧ (i = items.length → J.stop i H)
def rdI (K : PySem.W.Frag) (W : WX) (t : GI) : TI := fun σ H R => ∃ S μ ρ Θ Φ, Rel K S μ H ∧ Slt K S σ ρ ∧ t ρ μ Θ Φ ∧ XW K W σ S Θ ∧
  ∀ items G μ' S' H' J, Φ items G μ' → Ex S S' → Rel K S' μ' H' → ItOk K S' J items G → R J H'
structure SI (X : Cx) (tg iter : Expr) (t : GI) : Prop where
  pi : ∀ W, Takes X W → PI X tg iter (rdI X.K W t)
theorem PI.imp {X : Cx} {tg e : Expr} {t u : TI} (h : PI X tg e t) (i : ∀ σ H Q, u σ H Q → t σ H Q) : PI X tg e u := ⟨fun pins s σ H Q I q => h.run pins s σ H Q I (i σ H Q q)⟩
/-- a sequence as it stands now is the data -/
theorem itL {K : PySem.W.Frag} {S : Hp} {a : Addr} {l : List D} {G : Mu → Prop} (sq : ∀ S1 H μ, Ex S S1 → Rel K S1 μ H → G μ → ∃ xs, SqL K H a xs ∧ AtL K S1 l xs) : ItOk K S (Itl K a) l G := by
  intro i H μ S1 e r g
  obtain ⟨xs, q, t⟩ := sq S1 H μ e r g
  refine ⟨fun d hd => ?_, fun e2 => ⟨xs, q, by rw [e2, t.len]; exact Nat.le_refl _⟩⟩
  obtain ⟨v, h1, h2⟩ := t.get hd
  refine ⟨⟨xs, v, q, h1⟩, fun x H' y => ?_⟩
  obtain ⟨rfl, y⟩ := y
  have := y xs q
  rw [h1] at this
  cases this
  exact ⟨S1, Evl.Ex.refl S1, r, h2⟩
theorem itT {K : PySem.W.Frag} {S : Hp} {a : Addr} {xs : List V} {l : List D} {G : Mu → Prop} (sq : SqT K S a xs) (t : AtL K S l xs) : ItOk K S (Itt K a) l G := by
  intro i H μ S1 e r _
  have q : SqT K H a xs := r.ex.tup (exT e sq)
  refine ⟨fun d hd => ?_, fun e2 => ⟨xs, q, by rw [e2, t.len]; exact Nat.le_refl _⟩⟩
  obtain ⟨v, h1, h2⟩ := t.get hd
  refine ⟨⟨xs, v, q, h1⟩, fun x H' y => ?_⟩
  obtain ⟨rfl, y⟩ := y
  have := y xs q
  rw [h1] at this
  cases this
  exact ⟨S1, Evl.Ex.refl S1, r, h2.mono e⟩
/-- a list or a tuple, whichever -/
def iSeq (K : PySem.W.Frag) (te : TE) : TI := fun σ H R => te σ H fun x H1 => ∃ a, x = .ref a ∧ (((∃ xs, SqL K H1 a xs) ∧ R (Itl K a) H1) ∨ ((∃ xs, SqT K H1 a xs) ∧ R (Itt K a) H1))
theorem pi_seq {l : Expr} {te : TE} (hl : PE X l te) : PI X tg l (iSeq X.K te) := by
  refine ⟨fun pins s σ H R I h => thn (hl.run pins s σ H _ I h) fun v s1 ⟨x, H1, I1, r1, q1⟩ => ?_⟩
  have fr : ∀ b, b ∈ [s1.heap.objs.size] → FpOk X pins H1 b := fun b hb => by
    obtain rfl : b = s1.heap.objs.size := by simpa using hb
    exact I1.fpOk (Nat.le_refl _) (I1.hok.fresh (Nat.le_refl _))
  have kp : ∀ ob : Obj, ∀ b u, s1.heap.get? b = some u → (s1.heap.push ob).get? b = some u := fun ob b u q => Heap.get?_push_of_some _ q
  obtain ⟨a, rfl, q⟩ := q1
  cases r1
  rcases q with ⟨⟨xs, sq⟩, q⟩ | ⟨⟨xs, sq⟩, q⟩
  · obtain ⟨its, rv, p, _⟩ := I1.list sq
    exact wpAny_pyIter_list p.isList ⟨s1.heap.objs.size, [s1.heap.objs.size], _, _, H1, rfl, I1.kept (t' := s1.toks) (kp _), turn_list a _, ⟨_, Heap.get?_push_size _ rfl, rfl, rfl⟩, fr, q⟩
  · obtain ⟨its, rv, p, _⟩ := I1.tuple sq
    exact wpAny_pyIter_tuple (show s1.heap.IsTuple a its.toArray from p) ⟨s1.heap.objs.size, [s1.heap.objs.size], _, _, H1, rfl, I1.kept (t' := s1.toks) (kp _), turn_tuple a _, ⟨_, Heap.get?_push_size _ rfl, rfl, rfl⟩, fr, q⟩
def iSeqD (t : GE) : GI := fun ρ μ Θ Φ => t ρ μ Θ fun d μ1 => ∃ l, IsQ μ1 d l ∧ Φ l (fun μ => IsQ μ d l) μ1
theorem si_seq (h : SE X e t) : SI X tg e (iSeqD t) := ⟨fun W tk => PI.imp (pi_seq (h.pe W tk)) fun σ H R h => by
  obtain ⟨S, μ, ρ, Θ, Φ, r, en, q, xw, k⟩ := h
  refine ⟨S, μ, ρ, Θ, _, r, en, q, xw, fun v d μ1 S1 H1 q1 a1 e1 r1 => ?_⟩
  obtain ⟨l, hl, q1⟩ := q1
  cases a1 with
  | tup sq t => cases hl; exact ⟨_, rfl, .inr ⟨⟨_, r1.ex.tup sq⟩, k _ _ _ _ _ _ q1 e1 r1 (itT sq t)⟩⟩
  | lst sq t => cases hl; exact ⟨_, rfl, .inl ⟨⟨_, SqL.of (r1.ex.lst sq)⟩, k _ _ _ _ _ _ q1 e1 r1 (itL fun S2 H2 μ2 e2 r2 _ => ⟨_, SqL.of (r2.ex.lst (e2 _ _ sq)), t.mono e2⟩)⟩⟩
  | rdl sq t => cases hl; exact ⟨_, rfl, .inl ⟨⟨_, r1.ex.rdl sq⟩, k _ _ _ _ _ _ q1 e1 r1 (itL fun S2 H2 μ2 e2 r2 _ => ⟨_, r2.ex.rdl (exL e2 sq), t.mono e2⟩)⟩⟩
  | ptr p =>
    obtain ⟨_, xs, eH, t⟩ := r1.own _ _ hl
    exact ⟨_, rfl, .inl ⟨⟨_, SqL.of eH⟩, k _ _ _ _ _ _ q1 e1 r1 (itL fun S2 H2 μ2 e2 r2 g => by obtain ⟨_, ys, e3, t3⟩ := r2.own _ _ g; exact ⟨ys, SqL.of e3, t3⟩)⟩⟩
  | _ => cases hl⟩
/-- range(n), range(m, n) -/
def rngL (lo : Int) (n : Nat) : List D := (List.range n).map fun (k : Nat) => D.int (lo + (k : Int))
theorem rngL_get {lo : Int} {n i : Nat} : (rngL lo n)[i]? = if i < n then some (.int (lo + (i : Int))) else none := by
  unfold rngL
  rw [List.getElem?_map]
  by_cases h : i < n
  · rw [if_pos h, List.getElem?_range h]; rfl
  · rw [if_neg h, List.getElem?_eq_none (by simpa using h)]; rfl
theorem itR {K : PySem.W.Frag} {S : Hp} {lo : Int} {n : Nat} {G : Mu → Prop} : ItOk K S (Itr lo n) (rngL lo n) G := by
  intro i H μ S1 e r _
  refine ⟨?_, ?_⟩
  · intro d hd
    rw [rngL_get] at hd
    by_cases h : i < n
    · rw [if_pos h] at hd
      cases hd
      refine ⟨h, ?_⟩
      rintro x H' ⟨rfl, rfl⟩
      exact ⟨S1, Evl.Ex.refl S1, r, .int _⟩
    · rw [if_neg h] at hd; cases hd
  · intro e2
    have : (rngL lo n).length = n := by simp [rngL]
    show n ≤ i
    omega
def RLim (i : Int) : Prop := -(2 ^ 62) ≤ i ∧ i < 2 ^ 62
def iRng1D (ta : GA) : GI := fun ρ μ Θ Φ => ta ρ μ Θ fun ds μ1 => match ds with | [.int j] => RLim j ∧ Φ (rngL 0 j.toNat) GF μ1 | _ => False
def iRng2D (ta : GA) : GI := fun ρ μ Θ Φ => ta ρ μ Θ fun ds μ1 => match ds with | [.int i, .int j] => RLim i ∧ RLim j ∧ Φ (rngL i (j - i).toNat) GF μ1 | _ => False
theorem si_range1 {p : Pos} (hg : Gl X "range") (hm : X.mg "range" = none) (ha : SA X [a] tr) (hs : starEach [a] X.env = [(false, eval a X.env)] := by rfl) : SI X tg (.Call (.Name "range" p) [a] [] pos) (iRng1D tr) :=
  ⟨fun W tk => PI.imp (pi_range1 hg hm (ha.pa W tk) hs) fun σ H R h => by
    obtain ⟨S, μ, ρ, Θ, Φ, r, en, q, xw, k⟩ := h
    refine ⟨S, μ, ρ, Θ, _, r, en, q, xw, fun vs ds μ1 S1 H1 q1 a1 e1 r1 => ?_⟩
    cases a1 with
    | nil => cases q1
    | cons a1 a2 =>
      cases a2 with
      | cons _ _ => unfold iRng1D at q; split at q1 <;> simp_all
      | nil =>
        cases a1 with
        | int j => exact ⟨j, rfl, q1.1.1, q1.1.2, k _ _ _ _ _ _ q1.2 e1 r1 itR⟩
        | _ => cases q1⟩
theorem si_range2 {p : Pos} (hg : Gl X "range") (hm : X.mg "range" = none) (ha : SA X [a, b] tr) (hs : starEach [a, b] X.env = [(false, eval a X.env), (false, eval b X.env)] := by rfl) (hs2 : starEach [b] X.env = [(false, eval b X.env)] := by rfl) : SI X tg (.Call (.Name "range" p) [a, b] [] pos) (iRng2D tr) :=
  ⟨fun W tk => PI.imp (pi_range2 hg hm (ha.pa W tk) hs hs2) fun σ H R h => by
    obtain ⟨S, μ, ρ, Θ, Φ, r, en, q, xw, k⟩ := h
    refine ⟨S, μ, ρ, Θ, _, r, en, q, xw, fun vs ds μ1 S1 H1 q1 a1 e1 r1 => ?_⟩
    cases a1 with
    | nil => cases q1
    | cons a1 a2 =>
      cases a2 with
      | nil => split at q1 <;> simp_all
      | cons a2 a3 =>
        cases a3 with
        | cons _ _ => split at q1 <;> simp_all
        | nil =>
          cases a1 with
          | int i =>
            cases a2 with
            | int j => exact ⟨i, j, rfl, ⟨q1.1.1, q1.1.2, q1.2.1.1, q1.2.1.2⟩, k _ _ _ _ _ _ q1.2.2 e1 r1 itR⟩
            | _ => cases q1
          | _ => cases q1⟩

/-! ### for -/
def gFor (wi : GI) (g : GG) (tb : GS) : GS := fun E ρ μ => wi ρ μ (E.ex ρ) fun items G μ1 => ∃ I : Nat → Rho → Mu → Prop, I 0 ρ μ1 ∧ (∀ i ρ' μ', I i ρ' μ' → G μ') ∧
  (∀ i d ρ' μ', items[i]? = some d → I i ρ' μ' → g d ρ' μ' fun ρ2 μ2 => tb { E with nx := I (i + 1), ct := I (i + 1), bk := E.nx } ρ2 μ2) ∧ ∀ ρ' μ', I items.length ρ' μ' → E.nx ρ' μ'
theorem ss_for {wi : GI} (hp : PassesOwn (model X.prog X.w) X.A X.env X.xe) (hc : X.calm = true) (hi : SI X tg e wi) (hg : SG X tg g) (hb : SSs X ss s1) (hs : ∀ x, foldedSetIterable e X.env x = pure x := by intro _; rfl) : SS X (.For tg e ss [] pos) (gFor wi g s1) :=
  ⟨fun W tk => PS.imp (ps_for hp hc (hi.pi W tk) hg.pg (hb.pss W tk) hs) fun Z σ H h => by
    obtain ⟨S, μ, ρ, E, rl, en, q, ew⟩ := h
    refine ⟨S, μ, ρ, _, _, rl, en, q, ew.ex ρ σ S (Evl.Ex.refl S) en, fun items G μ1 S1 H1 J q1 e1 r1 ok => ?_⟩
    obtain ⟨I, i0, hG, turn, last⟩ := q1
    refine ⟨fun i m σ' H' => m = items.length - i ∧ i ≤ items.length ∧ ∃ S' μ' ρ', Ex S1 S' ∧ Rel X.K S' μ' H' ∧ Slt X.K S' σ' ρ' ∧ I i ρ' μ', ⟨items.length, by simp, Nat.zero_le _, S1, μ1, ρ, Evl.Ex.refl S1, r1, en.mono e1, i0⟩, ?_⟩
    rintro i m σ' H' ⟨rfl, hi, S', μ', ρ', e', r', en', im⟩
    obtain ⟨go, stop⟩ := ok i H' μ' S' e' r' (hG i ρ' μ' im)
    by_cases hlt : i < items.length
    · have hd : items[i]? = some items[i] := by simp [hlt]
      obtain ⟨g1, y1⟩ := go _ hd
      refine .inr ⟨g1, fun σ2 H2 => i + 1 ≤ items.length ∧ ∃ S2 μ2 ρ2, Ex S1 S2 ∧ Rel X.K S2 μ2 H2 ∧ Slt X.K S2 σ2 ρ2 ∧ I (i + 1) ρ2 μ2, fun σ2 H2 q2 => ⟨items.length - (i + 1), by omega, rfl, q2⟩, fun x H2 y => ?_⟩
      obtain ⟨S2, e2, r2, a2⟩ := y1 x H2 y
      refine ⟨S2, μ', ρ', _, _, r2, en'.mono e2, a2, turn i _ ρ' μ' hd im, fun ρ3 μ3 σ3 S3 H3 q3 e3 r3 en3 => ?_⟩
      have e13 : Ex S1 S3 := (e'.trans e2).trans e3
      have ew1 := ew.mono (e1.trans e13)
      exact ⟨S3, μ3, ρ3, _, r3, en3, q3, { ew1 with
        nx := fun ρ4 μ4 σ4 S4 H4 q4 e4 r4 en4 => ⟨hlt, S4, μ4, ρ4, e13.trans e4, r4, en4, q4⟩
        ct := fun ρ4 μ4 σ4 S4 H4 q4 e4 r4 en4 => ⟨hlt, S4, μ4, ρ4, e13.trans e4, r4, en4, q4⟩
        bk := ew1.nx }⟩
    · have e0 : i = items.length := by omega
      subst e0
      exact .inl ⟨stop rfl, ew.nx _ _ _ _ _ (last ρ' μ' im) (e1.trans e') r' en'⟩⟩

/-! ### comprehensions -/
def wipeR (ρ : Rho) : List Nat → Rho
  | [] => ρ
  | v :: vs => (wipeR ρ vs).set v none
theorem Slt.wipe {K : PySem.W.Frag} {S : Hp} {σ : L2.St} {ρ : Rho} (h : Slt K S σ ρ) : ∀ vs, Slt K S (wipe σ vs) (wipeR ρ vs)
  | [] => h
  | v :: vs => by unfold L2.wipe wipeR; exact (Slt.wipe h vs).setN v none
theorem wipe_out {i : Nat} {x : Option V} : ∀ {vs : List Nat} {σ : L2.St}, i ∉ vs → L2.wipe (σ.set i x) vs = (L2.wipe σ vs).set i x
  | [], _, _ => rfl
  | v :: vs, σ, h => by
    have hv : i ≠ v := fun z => h (by simp [z])
    have hs : i ∉ vs := fun z => h (by simp [z])
    unfold L2.wipe
    rw [wipe_out hs, List.set_comm _ _ hv]
theorem wipe_in {i : Nat} {x : Option V} : ∀ {vs : List Nat} {σ : L2.St}, i ∈ vs → L2.wipe (σ.set i x) vs = L2.wipe σ vs
  | [], _, h => by cases h
  | v :: vs, σ, h => by
    unfold L2.wipe
    by_cases hs : i ∈ vs
    · rw [wipe_in hs]
    · have e : i = v := by
        rcases List.mem_cons.mp h with z | z
        · exact z
        · exact absurd z hs
      subst e
      rw [wipe_out hs, List.set_set]
/-- the target of a comprehension: it stores names at vs alone -/
def KRc (K : PySem.W.Frag) (S : Hp) (vs : List Nat) (σ : L2.St) (Ψ : Rho → Mu → Prop) (Q : L2.St → Hp → Prop) : Prop := ∀ ρ' μ' σ' S' H', Ψ ρ' μ' → Ex S S' → Rel K S' μ' H' → Slt K S' σ' ρ' → L2.wipe σ' vs = L2.wipe σ vs → Q σ' H'
def rdGc (K : PySem.W.Frag) (vs : List Nat) (g : GG) : TG := fun v σ H Q => ∃ S μ ρ d Ψ, Rel K S μ H ∧ Slt K S σ ρ ∧ At K S d v ∧ g d ρ μ Ψ ∧ KRc K S vs σ Ψ Q
def rdGcs (K : PySem.W.Frag) (vs : List Nat) (g : GGs) : TGs := fun v σ H Q => ∃ S μ ρ d Ψ, Rel K S μ H ∧ Slt K S σ ρ ∧ AtL K S d v ∧ g d ρ μ Ψ ∧ KRc K S vs σ Ψ Q
structure SGc (X : Cx) (tg : Expr) (vs : List Nat) (g : GG) : Prop where
  pg : PG X tg (rdGc X.K vs g)
structure SGcs (X : Cx) (tg : List Expr) (vs : List Nat) (g : GGs) : Prop where
  pgs : PGs X tg (rdGcs X.K vs g)
variable {vs : List Nat}
theorem sc_name (i : Nat) {x : Str} (hN : X.N.Nodup) (hi : X.N[i]? = some x) (hx : Loc X.env.scope x) (hv : i ∈ vs) (hf : X.fn x = true ∨ X.env.scope.names.lookup x = some .local := by first | exact .inl rfl | exact .inr rfl | assumption) : SGc X (.Name x pos) vs (gN i) :=
  ⟨PG.imp (pg_name hN hi hx hf) fun v σ H Q h => by
    obtain ⟨S, μ, ρ, d, Ψ, r, en, a, q, k⟩ := h
    exact k _ _ _ _ _ q (Evl.Ex.refl S) r (en.set i a) (wipe_in hv)⟩
theorem scs_nil : SGcs X [] vs gsNil := ⟨PGs.imp pgs_nil fun v σ H Q h => by
  obtain ⟨S, μ, ρ, ds, Ψ, r, en, a, ⟨e, q⟩, k⟩ := h
  subst e
  cases a
  exact ⟨rfl, k _ _ _ _ _ q (Evl.Ex.refl S) r en rfl⟩⟩
theorem scs_cons (h1 : SGc X tg vs g) (h2 : SGcs X tgs vs gs) (hs : (assignEach (tg :: tgs) X.env).map (·.2) = assign tg X.env :: (assignEach tgs X.env).map (·.2) := by rfl) : SGcs X (tg :: tgs) vs (gsCons g gs) :=
  ⟨PGs.imp (pgs_cons h1.pg h2.pgs hs) fun v σ H Q h => by
    obtain ⟨S, μ, ρ, ds, Ψ, r, en, a, q, k⟩ := h
    cases a with
    | nil => cases q
    | cons a1 a2 =>
      refine ⟨_, _, rfl, S, μ, ρ, _, _, r, en, a1, q, fun ρ1 μ1 σ1 S1 H1 q1 e1 r1 en1 w1 => ?_⟩
      exact ⟨S1, μ1, ρ1, _, Ψ, r1, en1, a2.mono e1, q1, fun ρ2 μ2 σ2 S2 H2 q2 e2 r2 en2 w2 => k _ _ _ _ _ q2 (e1.trans e2) r2 en2 (w2.trans w1)⟩⟩
theorem sc_tup {k : Nat} {n : Nat} (hc : X.calm = true) (h : SGcs X tgs vs gs) (hn : (assignEach tgs X.env).length = n := by rfl) (hst : (assignEach tgs X.env).findIdx? (·.1) = none := by rfl) : SGc X (.Tuple tgs k pos) vs (gT n gs) :=
  ⟨PG.imp (pg_tup hc h.pgs hn hst) fun v σ H Q h => by
    obtain ⟨S, μ, ρ, d, Ψ, r, en, a, q, k⟩ := h
    cases a with
    | tup e t => exact ⟨_, _, rfl, r.ex.tup e, by rw [← t.len]; exact q.1, S, μ, ρ, _, Ψ, r, en, t, q.2, k⟩
    | _ => cases q⟩
/-- the tests of a comprehension -/
structure STs (X : Cx) (es : List Expr) (t : GT) : Prop where
  pts : ∀ W, Takes X W → PTs X es (rdT X.K W t)
def gYes : GT := fun _ μ _ Φ => Φ true μ
theorem PTs.imp {X : Cx} {e : List Expr} {t u : TT} (h : PTs X e t) (i : ∀ σ H Q, u σ H Q → t σ H Q) : PTs X e u := ⟨fun pins s σ H Q I q => h.run pins s σ H Q I (i σ H Q q)⟩
theorem sts_nil : STs X [] gYes := ⟨fun W tk => PTs.imp pts_nil fun σ H Q h => by
  obtain ⟨S, μ, ρ, Θ, Φ, r, en, q, _, k⟩ := h
  exact k _ _ _ _ q (Evl.Ex.refl S) r⟩
theorem sts_one {c : Expr} (h : ST X c u) : STs X [c] u := ⟨fun W tk => pts_one (h.pt W tk)⟩
/-- the list that grows, kept apart -/
def IsAcc (K : PySem.W.Frag) (S : Hp) (μ : Mu) (H : Hp) (Dl : Addr) (acc : List D) : Prop := S Dl = none ∧ μ Dl = none ∧ ∃ xs, H Dl = some (.lst xs) ∧ AtL K S acc xs
end
end GD

/-! Gd6: comprehensions, calls of defs, contracts -/
namespace GD
open PySem PySem.Spec PyProof.Rows L2

theorem wipe_wipe : ∀ {vs : List Nat} {σ : L2.St}, L2.wipe (L2.wipe σ vs) vs = L2.wipe σ vs
  | [], _ => rfl
  | v :: vs, σ => by
    show (L2.wipe ((L2.wipe σ vs).set v none) vs).set v none = (L2.wipe σ vs).set v none
    by_cases hs : v ∈ vs
    · rw [wipe_in hs, wipe_wipe]
    · rw [wipe_out hs, wipe_wipe, List.set_set]
def delM (μ : Mu) (a : Addr) : Mu := fun b => if b = a then none else μ b
theorem delM_ne {μ : Mu} {a b : Addr} (h : b ≠ a) : delM μ a b = μ b := by unfold delM; rw [if_neg h]
theorem delM_updM {μ : Mu} {a : Addr} {o : O} (h : μ a = none) : delM (updM μ a o) a = μ := by
  funext b
  unfold delM updM
  by_cases e : b = a
  · rw [if_pos e, e, h]
  · rw [if_neg e, if_neg e]
/-- an owned list is never to be changed any more -/
theorem Rel.frz {K : PySem.W.Frag} {S H : Hp} {μ : Mu} {a : Addr} {l : List D} (r : Rel K S μ H) (e : μ a = some (.lst l)) : ∃ S', Ex S S' ∧ Rel K S' (delM μ a) H ∧ At K S' (.lst l) (.ref a) := by
  obtain ⟨hn, xs, eH, t⟩ := r.own _ _ e
  have ex : Ex S (upd S a (.lst xs)) := Evl.Ex.new hn
  refine ⟨upd S a (.lst xs), ex, ⟨fun b o q => ?_, fun b o q => ?_⟩, .lst upd_same (t.mono ex)⟩
  · by_cases hb : b = a
    · subst hb; rw [upd_same] at q; cases q; exact .inl eH
    · rw [upd_ne hb] at q; exact r.ex b o q
  · have hb : b ≠ a := fun z => by subst z; simp [delM] at q
    rw [delM_ne hb] at q
    obtain ⟨h1, h2⟩ := r.own b o q
    exact ⟨by rw [upd_ne hb]; exact h1, h2.mono ex rfl⟩

section
variable {X : Cx} {e a b c : Expr} {es rest : List Expr} {t ta tb te : GE} {tr : GA} {pos : Pos} {u v tt : GT} {g : GG} {tg iter elt : Expr} {wi : GI} {vs : List Nat}
def gComp (wi : GI) (g : GG) (tt : GT) (te : GE) (vs : List Nat) : GE := fun ρ μ Θ Φ => wi ρ μ Θ fun items G μ1 => ∀ Dl, μ1 Dl = none → ∃ I : Nat → Mu → Prop, I 0 (updM μ1 Dl (.lst [])) ∧ (∀ i μ', I i μ' → G μ') ∧
  (∀ i d μ', items[i]? = some d → I i μ' → g d (wipeR ρ vs) μ' fun ρ2 μ2 => tt ρ2 μ2 NoX fun b μ3 =>
    if b = true then te ρ2 μ3 NoX fun d' μ4 => ∃ acc, μ4 Dl = some (.lst acc) ∧ acc.length < LIM ∧ I (i + 1) (updM μ4 Dl (.lst (acc ++ [d']))) else I (i + 1) μ3) ∧
  ∀ μ', I items.length μ' → ∃ acc, μ' Dl = some (.lst acc) ∧ (Φ (.ptr Dl) μ' ∨ Φ (.lst acc) (delM μ' Dl))
theorem rd_comp {K : PySem.W.Frag} {W : WX} {σ : L2.St} {H : Hp} {Q : VK} (h : rdE K W (gComp wi g tt te vs) σ H Q) : tLc (rdI K W wi) (rdGc K vs g) (rdT K NoW tt) (rdE K NoW te) vs σ H Q := by
  obtain ⟨S, μ, ρ, Θ, Φ, rl, en, q, xw, k⟩ := h
  refine ⟨S, μ, ρ, Θ, _, rl, en, q, xw, fun items G μ1 S1 H1 J q1 e1 r1 ok Dl hD => ?_⟩
  obtain ⟨I, i0, hG, turn, last⟩ := q1 Dl (r1.fresh hD).2
  refine ⟨fun i m H' => m = items.length - i ∧ i ≤ items.length ∧ ∃ S' μ', Ex S1 S' ∧ Rel K S' μ' H' ∧ I i μ', ⟨items.length, by simp, Nat.zero_le _, S1, _, Evl.Ex.refl S1, r1.newO (o := .lst []) hD ⟨[], upd_same, .nil⟩, i0⟩, ?_⟩
  rintro i m H' ⟨rfl, hi, S', μ', e', r', im⟩
  obtain ⟨go, stop⟩ := ok i H' μ' S' e' r' (hG i μ' im)
  by_cases hlt : i < items.length
  · have hd : items[i]? = some items[i] := by simp [hlt]
    obtain ⟨g1, y1⟩ := go _ hd
    refine .inr ⟨g1, fun H2 => i + 1 ≤ items.length ∧ ∃ S2 μ2, Ex S1 S2 ∧ Rel K S2 μ2 H2 ∧ I (i + 1) μ2, fun H2 q2 => ⟨items.length - (i + 1), by omega, rfl, q2⟩, fun x H2 y => ?_⟩
    obtain ⟨S2, e2, r2, a2⟩ := y1 x H2 y
    refine ⟨S2, μ', wipeR ρ vs, _, _, r2, (en.mono ((e1.trans e').trans e2)).wipe vs, a2, turn i _ μ' hd im, fun ρ3 μ3 σ3 S3 H3 q3 e3 r3 en3 w3 => ⟨w3.trans wipe_wipe, ?_⟩⟩
    refine ⟨S3, μ3, ρ3, NoX, _, r3, en3, q3, noXW, fun b μ4 S4 H4 q4 e4 r4 => ?_⟩
    cases b with
    | true =>
      refine ⟨S4, μ4, ρ3, NoX, _, r4, en3.mono e4, q4, noXW, fun v d' μ5 S5 H5 q5 a5 e5 r5 => ?_⟩
      obtain ⟨acc, em, hl, q5⟩ := q5
      obtain ⟨_, xs, eH, t⟩ := r5.own _ _ em
      exact ⟨xs, eH, Nat.lt_of_lt_of_le (by rw [← t.len]; exact hl) (by decide), hlt, S5, _, (((e'.trans e2).trans e3).trans e4).trans e5, r5.chg (o' := .lst (acc ++ [d'])) em ⟨_, upd_same, t.append (.cons a5 .nil)⟩, q5⟩
    | false => exact ⟨hlt, S4, μ4, ((e'.trans e2).trans e3).trans e4, r4, q4⟩
  · have e0 : i = items.length := by omega
    subst e0
    refine .inl ⟨stop rfl, ?_⟩
    obtain ⟨acc, em, h⟩ := last μ' im
    rcases h with h | h
    · exact k _ _ _ _ _ h (.ptr _) (e1.trans e') r'
    · obtain ⟨S2, e2, r2, a2⟩ := r'.frz em
      exact k _ _ _ _ _ h a2 ((e1.trans e').trans e2) r2
section
variable {ifs : List Expr} {scope : Scope} {own : List (Str × Nat)}
theorem se_lc (hc : X.calm = true) (hN : X.N.Nodup) (hi : SI X tg iter wi) (ok : BlkOk X.N X.env.scope scope own)
    (hg : ∀ (s : Shared) (H : Hp) (C : Addr) (cl : List (Str × Addr)) (fp : List Addr), SGc (X.blk s H scope (compEnvC scope cl C X.env) fp) tg (own.map (·.2)) g)
    (ht : ∀ (s : Shared) (H : Hp) (C : Addr) (cl : List (Str × Addr)) (fp : List Addr), STs (X.blk s H scope (compEnvC scope cl C X.env) fp) ifs tt)
    (he : ∀ (s : Shared) (H : Hp) (C : Addr) (cl : List (Str × Addr)) (fp : List Addr), SE (X.blk s H scope (compEnvC scope cl C X.env) fp) elt te) (hs : ∀ x, foldedSetIterable iter X.env x = pure x := by intro _; rfl) :
    SE X (.ListComp elt [⟨tg, iter, ifs, 0⟩] scope pos) (gComp wi g tt te (own.map (·.2))) :=
  ⟨fun W tk => PE.imp (pe_lc hc hN (hi.pi W tk) ok (fun s H C cl fp => (hg s H C cl fp).pg) (fun s H C cl fp => (ht s H C cl fp).pts NoW takes0) (fun s H C cl fp => (he s H C cl fp).pe NoW takes0) hs) fun σ H Q h => rd_comp h⟩
theorem ss_setLc (i : Nat) {y : Str} {py spos : Pos} (hc : X.calm = true) (hN : X.N.Nodup) (hy : X.N[i]? = some y) (hyl : X.env.scope.names.lookup y = some .local)
    (hsw : swapsWith (.ListComp elt [⟨tg, iter, ifs, 0⟩] scope pos) (some (.Name y py)) spos.line X.env = pure true) (hi : SI X tg iter wi) (ok : BlkOk X.N X.env.scope scope own)
    (hg : ∀ (s : Shared) (H : Hp) (C : Addr) (cl : List (Str × Addr)) (fp : List Addr), SGc (X.blk s H scope (compEnvC scope cl C X.env) fp) tg (own.map (·.2)) g)
    (ht : ∀ (s : Shared) (H : Hp) (C : Addr) (cl : List (Str × Addr)) (fp : List Addr), STs (X.blk s H scope (compEnvC scope cl C X.env) fp) ifs tt)
    (he : ∀ (s : Shared) (H : Hp) (C : Addr) (cl : List (Str × Addr)) (fp : List Addr), SE (X.blk s H scope (compEnvC scope cl C X.env) fp) elt te) (hs : ∀ x, foldedSetIterable iter X.env x = pure x := by intro _; rfl) :
    SS X (.Assign [.Name y py] (.ListComp elt [⟨tg, iter, ifs, 0⟩] scope pos) spos) (gAsg (gComp wi g tt te (own.map (·.2))) (gN i)) :=
  ⟨fun W tk => PS.imp (ps_setLc hc hN hy hyl hsw (hi.pi W tk) ok (fun s H C cl fp => (hg s H C cl fp).pg) (fun s H C cl fp => (ht s H C cl fp).pts NoW takes0) (fun s H C cl fp => (he s H C cl fp).pe NoW takes0) hs) fun Z σ H h => by
    obtain ⟨S, μ, ρ, E, r, en, q, ew⟩ := h
    exact rd_comp ⟨S, μ, ρ, _, _, r, en, q, ew.ex ρ σ S (Evl.Ex.refl S) en, fun v d μ1 S1 H1 q1 a1 e1 r1 => ew.nx _ _ _ _ _ q1 e1 r1 ((en.mono e1).set i a1)⟩⟩
end
/-- a comprehension whose elements leave what is owned as it is -/
theorem comp_pure {ρ : Rho} {μ : Mu} {Θ : Th} {Φ : Kd} (items : List D) (p : D → Bool) (f : D → D) {G : Mu → Prop} (hG : ∀ Dl o, μ Dl = none → G (updM μ Dl o)) (hz : items.length ≤ LIM)
    (body : ∀ d ∈ items, ∀ (μ' : Mu) (Ψ : Kd) (N : Mu → Prop), (p d = true → Ψ (f d) μ') → (p d = false → N μ') → g d (wipeR ρ vs) μ' fun ρ2 μ2 => tt ρ2 μ2 NoX fun b μ3 => if b = true then te ρ2 μ3 NoX Ψ else N μ3)
    (fin : NewL ((items.filter p).map f) μ Φ) : ∀ Dl, μ Dl = none → ∃ I : Nat → Mu → Prop, I 0 (updM μ Dl (.lst [])) ∧ (∀ i μ', I i μ' → G μ') ∧
  (∀ i d μ', items[i]? = some d → I i μ' → g d (wipeR ρ vs) μ' fun ρ2 μ2 => tt ρ2 μ2 NoX fun b μ3 =>
    if b = true then te ρ2 μ3 NoX fun d' μ4 => ∃ acc, μ4 Dl = some (.lst acc) ∧ acc.length < LIM ∧ I (i + 1) (updM μ4 Dl (.lst (acc ++ [d']))) else I (i + 1) μ3) ∧
  ∀ μ', I items.length μ' → ∃ acc, μ' Dl = some (.lst acc) ∧ (Φ (.ptr Dl) μ' ∨ Φ (.lst acc) (delM μ' Dl)) := by
  intro Dl hD
  refine ⟨fun i μ' => μ' = updM μ Dl (.lst (((items.take i).filter p).map f)), rfl, fun i μ' h => by rw [h]; exact hG _ _ hD, ?_, ?_⟩
  · rintro i d μ' hd rfl
    have hi : i < items.length := (List.getElem?_eq_some_iff.mp hd).1
    have hlen : (((items.take i).filter p).map f).length ≤ i := by
      rw [List.length_map]
      refine Nat.le_trans (List.length_filter_le _ _) ?_
      rw [List.length_take]
      exact Nat.min_le_left _ _
    have ht : items.take (i + 1) = items.take i ++ [d] := by
      rw [List.take_add_one, hd]
      rfl
    refine body d (List.mem_of_getElem? hd) _ _ (fun μ3 => μ3 = updM μ Dl (.lst (((items.take (i + 1)).filter p).map f))) (fun hp => ⟨_, updM_same, by omega, ?_⟩) (fun hp => ?_)
    · show updM (updM μ Dl _) Dl _ = updM μ Dl (.lst (((items.take (i + 1)).filter p).map f))
      rw [updM_updM, ht, List.filter_append, List.filter_cons, if_pos hp, List.filter_nil, List.map_append]
      rfl
    · rw [ht, List.filter_append, List.filter_cons, if_neg (by rw [hp]; decide), List.filter_nil, List.append_nil]
  · rintro μ' rfl
    rw [List.take_length]
    refine ⟨_, updM_same, ?_⟩
    rcases fin with n | n
    · rw [delM_updM hD]; exact .inr n
    · exact .inl (n Dl hD)

/-! ### contracts -/
abbrev Con := List D → Mu → Kd → Th → Prop
def spD (K : PySem.W.Frag) (c : Con) : Sp := fun vs H Q E => ∃ S μ ds Φ Θ, Rel K S μ H ∧ AtL K S ds vs ∧ c ds μ Φ Θ ∧ KW K S Φ Q ∧ ∀ C fs μ' S' H' d, Θ C fs μ' → XAt K S' fs d → Ex S S' → Rel K S' μ' H' → E (.ref C) d H'
def startR (N : List Str) (ds : List D) : Rho := ds.map some ++ List.replicate (N.length - ds.length) none
theorem slt_start {K : PySem.W.Frag} {S : Hp} {N : List Str} {ds : List D} {vs : List V} (t : AtL K S ds vs) : Slt K S (L2.start N vs) (startR N ds) := by
  have hl := t.len
  refine ⟨by simp [L2.start, startR, hl], fun i d q => ?_⟩
  unfold startR at q
  unfold L2.start
  by_cases hi : i < ds.length
  · rw [List.getElem?_append_left (by simpa using hi), List.getElem?_map] at q
    cases e : ds[i]? with
    | none => rw [e] at q; cases q
    | some d' =>
      rw [e] at q
      cases q
      obtain ⟨v, h1, h2⟩ := t.get e
      exact ⟨v, by rw [List.getElem?_append_left (by rw [List.length_map, ← hl]; exact hi), List.getElem?_map, h1]; rfl, h2⟩
  · rw [List.getElem?_append_right (by simpa using hi), List.getElem?_replicate] at q
    split at q <;> cases q
section
variable {P : Program} {w : World} {K : PySem.W.Frag} {mg : Str → Option Value} {base : Heap}
/-- at its end a def may forget what it owned -/
def MSub (μ' μ : Mu) : Prop := ∀ a o, μ' a = some o → μ a = some o
def DropK (Φ : Kd) : Kd := fun d μ => ∃ μ', MSub μ' μ ∧ Φ d μ'
def DropT (Θ : Th) : Th := fun C fs μ => ∃ μ', MSub μ' μ ∧ Θ C fs μ'
theorem keepK {Φ : Kd} {d : D} {μ : Mu} (h : Φ d μ) : DropK Φ d μ := ⟨μ, fun _ _ e => e, h⟩
theorem keepT {Θ : Th} {C : Addr} {fs : List (Str × D)} {μ : Mu} (h : Θ C fs μ) : DropT Θ C fs μ := ⟨μ, fun _ _ e => e, h⟩
/-- a new thing is forgotten -/
theorem dropK1 {Φ : Kd} {d : D} {μ : Mu} {p : Addr} {o : O} (hp : μ p = none) (h : Φ d μ) : DropK Φ d (updM μ p o) := ⟨μ, fun a u e => by rw [updM_ne (fun z => by rw [z, hp] at e; cases e)]; exact e, h⟩
abbrev En0 (Φ : Kd) (Θ : Th) : En := ⟨fun _ μ => DropK Φ .non μ, DropK Φ, fun _ _ => False, fun _ _ => False, fun _ => DropT Θ⟩
/-- a def of the text keeps its contract -/
theorem okD {x qual : Str} {st : Stmt} {f : Addr} {fd : FuncData} {N ps : List Str} {k : Nat} {cn : Con} {tb : GS} (F : Fun K x qual st f fd) (Sc : FnScope N ps (defScope st)) (len : ∀ ds μ Φ Θ, cn ds μ Φ Θ → ds.length = ps.length)
    (hb : ∀ (cdv : Value) (A : Around) (outer : List PySem.Env) (s : Shared) (H : Hp) (E : XK), Room k (A.deeper (envOfC qual (defScope st) s.heap.objs.size f cdv)) →
      SSs (cxOf (L2.CX P w) P w K mg base N qual (defScope st) f cdv A outer s H E) (defBody st) tb)
    (hp : ∀ ds μ Φ Θ, cn ds μ Φ Θ → tb (En0 Φ Θ) (startR N ds) μ) : FnOk P w K mg base (L2.CX P w) (k + 1) f fd ps (spD K cn) := by
  refine F.okX Sc (fun vs H Q E h => ?_) fun cdv A outer s H vs Q E hr h => ?_
  · obtain ⟨S, μ, ds, Φ, Θ, _, t, c, _⟩ := h
    rw [← t.len]
    exact len _ _ _ _ c
  · obtain ⟨S, μ, ds, Φ, Θ, r, t, c, k1, k2⟩ := h
    refine ⟨_, (hb cdv A outer s H E hr).pss (fun cls d _ H => E cls d H) (takes_of rfl rfl rfl rfl), S, μ, startR N ds, _, r, slt_start t, hp ds μ Φ Θ c, ?_⟩
    exact ⟨fun ρ μ' σ' S' H' q e r' _ => let ⟨μ2, hs, q2⟩ := q; k1 _ _ _ _ _ q2 .non e (r'.drop hs), fun v d μ' S' H' q a e r' => let ⟨μ2, hs, q2⟩ := q; k1 _ _ _ _ _ q2 a e (r'.drop hs), fun _ _ _ _ _ q => q.elim, fun _ _ _ _ _ q => q.elim,
      fun ρ σ' S' e _ C fs μ' S2 H' d q x e2 r2 => let ⟨μ2, hs, q2⟩ := q; k2 C fs μ2 S2 H' d q2 x (e.trans e2) (r2.drop hs)⟩
end

/-! ### calls -/
section
variable {k : Nat} {f C : Addr} {fd : FuncData} {ps : List Str} {cn : Con} {dvs : List V} {dds : List D} {ds : List Value} {x m : Str} {p apos : Pos}
def gCall (cn : Con) (dds : List D) (tr : GA) : GE := fun ρ μ Θ Φ => tr ρ μ Θ fun ds μ1 => cn (ds ++ dds) μ1 Φ Θ
theorem rd_call {K : PySem.W.Frag} {W : WX} {σ : L2.St} {H : Hp} {Q : VK} (hdd : ∀ S, AtL K S dds dvs) (h : rdE K W (gCall cn dds tr) σ H Q) : rdA K W tr σ H fun vs H1 => spD K cn (vs ++ dvs) H1 Q (WE W σ) := by
  obtain ⟨S, μ, ρ, Θ, Φ, r, en, q, xw, k⟩ := h
  exact ⟨S, μ, ρ, Θ, _, r, en, q, xw, fun vs ds μ1 S1 H1 q1 a1 e1 r1 => ⟨S1, μ1, _, Φ, Θ, r1, a1.append (hdd S1), q1, k.mono e1, fun C fs μ' S' H' d z x e' r' => xw C fs μ' S' H' d z x (e1.trans e') r'⟩⟩
theorem se_call (F : FnOk X.prog X.w X.K X.mg X.base (L2.CX X.prog X.w) k f fd ps (spD X.K cn)) (hr : Room k X.A) (hg : Gl X x) (hm : X.mg x = some (.ref f)) (hk : PySem.W.keepIn X.K (.ref f) = true) (hb : Binds X.K fd ps ds) (hd : Vals dvs ds) (hdd : ∀ S, AtL X.K S dds dvs)
    (ha : SA X (e :: es) tr) (hdb : (x == ("__debug__" : Str)) = false := by decide) (he : starEach (e :: es) X.env = (false, eval e X.env) :: starEach es X.env := by rfl) (hpl : (backTo pos (starEach es X.env)).any (·.1) = false := by rfl) :
    SE X (.Call (.Name x p) (e :: es) [] pos) (gCall cn dds tr) :=
  ⟨fun W tk => PE.imp (pe_callSD F hr hg hm hk hb hd (fun σ => passAt tk σ) (ha.pa W tk) hdb he hpl) fun σ H Q h => rd_call hdd h⟩
theorem se_call0 (F : FnOk X.prog X.w X.K X.mg X.base (L2.CX X.prog X.w) k f fd ps (spD X.K cn)) (hr : Room k X.A) (hg : Gl X x) (hm : X.mg x = some (.ref f)) (hk : PySem.W.keepIn X.K (.ref f) = true) (hb : Binds X.K fd ps ds) (hd : Vals dvs ds) (hdd : ∀ S, AtL X.K S dds dvs)
    (hdb : (x == ("__debug__" : Str)) = false := by decide) : SE X (.Call (.Name x p) [] [] pos) (gCall cn dds gNil) :=
  ⟨fun W tk => ⟨fun pins s σ H Q I h => by
    obtain ⟨S, μ, ρ, Θ, Φ, r, en, q, xw, k⟩ := h
    refine wpAny_Call_Name_kw (ld_glob I hg hm ?_ hdb)
    exact PySem.W.callWith_K0 I.kIn hk (run_fnSD (us := []) (vs := []) (E := WE W) F hr hb hd (passAt tk σ) I .nil ⟨S, μ, _, Φ, Θ, r, hdd S, q, k, fun C fs μ' S' H' d z x e' r' => xw C fs μ' S' H' d z x e' r'⟩)⟩⟩
end
end
end GD

/-! Gd7: chains, isinstance, in, displays of dicts, methods of lists, known defs -/
namespace GD
open PySem PySem.Spec PyProof.Rows L2

section
variable {X : Cx} {e a b c o : Expr} {es rest : List Expr} {t ta tb tc to : GE} {tr : GA} {pos : Pos} {u v : GT}

/-! ### a < b < c -/
theorem rd_chain {K : PySem.W.Frag} {W : WX} {r r' : R2} {R R' : R2D} (hr : RD K r R) (hr' : RD K r' R') {σ : L2.St} {H : Hp} {Q : VK} (h : rdE K W (gChain R R' ta tb tc) σ H Q) : tChain r r' (rdE K W ta) (rdE K W tb) (rdE K W tc) σ H Q := by
  obtain ⟨S, μ, ρ, Θ, Φ, rl, en, q, xw, k⟩ := h
  refine ⟨S, μ, ρ, Θ, _, rl, en, q, xw, fun v d μ1 S1 H1 q1 a1 e1 r1 => ⟨S1, μ1, ρ, Θ, _, r1, en.mono e1, q1, xw.mono e1, fun v2 d2 μ2 S2 H2 q2 a2 e2 r2 => ?_⟩⟩
  refine hr S2 μ2 H2 v v2 d d2 _ _ r2 (a1.mono e2) a2 q2 fun z dz μ3 S3 H3 q3 a3 e3 r3 => ?_
  cases a3 with
  | bl c =>
    refine ⟨c, rfl, ?_⟩
    cases c with
    | true => exact ⟨S3, μ3, ρ, Θ, _, r3, en.mono ((e1.trans e2).trans e3), q3, xw.mono ((e1.trans e2).trans e3), fun v4 d4 μ4 S4 H4 q4 a4 e4 r4 => hr' S4 μ4 H4 v2 v4 d2 d4 Φ Q r4 (a2.mono (e3.trans e4)) a4 q4 (k.mono (((e1.trans e2).trans e3).trans e4))⟩
    | false => exact k _ _ _ _ _ q3 (.bl _) ((e1.trans e2).trans e3) r3
  | _ => cases q3
theorem se_chain {op op' : CmpOp} {r r' : R2} {R R' : R2D} (ho : OpR X (compareOp op) r) (ho' : OpR X (compareOp op') r') (hr : RD X.K r R) (hr' : RD X.K r' R') (ha : SE X a ta) (hb : SE X b tb) (hc : SE X c tc)
    (hm : lastMarks [op, op'] [b, c] = false := by with_unfolding_all rfl) : SE X (.Compare a [op, op'] [b, c] pos) (gChain R R' ta tb tc) :=
  ⟨fun W tk => PE.imp (pe_chain ho ho' (ha.pe W tk) (hb.pe W tk) (hc.pe W tk) hm) fun σ H Q h => rd_chain hr hr' h⟩
theorem st_chain {op op' : CmpOp} {r r' : R2} {R R' : R2D} (ho : OpR X (compareOp op) r) (ho' : OpR X (compareOp op') r') (hr : RD X.K r R) (hr' : RD X.K r' R') (ha : SE X a ta) (hb : SE X b tb) (hc : SE X c tc)
    (hm : lastMarks [op, op'] [b, c] = false := by with_unfolding_all rfl) : ST X (.Compare a [op, op'] [b, c] pos) (gTest (gChain R R' ta tb tc)) :=
  ⟨fun W tk => PT.imp (pt_chain ho ho' (ha.pe W tk) (hb.pe W tk) (hc.pe W tk) hm) fun σ H Q h => rd_test (fun Q' q => rd_chain hr hr' q) h⟩
theorem rd_lt {K : PySem.W.Frag} : RD K (rI0 fun i j => .bl (decide (i < j))) ltD := rd_I0 fun _ _ _ _ => .bl _
theorem rd_le {K : PySem.W.Frag} : RD K (rI0 fun i j => .bl (decide (i ≤ j))) leD := rd_I0 fun _ _ _ _ => .bl _
theorem rd_gt {K : PySem.W.Frag} : RD K (rI0 fun i j => .bl (decide (j < i))) gtD := rd_I0 fun _ _ _ _ => .bl _
theorem rd_ge {K : PySem.W.Frag} : RD K (rI0 fun i j => .bl (decide (j ≤ i))) geD := rd_I0 fun _ _ _ _ => .bl _

/-! ### isinstance -/
/-- the built-in type's name -/
def tyName (μ : Mu) : D → Option String
  | .non => some "NoneType"
  | .bl _ => some "bool"
  | .int _ => some "int"
  | .str _ => some "str"
  | .tup _ => some "tuple"
  | .lst _ => some "list"
  | .rdl _ => some "list"
  | .dic _ => some "dict"
  | .ptr p => match μ p with | some (.lst _) => some "list" | some (.dic _) => some "dict" | _ => none
  | _ => none
def isTyB (a b : String) : Bool := a == b || (a == "bool" && b == "int")
def okTy (a : String) : Bool := a == "NoneType" || a == "bool" || a == "int" || a == "str" || a == "tuple" || a == "list" || a == "dict"
theorem tyName_ok {μ : Mu} {d : D} {n : String} (h : tyName μ d = some n) : n = "NoneType" ∨ n = "bool" ∨ n = "int" ∨ n = "str" ∨ n = "tuple" ∨ n = "list" ∨ n = "dict" := by
  cases d with
  | ptr p =>
    dsimp only [tyName] at h
    cases e : μ p with
    | none => rw [e] at h; cases h
    | some o => cases o <;> (rw [e] at h; first | (cases h; simp) | cases h)
  | _ => first | (cases h; simp) | cases h
theorem ty_at {K : PySem.W.Frag} {S H : Hp} {μ : Mu} {d : D} {x : V} {n : String} (r : Rel K S μ H) (a : At K S d x) (h : tyName μ d = some n) : TyX K H x (.type n) := by
  cases a with
  | non => cases h; exact .base .non
  | bl b => cases h; exact .base (.bl b)
  | int i => cases h; exact .base (.int i)
  | str s => cases h; exact .base (.str s)
  | tup e t =>
    cases h
    rcases r.ex.tup e with (q | ⟨o, q⟩) | ⟨o, its, n, q, c, _⟩
    · exact .base (.tup q)
    · exact .fTuple q
    · exact .kTuple q c
  | lst e t => cases h; exact .base (.lst (r.ex.lst e))
  | rdl e t =>
    cases h
    rcases r.ex.rdl e with (q | ⟨o, q⟩) | ⟨o, its, n, q, c, _⟩
    · exact .base (.lst q)
    · exact .base (.frz q)
    · exact .kList q c
  | dic e t =>
    cases h
    rcases r.ex.dic e with q | ⟨o, q⟩
    · exact .base (.dK q)
    · exact .fDict q
  | ptr p =>
    dsimp only [tyName] at h
    cases e : μ p with
    | none => rw [e] at h; cases h
    | some o =>
      obtain ⟨_, q⟩ := r.own _ _ e
      rw [e] at h
      cases o with
      | lst l => cases h; obtain ⟨xs, q, _⟩ := q; exact .base (.lst q)
      | dic l => cases h; obtain ⟨xs, q, _⟩ := q; exact .base (.dK q)
      | obj C fs => cases h
  | _ => cases h
theorem kit_tab {a b : String} (ha : a = "NoneType" ∨ a = "bool" ∨ a = "int" ∨ a = "str" ∨ a = "tuple" ∨ a = "list" ∨ a = "dict") (hb : b = "bool" ∨ b = "int" ∨ b = "str" ∨ b = "tuple" ∨ b = "list" ∨ b = "dict") : kitB a b = some (isTyB a b) := by
  rcases ha with rfl | rfl | rfl | rfl | rfl | rfl | rfl <;> rcases hb with rfl | rfl | rfl | rfl | rfl | rfl <;> decide +kernel
def okB (b : String) : Bool := b == "bool" || b == "int" || b == "str" || b == "tuple" || b == "list" || b == "dict"
theorem okB_of {b : String} (h : okB b = true) : b = "bool" ∨ b = "int" ∨ b = "str" ∨ b = "tuple" ∨ b = "list" ∨ b = "dict" := by
  simp only [okB, Bool.or_eq_true, beq_iff_eq] at h
  rcases h with ((((h | h) | h) | h) | h) | h <;> simp [h]
def isiR (b : String) : RLD := fun ds μ Φ => match ds with
  | [d, .ty b'] => b' = b ∧ ∃ n, tyName μ d = some n ∧ Φ (.bl (isTyB n b)) μ
  | _ => False
theorem rd_isi1 {K : PySem.W.Frag} {b : String} (hb : okB b = true) : RDL K (rIsi K) (isiR b) := fun S μ H vs ds Φ Q r at1 q k => by
  cases at1 with
  | nil => cases q
  | cons a1 at2 =>
    cases at2 with
    | nil => cases q
    | cons a2 at3 =>
      cases at3 with
      | cons _ _ => unfold isiR at q; split at q <;> simp_all
      | nil =>
        cases a2 with
        | ty b' =>
          obtain ⟨rfl, n, hn, q⟩ := q
          exact ⟨_, _, _, _, _, rfl, .ty b', ty_at r a1 hn, kit_ty (kit_tab (tyName_ok hn) (okB_of hb)), k.same r (.bl _) q⟩
        | _ => cases q
variable {x : Str} {p q : Pos}
/-- a built-in class as a value -/
theorem se_ty {y : Str} (n : String) (hg : Gl X y) (hm : X.mg y = none) (hv : bootBuiltins y = some (.type n)) (hn : y ≠ "__name__" := by decide) (hd : (y == ("__debug__" : Str)) = false := by decide) : SE X (.Name y q) (gC (.ty n)) :=
  se_c (pe_bltn (v := .ty n) hg hm hv rfl hn hd) fun _ _ => .ty n
/-- isinstance(e, (T, U)) -/
def gIsi2 (b b' : String) (t : GE) : GE := fun ρ μ Θ Φ => t ρ μ Θ fun d μ1 => ∃ n, tyName μ1 d = some n ∧ Φ (.bl (isTyB n b || isTyB n b')) μ1
theorem se_isi2 {y z : Str} {q' q2 : Pos} {x1} (n n' : String) (hg : Gl X "isinstance") (hm : X.mg "isinstance" = none) (hv : bootBuiltins "isinstance" = some (.builtin "isinstance")) (hb : okB n = true) (hb' : okB n' = true) (ha : SE X a ta)
    (gy : Gl X y) (my : X.mg y = none) (vy : bootBuiltins y = some (.type n)) (gz : Gl X z) (mz : X.mg z = none) (vz : bootBuiltins z = some (.type n'))
    (ny : y ≠ "__name__" := by decide) (dy : (y == ("__debug__" : Str)) = false := by decide) (nz : z ≠ "__name__" := by decide) (dz : (z == ("__debug__" : Str)) = false := by decide)
    (he : starEach [a, .Tuple [.Name y q, .Name z q'] x1 q2] X.env = (false, eval a X.env) :: starEach [.Tuple [.Name y q, .Name z q'] x1 q2] X.env := by rfl) (hpl : (backTo pos (starEach [.Tuple [.Name y q, .Name z q'] x1 q2] X.env)).any (·.1) = false := by rfl) :
    SE X (.Call (.Name "isinstance" p) [a, .Tuple [.Name y q, .Name z q'] x1 q2] [] pos) (gIsi2 n n' ta) :=
  ⟨fun W tk => PE.imp (pe_callB call_isiT hg hm hv (pa_cons (ha.pe W tk) (pa_cons (pe_tup (pa_cons (pe_bltn (v := .ty n) gy my vy rfl ny dy) (pa_cons (pe_bltn (v := .ty n') gz mz vz rfl nz dz) pa_nil))) pa_nil) he) (by decide) (by decide) he hpl) fun σ H Q h => by
    obtain ⟨S, μ, ρ, Θ, Φ, r, en, q, xw, k⟩ := h
    refine ⟨S, μ, ρ, Θ, _, r, en, q, xw, fun v d μ1 S1 H1 q1 a1 e1 r1 => ⟨by show 2 ≤ sizeLine; decide, fun tp hp => ?_⟩⟩
    obtain ⟨m, hm, q1⟩ := q1
    obtain ⟨e2, r2⟩ := r1.newS (u := .tup [.ty n, .ty n']) hp
    have a2 := a1.mono e2
    refine ⟨v, tp, [.ty n, .ty n'], _, [.type n, .type n'], isTyB m n || isTyB m n', rfl, upd_same, .cons (.ty n) (.cons (.ty n') .nil), ty_at r2 a2 hm, ?_, k _ _ _ _ _ q1 (.bl _) (e1.trans e2) r2⟩
    have h1 : PySem.W.kitOne X.K (.type m) (.type n) = some (isTyB m n) := kit_ty (kit_tab (tyName_ok hm) (okB_of hb))
    have h2 : PySem.W.kitOne X.K (.type m) (.type n') = some (isTyB m n') := kit_ty (kit_tab (tyName_ok hm) (okB_of hb'))
    refine kitAny_cons h1 (fun z => ?_) (fun z => by rw [z]; rfl)
    rw [z]
    refine kitAny_cons h2 (fun z => by rw [z]; rfl) (fun z => by rw [z]; rfl)⟩

/-! ### in: a sequence of flat things; a sign in a text -/
def toV : D → V
  | .non => .non
  | .bl b => .bl b
  | .int i => .int i
  | .str s => .str s
  | _ => .non
theorem toV_at {K : PySem.W.Frag} {S : Hp} {d : D} {v : V} (h : At K S d v) (f : flatD d = true) : v = toV d ∧ flatV v = true := by
  cases h <;> first | exact ⟨rfl, rfl⟩ | cases f
theorem toVs_at {K : PySem.W.Frag} {S : Hp} : ∀ {ds : List D} {vs : List V}, AtL K S ds vs → ds.all flatD = true → vs = ds.map toV ∧ vs.all flatV = true
  | _, _, .nil, _ => ⟨rfl, rfl⟩
  | d :: ds, v :: vs, .cons h t, f => by
    rw [List.all_cons, Bool.and_eq_true] at f
    obtain ⟨e1, f1⟩ := toV_at h f.1
    obtain ⟨e2, f2⟩ := toVs_at t f.2
    exact ⟨by rw [e1, e2]; rfl, by rw [List.all_cons, f1, f2]; rfl⟩
def inQ (neg : Bool) : R2D := fun d1 d2 μ Φ => ∃ l, IsQ μ d2 l ∧ flatD d1 = true ∧ l.all flatD = true ∧ Φ (.bl (if neg then !inV (toV d1) (l.map toV) else inV (toV d1) (l.map toV))) μ
theorem rd_inQ {K : PySem.W.Frag} {neg : Bool} : RD K (rIn K neg) (inQ neg) := fun S μ H x y d1 d2 Φ Q r a1 a2 q k => by
  obtain ⟨l, h, f1, f2, q⟩ := q
  obtain ⟨a, xs, rfl, sq, t⟩ := h.at' r a2
  obtain ⟨e1, g1⟩ := toV_at a1 f1
  obtain ⟨e2, g2⟩ := toVs_at t f2
  refine ⟨a, xs, rfl, sq, g1, g2, ?_⟩
  rw [e1, e2]
  exact k.same r (.bl _) q
theorem se_inQ (ha : SE X a ta) (hb : SE X b tb) (hm : behindInMarks .In b = false := by rfl) : SE X (.Compare a [.In] [b] pos) (gOp (inQ false) ta tb) := se_cmp op_in_seq rd_inQ ha hb hm
theorem se_ninQ (ha : SE X a ta) (hb : SE X b tb) (hm : behindInMarks .NotIn b = false := by rfl) : SE X (.Compare a [.NotIn] [b] pos) (gOp (inQ true) ta tb) := se_cmp op_notIn_seq rd_inQ ha hb hm
theorem st_inQ (ha : SE X a ta) (hb : SE X b tb) (hm : behindInMarks .In b = false := by rfl) : ST X (.Compare a [.In] [b] pos) (gTest (gOp (inQ false) ta tb)) := st_cmp op_in_seq rd_inQ ha hb hm
theorem st_ninQ (ha : SE X a ta) (hb : SE X b tb) (hm : behindInMarks .NotIn b = false := by rfl) : ST X (.Compare a [.NotIn] [b] pos) (gTest (gOp (inQ true) ta tb)) := st_cmp op_notIn_seq rd_inQ ha hb hm

/-- in a dict, in a sequence -/
def inU (neg : Bool) : R2D := fun d1 d2 μ Φ => inD neg d1 d2 μ Φ ∨ inQ neg d1 d2 μ Φ
theorem RD.or {K : PySem.W.Frag} {r r' : R2} {R R' : R2D} (h : RD K r R) (h' : RD K r' R') : RD K (fun x y H Q => r x y H Q ∨ r' x y H Q) (fun d1 d2 μ Φ => R d1 d2 μ Φ ∨ R' d1 d2 μ Φ) := fun S μ H x y d1 d2 Φ Q r a1 a2 q k => by
  rcases q with q | q
  · exact .inl (h S μ H x y d1 d2 Φ Q r a1 a2 q k)
  · exact .inr (h' S μ H x y d1 d2 Φ Q r a1 a2 q k)
theorem se_inU (hu : X.A.units + 1 < cLine) (ha : SE X a ta) (hb : SE X b tb) (hm : behindInMarks .In b = false := by rfl) : SE X (.Compare a [.In] [b] pos) (gOp (inU false) ta tb) := se_cmp ((op_inD hu).or op_in_seq) (RD.or rd_inD rd_inQ) ha hb hm
theorem se_ninU (hu : X.A.units + 1 < cLine) (ha : SE X a ta) (hb : SE X b tb) (hm : behindInMarks .NotIn b = false := by rfl) : SE X (.Compare a [.NotIn] [b] pos) (gOp (inU true) ta tb) := se_cmp ((op_ninD hu).or op_notIn_seq) (RD.or rd_ninD rd_inQ) ha hb hm
theorem st_inU (hu : X.A.units + 1 < cLine) (ha : SE X a ta) (hb : SE X b tb) (hm : behindInMarks .In b = false := by rfl) : ST X (.Compare a [.In] [b] pos) (gTest (gOp (inU false) ta tb)) := st_cmp ((op_inD hu).or op_in_seq) (RD.or rd_inD rd_inQ) ha hb hm
theorem st_ninU (hu : X.A.units + 1 < cLine) (ha : SE X a ta) (hb : SE X b tb) (hm : behindInMarks .NotIn b = false := by rfl) : ST X (.Compare a [.NotIn] [b] pos) (gTest (gOp (inU true) ta tb)) := st_cmp ((op_ninD hu).or op_notIn_seq) (RD.or rd_ninD rd_inQ) ha hb hm

/-! ### displays of dicts -/
def gPairs : List (Key × GE) → Rho → Mu → Th → (List (Key × D) → Mu → Prop) → Prop
  | [], _, μ, _, Φ => Φ [] μ
  | (k, t) :: r, ρ, μ, Θ, Φ => t ρ μ Θ fun d μ1 => gPairs r ρ μ1 Θ fun ps μ2 => Φ ((k, d) :: ps) μ2
def dmerge (kvs : List (Key × D)) : List (Key × D) := kvs.foldl (fun acc kv => dput acc kv.1 kv.2) []
theorem AtK.merge {K : PySem.W.Frag} {S : Hp} : ∀ (more : List (Key × D)) (mv : List (Key × V)) (kvs : List (Key × D)) (vs : List (Key × V)), AtK K S more mv → AtK K S kvs vs → AtK K S (more.foldl (fun acc kv => dput acc kv.1 kv.2) kvs) (mv.foldl (fun acc kv => putK acc kv.1 kv.2) vs) := by
  intro more
  induction more with
  | nil => intro mv kvs vs t h; cases t; exact h
  | cons m more ih =>
    intro mv kvs vs t h
    cases t with
    | @cons k d v _ _ a t =>
      have z := ih _ _ _ t (h.put k a)
      exact z
def gDisp (ps : List (Key × GE)) : GE := fun ρ μ Θ Φ => ∀ p, μ p = none → gPairs ps ρ (updM μ p (.dic [])) Θ fun kvs μ1 => μ1 p = some (.dic []) ∧ Φ (.ptr p) (updM μ1 p (.dic (dmerge kvs)))
structure SPs (X : Cx) (pos : Pos) (keys : List (Option Expr)) (values : List Expr) (ps : List (Key × GE)) : Prop where
  pps : ∀ W, Takes X W → PPs X pos keys values (ps.map fun p => (tC (kV p.1), rdE X.K W p.2))
theorem sps_nil : SPs X pos [] [] [] := ⟨fun W tk => pps_nil⟩
theorem sps_cons {k : Expr} {ks : List (Option Expr)} {vs : List Expr} {key : Key} {ps : List (Key × GE)} (hk : PE X k (tC (kV key))) (hv : SE X e t) (h : SPs X pos ks vs ps) : SPs X pos (some k :: ks) (e :: vs) ((key, t) :: ps) :=
  ⟨fun W tk => pps_cons hk (hv.pe W tk) (h.pps W tk)⟩
theorem rd_pairs {K : PySem.W.Frag} {W : WX} {σ : L2.St} : ∀ {ps : List (Key × GE)} {S : Hp} {μ : Mu} {H : Hp} {ρ : Rho} {Θ : Th} {Φ : List (Key × D) → Mu → Prop} {Q : List (V × V) → Hp → Prop}, Rel K S μ H → Slt K S σ ρ → gPairs ps ρ μ Θ Φ → XW K W σ S Θ →
    (∀ kds kvs μ' S' H', kds.length = ps.length → Φ kds μ' → AtK K S' kds kvs → Ex S S' → Rel K S' μ' H' → Q (kvs.map fun kv => (kV kv.1, kv.2)) H') → tPairs (ps.map fun p => (tC (kV p.1), rdE K W p.2)) σ H Q
  | [], S, μ, H, ρ, Θ, Φ, Q, r, en, q, xw, k => k [] [] _ _ _ rfl q .nil (Evl.Ex.refl S) r
  | (key, t) :: ps, S, μ, H, ρ, Θ, Φ, Q, r, en, q, xw, k => by
    refine ⟨S, μ, ρ, Θ, _, r, en, q, xw, fun v d μ1 S1 H1 q1 a1 e1 r1 => ?_⟩
    exact rd_pairs r1 (en.mono e1) q1 (xw.mono e1) fun kds kvs μ' S' H' hl q2 a2 e2 r2 => k ((key, d) :: kds) ((key, v) :: kvs) μ' S' H' (by simp [hl]) q2 (.cons (a1.mono e2) a2) (e1.trans e2) r2
theorem se_disp {keys : List (Option Expr)} {values : List Expr} {ps : List (Key × GE)} (h : SPs X pos keys values ps) (hall : keys.all (·.isSome) = true) (hl : keys.length = values.length) (h0 : keys ≠ []) (h15 : keys.length ≤ 15) (hp : ps.length ≤ 15) : SE X (.Dict keys values pos) (gDisp ps) :=
  ⟨fun W tk => PE.imp (pe_disp (h.pps W tk) hall hl h0 h15) fun σ H Q h => by
    obtain ⟨S, μ, ρ, Θ, Φ, r, en, q, xw, k⟩ := h
    intro p hp0
    refine rd_pairs (r.newO (o := .dic []) hp0 ⟨[], upd_same, .nil⟩) en (q p (r.fresh hp0).2) xw fun kds kvs μ' S' H' hl q2 a2 e2 r2 => ?_
    obtain ⟨hm, q2⟩ := q2
    obtain ⟨_, ys, eH, t⟩ := r2.own _ _ hm
    cases t
    exact ⟨eH, kvs, rfl, by rw [← a2.len, hl]; exact hp, k _ _ _ _ _ q2 (.ptr p) e2 (r2.chg (o' := .dic (dmerge kds)) hm ⟨_, upd_same, AtK.merge _ _ _ _ a2 .nil⟩)⟩⟩
/-- {} -/
def gDict0 : GE := fun _ μ _ Φ => ∀ p, μ p = none → Φ (.ptr p) (updM μ p (.dic []))
theorem se_dict0 : SE X (.Dict [] [] pos) gDict0 := ⟨fun W tk => PE.imp pe_dnewK fun σ H Q h => by
  obtain ⟨S, μ, ρ, Θ, Φ, r, en, q, xw, k⟩ := h
  intro p hp
  exact k _ _ _ _ _ (q p (r.fresh hp).2) (.ptr p) (Evl.Ex.refl S) (r.newO (o := .dic []) hp ⟨[], upd_same, .nil⟩)⟩

/-! ### methods of lists -/
variable {apos cpos : Pos}
def gApp (to te : GE) : GE := fun ρ μ Θ Φ => to ρ μ Θ fun d1 μ1 => match d1 with
  | .ptr p => (∃ l, μ1 p = some (.lst l)) ∧ te ρ μ1 Θ fun d μ2 => ∃ l, μ2 p = some (.lst l) ∧ l.length < LIM ∧ Φ .non (updM μ2 p (.lst (l ++ [d])))
  | _ => False
theorem se_app (ho : SE X o to) (he : SE X e t) (hbase : attributeBase o "append" X.env (eval o X.env) = eval o X.env := by rfl)
    (hfew : ((backTo cpos (starEach (e :: []) X.env)).all (fun x => !x.1) && (backToKw cpos (keywordEach [] X.env)).all (fun x => x.1.isSome) && decide ((e :: []).length + ([] : List Keyword).length + (if ([] : List Keyword).isEmpty then 0 else 1) < 30)) = true := by rfl)
    (hline : (apos.endLine == cpos.line) = true := by rfl) (hs : starEach (e :: []) X.env = (false, eval e X.env) :: starEach [] X.env := by rfl) (hplain : (backTo cpos (starEach [] X.env)).any (·.1) = false := by rfl) :
    SE X (.Call (.Attribute o "append" apos) [e] [] cpos) (gApp to t) :=
  ⟨fun W tk => PE.imp (pe_bm PySem.F.plainAttrs_list PySem.F.slot_list_append PySem.F.type_list_append mt_append (ho.pe W tk) (pa_cons (he.pe W tk) pa_nil hs) hbase hfew hline hs hplain) fun σ H Q h => by
    obtain ⟨S, μ, ρ, Θ, Φ, r, en, q, xw, k⟩ := h
    refine ⟨S, μ, ρ, Θ, _, r, en, q, xw, fun v d μ1 S1 H1 q1 a1 e1 r1 => ?_⟩
    cases a1 with
    | ptr p =>
      obtain ⟨⟨l, e0⟩, q1⟩ := q1
      obtain ⟨_, xs, eH, tl⟩ := r1.own _ _ e0
      refine ⟨.inl ⟨rfl, xs, SqL.of eH⟩, S1, μ1, ρ, Θ, _, r1, en.mono e1, q1, xw.mono e1, fun v2 d2 μ2 S2 H2 q2 a2 e2 r2 => ?_⟩
      obtain ⟨l2, em, hl, q2⟩ := q2
      obtain ⟨_, ys, eH2, t2⟩ := r2.own _ _ em
      exact ⟨p, ys, v2, rfl, rfl, eH2, Nat.lt_of_lt_of_le (by rw [← t2.len]; exact hl) (by decide), k _ _ _ _ _ q2 .non (e1.trans e2) (r2.chg (o' := .lst (l2 ++ [d2])) em ⟨_, upd_same, t2.append (.cons a2 .nil)⟩)⟩
    | _ => cases q1⟩
def gPop (to : GE) : GE := fun ρ μ Θ Φ => to ρ μ Θ fun d1 μ1 => match d1 with
  | .ptr p => ∃ l d, μ1 p = some (.lst (l ++ [d])) ∧ Φ d (updM μ1 p (.lst l))
  | _ => False
theorem se_pop (ho : SE X o to) (hbase : attributeBase o "pop" X.env (eval o X.env) = eval o X.env := by rfl) (hline : (apos.endLine == cpos.line) = true := by rfl) :
    SE X (.Call (.Attribute o "pop" apos) [] [] cpos) (gPop to) :=
  ⟨fun W tk => PE.imp (pe_bm0 PySem.F.plainAttrs_list PySem.F.slot_list_pop PySem.F.type_list_pop mt_pop (ho.pe W tk) hbase hline) fun σ H Q h => by
    obtain ⟨S, μ, ρ, Θ, Φ, r, en, q, xw, k⟩ := h
    refine ⟨S, μ, ρ, Θ, _, r, en, q, xw, fun v d μ1 S1 H1 q1 a1 e1 r1 => ?_⟩
    cases a1 with
    | ptr p =>
      obtain ⟨l, d, e0, q1⟩ := q1
      obtain ⟨_, xs, eH, tl⟩ := r1.own _ _ e0
      have hl := tl.len
      rw [List.length_append, List.length_singleton] at hl
      obtain ⟨v, hv, av⟩ := tl.get (i := l.length) (d := d) (by simp)
      have td : AtL X.K S1 l xs.dropLast := by
        have := tl.take l.length
        rw [List.take_left] at this
        rw [List.dropLast_eq_take]
        have e : xs.length - 1 = l.length := by omega
        rw [e]
        exact this
      exact ⟨.inl ⟨rfl, xs, SqL.of eH⟩, p, xs, v, rfl, rfl, eH, by rw [← hl]; simpa using hv, k _ _ _ _ _ q1 av e1 (r1.chg (o' := .lst l) e0 ⟨_, upd_same, td⟩)⟩
    | _ => cases q1⟩

/-! ### defs that are known -/
/-- name: a def at the top that keeps the contract cn -/
def FnAt (P : Program) (w : World) (K : PySem.W.Frag) (mg : Str → Option Value) (base : Heap) (k : Nat) (name : Str) (ps : List Str) (cn : Con) : Prop :=
  ∃ f fd, mg name = some (.ref f) ∧ PySem.W.keepIn K (.ref f) = true ∧ Binds K fd ps [] ∧ FnOk P w K mg base (L2.CX P w) k f fd ps (spD K cn)
theorem FnAt.mono {P : Program} {w : World} {K : PySem.W.Frag} {mg : Str → Option Value} {base : Heap} {j k : Nat} {name : Str} {ps : List Str} {cn : Con} (h : FnAt P w K mg base j name ps cn) (hj : j ≤ k) : FnAt P w K mg base k name ps cn := by
  obtain ⟨f, fd, h1, h2, h3, h4⟩ := h
  exact ⟨f, fd, h1, h2, h3, h4.mono hj⟩
variable {k : Nat} {ps : List Str} {cn : Con}
theorem se_fn (F : FnAt X.prog X.w X.K X.mg X.base k x ps cn) (hr : Room k X.A) (hg : Gl X x) (ha : SA X (e :: es) tr) (hdb : (x == ("__debug__" : Str)) = false := by decide)
    (he : starEach (e :: es) X.env = (false, eval e X.env) :: starEach es X.env := by rfl) (hpl : (backTo pos (starEach es X.env)).any (·.1) = false := by rfl) : SE X (.Call (.Name x p) (e :: es) [] pos) (gCall cn [] tr) := by
  obtain ⟨f, fd, h1, h2, h3, h4⟩ := F
  exact se_call h4 hr hg h1 h2 h3 .nil (fun _ => .nil) ha hdb he hpl
theorem se_fn0 (F : FnAt X.prog X.w X.K X.mg X.base k x ps cn) (hr : Room k X.A) (hg : Gl X x) (hdb : (x == ("__debug__" : Str)) = false := by decide) : SE X (.Call (.Name x p) [] [] pos) (gCall cn [] gNil) := by
  obtain ⟨f, fd, h1, h2, h3, h4⟩ := F
  exact se_call0 h4 hr hg h1 h2 h3 .nil (fun _ => .nil) hdb
/-- a module's whole number -/
theorem se_gint {i : Int} (h : ∃ u, X.mg x = some u ∧ RelV (.int i) u) (hg : Gl X x) (hd : (x == ("__debug__" : Str)) = false := by decide) : SE X (.Name x pos) (gC (.int i)) := by
  obtain ⟨u, h1, h2⟩ := h
  exact se_c (pe_glob hg h1 h2 hd) fun _ _ => .int i
/-- a class of the program as a value -/
theorem se_gcls {C : Addr} (h : X.mg x = some (.ref C)) (hg : Gl X x) (hd : (x == ("__debug__" : Str)) = false := by decide) : SE X (.Name x pos) (gC (.ptr C)) := se_c (pe_glob (v := .ref C) hg h rfl hd) fun _ _ => .ptr C
/-- a module's constant -/
theorem se_glob {d : D} {v : V} {u : Value} (hg : Gl X x) (hm : X.mg x = some u) (r : RelV v u) (a : ∀ K S, At K S d v) (hd : (x == ("__debug__" : Str)) = false := by decide) : SE X (.Name x pos) (gC d) := se_c (pe_glob hg hm r hd) a
end
abbrev augAdd : R2D := IBI fun i j => .int (i + j)
theorem bt_int : bootBuiltins "int" = some (.type "int") := by decide +kernel
theorem bt_bool : bootBuiltins "bool" = some (.type "bool") := by decide +kernel
theorem bt_str : bootBuiltins "str" = some (.type "str") := by decide +kernel
theorem bt_tuple : bootBuiltins "tuple" = some (.type "tuple") := by decide +kernel
theorem bt_list : bootBuiltins "list" = some (.type "list") := by decide +kernel
theorem bt_dict : bootBuiltins "dict" = some (.type "dict") := by decide +kernel
theorem bt_abs : bootBuiltins "abs" = some (.builtin "abs") := by decide +kernel
theorem bt_len : bootBuiltins "len" = some (.builtin "len") := by decide +kernel
theorem bt_sum : bootBuiltins "sum" = some (.builtin "sum") := by decide +kernel
theorem bt_any : bootBuiltins "any" = some (.builtin "any") := by decide +kernel
theorem bt_all : bootBuiltins "all" = some (.builtin "all") := by decide +kernel
theorem bt_min : bootBuiltins "min" = some (.builtin "min") := by decide +kernel
theorem bt_max : bootBuiltins "max" = some (.builtin "max") := by decide +kernel
theorem bt_isinstance : bootBuiltins "isinstance" = some (.builtin "isinstance") := by decide +kernel
end GD

/-! Gd8: errors of the program: super().__init__("..") and then one store a field -/
namespace GD
open PySem PySem.Spec PySem.W PySem.Calls PyProof.Rows PySem.HandSPX

/-- self.f1 = p1; .. -/
def asgs : List (Str × Str) → List (Pos × Pos × Pos × Pos) → List Stmt
  | (f, p) :: r, (a, b, c, d) :: q => .Assign [.Attribute (.Name "self" a) f b] (.Name p c) d :: asgs r q
  | _, _ => []
/-- what the written part says of an error's class at C; fps: its fields with the parameters that are stored there -/
structure ErrC (prog : Program) (K : Frag) (mg : Str → Option Value) (name : Str) (C : Addr) (fps : List (Str × Str)) : Prop where
  gC : mg name = some (.ref C)
  cls : ∃ nm q N bs bm sn sub ab col dd k0 k1 k2 k3 k5, K.lookup C = some (excClassObj nm q C N bs bm true sn sub ab col dd k0 k1 k2 k3 k5 "ValueError.__new__") ∧ refsVE bm = true
  sa : findIn K (.ref C) "__setattr__" = some (some (.builtin "object.__setattr__"))
  exC : subIn K (.ref C) (.type "BaseException") = some true
  vE : subIn K (.ref C) (.type "ValueError") = some true
  tyC : typeIn K (.ref C) = some (.type "type")
  kC : keepIn K (.ref C) = true
  no : ∀ p ∈ fps, findIn K (.ref C) p.1 = some none
  nd : (fps.map (·.1)).Nodup
  ini : ∃ (fI cc cda : Addr) (oc ccl cl kV doc pm ct : Value) (od an cdd cld : Option Addr) (osl ccs csl : Array (Option Value)) (qual file txt : Str) (tf : Tok) (vs : Array Value) (ps : List Arg) (pa : Arg) (names : List (Str × NameKind)) (p0 p1 p2 p3 p4 p5 : Pos) (j : Nat) (qs : List (Pos × Pos × Pos × Pos)),
    findIn K (.ref C) "__init__" = some (some (.ref fI)) ∧ typeIn K (.ref fI) = some (.type "function") ∧
    K.lookup fI = some ⟨oc, od, .func (fnX "__init__" qual { posonlyargs := [], args := pa :: ps, vararg := none, kwonlyargs := [], kw_defaults := [], kwarg := none, defaults := [] }
      (.Expr (.Call (.Attribute (.Call (.Name "super" p0) [] [] p1) "__init__" p2) [.Constant (.str txt) j p3] [] p4) p5 :: asgs fps qs)
      { kind := .function, names := names, isGenerator := false, isCoroutine := false, more := [] } [("__class__", cc)] .none kV doc pm an (.ref cda) ct), osl⟩ ∧
    codeIn K (.ref cda) qual = true ∧ K.lookup cda = some ⟨ccl, cdd, .fields vs, ccs⟩ ∧ vs[2]? = some (.str file tf) ∧ ((prog.main.file : Str) == file) = true ∧
    K.lookup cc = some ⟨cl, cld, .cell (some (.ref C)), csl⟩ ∧ ks_superIn K C C "__init__" = some (some (.builtin "ValueError.__init__")) ∧
    nsIn K mainGlobals "super" = some none ∧ nsIn K cStatics "thirdparty.any" = some none ∧ (prog.main.scope.names.lookup ("super" : Str)).isSome = false ∧
    pa.arg = "self" ∧ ps.map (·.arg) = fps.map (·.2) ∧ (("self" : Str) :: fps.map (·.2)).Nodup ∧ qs.length = fps.length ∧
    names.lookup ("super" : Str) = some .globalImplicit ∧ names.lookup ("__class__" : Str) = some .free ∧ names.lookup ("self" : Str) = some .local ∧ (∀ p ∈ fps, names.lookup p.2 = some .local) ∧ (∀ x ∈ names, x.2 ≠ .cell) ∧
    (∀ us : List Value, us.length = 1 + fps.length → bindArgs (fnX "__init__" qual { posonlyargs := [], args := pa :: ps, vararg := none, kwonlyargs := [], kw_defaults := [], kwarg := none, defaults := [] }
      (.Expr (.Call (.Attribute (.Call (.Name "super" p0) [] [] p1) "__init__" p2) [.Constant (.str txt) j p3] [] p4) p5 :: asgs fps qs)
      { kind := .function, names := names, isGenerator := false, isCoroutine := false, more := [] } [("__class__", cc)] .none kV doc pm an (.ref cda) ct) ⟨us, []⟩ = pure ((("self" : Str) :: fps.map (·.2)).zip us)) ∧
    (∀ p ∈ fps, (p.2 == ("__debug__" : Str)) = false) ∧
    (∃ pl : Env → Sem Bool, ∀ env, eval (.Call (.Attribute (.Call (.Name "super" p0) [] [] p1) "__init__" p2) [.Constant (.str txt) j p3] [] p4) env = (do
      let ov ← attributeBase (.Call (.Name "super" p0) [] [] p1) "__init__" env (eval (.Call (.Name "super" p0) [] [] p1) env)
      standAt p2.atName
      let (f, first) ← holding [ov] (getMethod ov "__init__" (pl env))
      callWith p4 f first (backTo p4 (starEach [.Constant (.str txt) j p3] env)) []))

/-- an error that is being made: its fields so far, the newest first -/
def ErrAt (lo : Nat) (g h : Heap) (x C : Addr) (fs : List (Str × Value)) : Prop :=
  (∀ b o, b ≠ x → g.get? b = some o → h.get? b = some o) ∧
  ((fs = [] ∧ ∃ t, h.get? x = some (excO C t)) ∨
    ∃ t dx, h.get? x = some { cls := .ref C, dict := some dx, data := .fields #[.ref t, .none, .none, .none, .bool false, .none] } ∧ g.get? dx = none ∧ lo ≤ dx ∧ dx ≠ x ∧ h.Ns1 dx (fun y => fs.lookup y))
theorem ErrAt.keep {lo : Nat} {g h : Heap} {x C : Addr} {fs : List (Str × Value)} (e : ErrAt lo g h x C fs) : ∀ b o, b ≠ x → g.get? b = some o → h.get? b = some o := e.1
theorem within_lk {fs : List (Str × Value)} : Within (fun y => fs.lookup y) (fs.map (·.1)) := by
  intro y hy
  induction fs with
  | nil => exact absurd rfl hy
  | cons p fs ih =>
    obtain ⟨f, v⟩ := p
    by_cases h : y = f
    · subst h; simp
    · have hb : (y == f) = false := by simpa using h
      have hy' : List.lookup y ((f, v) :: fs) ≠ none := hy
      rw [List.lookup_cons, hb] at hy'
      have hy := hy'
      exact List.mem_cons_of_mem _ (ih hy)
theorem lk_put {f : Str} {v : Value} {fs : List (Str × Value)} : (fun y : Str => if y = f then some v else fs.lookup y) = fun y => ((f, v) :: fs).lookup y := by
  funext y
  rw [List.lookup_cons]
  by_cases h : y = f
  · rw [if_pos h, h]; simp
  · have hb : (y == f) = false := by simpa using h
    rw [if_neg h, hb]
theorem lk_one {f : Str} {v : Value} : (fun y : Str => if y = f then some v else none) = fun y => ([(f, v)] : List (Str × Value)).lookup y := by
  funext y
  rw [List.lookup_cons]
  by_cases h : y = f
  · rw [if_pos h, h]; simp
  · have hb : (y == f) = false := by simpa using h
    rw [if_neg h, hb]; rfl
section
variable {prog : Program} {w : World} {A : Around} {E : Value → Shared → Prop} {K : Frag} {mg : Str → Option Value} {C : Addr}
theorem ld1 {M : Model} {s : Shared} {env : Env} {m : Str → Option Value} {x : Str} {pos : Pos} {v : Value} {Q : Value → Shared → Prop} (hn : s.heap.Ns env.locals m) (hv : m x = some v) (h : Q v s)
    (hk : env.scope.kind = .function) (hl : env.kindOf x = some .local) (hd : (x == ("__debug__" : Str)) = false) : wpAny M A (eval (.Name x pos) env) Q E s := wpAny_Name (wpAny_loadName_local hk hl hn hv h) hd
/-- the stores, one after another -/
theorem err_stores (cls : ∃ nm q N bs bm sn sub ab col dd k0 k1 k2 k3 k5, K.lookup C = some (excClassObj nm q C N bs bm true sn sub ab col dd k0 k1 k2 k3 k5 "ValueError.__new__") ∧ refsVE bm = true)
    (sa : findIn K (.ref C) "__setattr__" = some (some (.builtin "object.__setattr__"))) {env : Env} {m : Str → Option Value} {x : Addr} {g : Heap} (hk : env.scope.kind = .function) (hx : m "self" = some (.ref x)) (hself : env.kindOf "self" = some .local) (hL : env.locals ≠ x) (hgL : env.locals < g.objs.size) (nx : K.lookup x = none) (X : K.In g)
    {Q : Flow → Shared → Prop} : ∀ (fps : List (Str × Str)) (qs : List (Pos × Pos × Pos × Pos)) (us : List Value) (fs : List (Str × Value)) (s : Shared), fps.length = us.length → qs.length = fps.length → (∀ p ∈ fps, findIn K (.ref C) p.1 = some none) →
      (∀ (i : Nat) p u, fps[i]? = some p → us[i]? = some u → m p.2 = some u) → (∀ p ∈ fps, env.kindOf p.2 = some .local) → (∀ p ∈ fps, (p.2 == ("__debug__" : Str)) = false) → fs.length + fps.length ≤ 900 →
      g.Ns env.locals m → ErrAt env.locals g s.heap x C fs →
      (∀ h' tk, ErrAt env.locals g h' x C (((fps.map (·.1)).zip us).reverse ++ fs) → Q .next { s with heap := h', toks := tk }) → wpAny (model prog w) A (execs (asgs fps qs) env) Q E s
  | [], qs, us, fs, s, hl, _, _, _, _, _, _, _, e, hq => by
    cases us with
    | cons _ _ => simp at hl
    | nil => exact wpAny_execs_nil (hq s.heap s.toks e)
  | (f, p) :: fps, qs, us, fs, s, hl, hql, hno, hm, hloc, hdb, hz, hn, e, hq => by
    cases us with
    | nil => simp at hl
    | cons u us =>
      cases qs with
      | nil => simp at hql
      | cons q qs =>
        obtain ⟨a, b, c, d⟩ := q
        obtain ⟨nm, qn, N, bs, bm, sn, sub, ab, col, dd, k0, k1, k2, k3, k5, hC, hbm⟩ := id cls
        have hcl : clsIn K C = some { name := nm, bases := bs, mro := .ref C :: bm, ns := N, qualname := qn, hasDict := true, slotNames := sn, subclasses := sub, abstract := ab, collection := col, hasDel := false } := by unfold clsIn; rw [hC] <;> rfl
        have kp := e.keep
        have hnL : s.heap.Ns env.locals m := by
          obtain ⟨o, es, ep, ho, r⟩ := hn
          exact ⟨o, es, ep, kp _ _ hL ho, r⟩
        have XS : K.In s.heap := fun y o z => kp y o (fun z' => by rw [z', nx] at z; cases z) (X y o z)
        refine wpAny_execs_cons (plainObj_wpAny_Assign_Attribute ?_)
        refine ld1 (v := u) hnL (hm 0 (f, p) u rfl rfl) (ld1 (v := .ref x) hnL hx ?_ hk hself (by decide)) hk (hloc (f, p) (by simp)) (hdb (f, p) (by simp))
        obtain ⟨hp, gg, dr, tk, os⟩ := s
        have rest : ∀ h' tk', ErrAt env.locals g h' x C ((f, u) :: fs) → wpAny (model prog w) A (execs (asgs fps qs) env) Q E ⟨h', gg, dr, tk', os⟩ := fun h' tk' e' =>
          err_stores cls sa hk hx hself hL hgL nx X fps qs us ((f, u) :: fs) ⟨h', gg, dr, tk', os⟩ (by simpa using hl) (by simpa using hql) (fun y hy => hno y (List.mem_cons_of_mem _ hy)) (fun i y v h1 h2 => hm (i + 1) y v (by simpa using h1) (by simpa using h2))
            (fun y hy => hloc y (List.mem_cons_of_mem _ hy)) (fun y hy => hdb y (List.mem_cons_of_mem _ hy)) (by simp only [List.length_cons] at hz ⊢; omega) hn e' fun h2 tk2 e2 => hq h2 tk2 (by
            rw [List.map_cons, List.zip_cons_cons, List.reverse_cons, List.append_assoc]
            exact e2)
        obtain ⟨_, e⟩ := e
        rcases e with ⟨rfl, t, ht⟩ | ⟨t, dx, ht, h1, hlo, h2, h3⟩
        · refine set_plain XS (ox := excO C t) (od := none) ⟨ht, rfl, rfl, trivial⟩ sa ?_
          refine exc_osa XS ht hcl (show refsVE (.ref C :: bm) = true from hbm) rfl (hno (f, p) (by simp)) fun h' tk' dx k' dn dne hx' hns => ?_
          have gsz : g.get? dx = none := by
            cases z : g.get? dx with
            | none => rfl
            | some o => exact absurd (Heap.lt_size (kp dx o dne z)) (Nat.not_lt.mpr dn)
          refine rest h' tk' ⟨fun b o hb z => k' b o hb (kp b o hb z), .inr ⟨t, dx, hx', gsz, Nat.le_of_lt (Nat.lt_of_lt_of_le hnL.lt dn), dne, ?_⟩⟩
          rw [lk_one] at hns
          exact hns
        · obtain ⟨oD, _, _, hoD, _, _⟩ := h3.count within_lk
          refine set_plain XS (ox := { cls := .ref C, dict := some dx, data := .fields #[.ref t, .none, .none, .none, .bool false, .none] }) (od := some oD) ⟨ht, rfl, rfl, hoD⟩ sa ?_
          refine PySem.OEX.osa_old XS ht h3 within_lk (by rw [List.length_map]; simp only [List.length_cons] at hz; omega) hcl (show refsVE (.ref C :: bm) = true from hbm) rfl (hno (f, p) (by simp)) fun h' tk' k' hns => ?_
          refine rest h' tk' ⟨fun b o hb z => ?_, .inr ⟨t, dx, k' _ _ h2.symm ht, h1, hlo, h2, ?_⟩⟩
          · exact k' b o (fun zz => by rw [zz, h1] at z; cases z) (kp b o hb z)
          · rw [lk_put] at hns
            exact hns

/-- a bound built-in __init__, called: the args are laid anew -/
theorem call_mwE {u x t0 : Addr} {rest : List Value} {s : Shared} {Q : Value → Shared → Prop} (cls : ∃ nm q N bs bm sn sub ab col dd k0 k1 k2 k3 k5, K.lookup C = some (excClassObj nm q C N bs bm true sn sub ab col dd k0 k1 k2 k3 k5 "ValueError.__new__") ∧ refsVE bm = true)
    (X : K.In s.heap) (hu : s.heap.get? u = some (kxs_mw "ValueError.__init__" x)) (he : s.heap.get? x = some (excO C t0)) (hz : rest.length ≤ sizeLine)
    (hq : ∀ h', (∀ b o, b ≠ x → s.heap.get? b = some o → h'.get? b = some o) → (∃ t1, h'.get? x = some (excO C t1)) → Q .none { s with heap := h' }) : wpAny (model prog w) A (call (.ref u) rest) Q E s := by
  obtain ⟨nm, q, N, bs, bm, sn, sub, ab, col, dd, k0, k1, k2, k3, k5, hC, hbm⟩ := cls
  have hC' := X _ _ hC
  obtain ⟨hp, g, d, tk, os⟩ := s
  refine wpAny_call (codeAny_of_tree ?_)
  show wpAny _ A.in1 (callAny (.ref u) ⟨rest, []⟩) _ _ _
  simp only [callAny]
  refine wpAny_bind (wpAny_load hu ?_)
  have hif : (Value.type "method-wrapper" == Value.type "method" || Value.type "method-wrapper" == Value.type "builtin_function_or_method" || Value.type "method-wrapper" == Value.type "method-wrapper") = true := by decide
  simp only [kxs_mw, hif, if_true]
  refine KFB.if_so (by decide) ?_
  refine wpAny_bind (check_bound_init PySem.F.excBase_ValueError.toExcCallFacts hC' he rfl ?_)
  refine wpAny_bind (wpAny_pure (wpAny_pure ?_))
  refine ⟨plainId_quiet PySem.F.excBase_ValueError.init.plain _, codeAny_builtin PySem.F.excBase_ValueError.initEntry ?_⟩
  exact exc_init_tree (cls := .ref C) (t0 := t0) (dv := none) (c2 := .none) (c3 := .none) (b4 := .bool false) he hz fun h' k1 k2 _ => hq h' k1 ⟨_, k2⟩
/-- __init__ of an error -/
theorem err_init {name : Str} {fps : List (Str × Str)} (T : ErrC prog K mg name C fps) {fI x t0 : Addr} {us : List Value} {R : Result → Shared → Prop} {s : Shared} (hfI : findIn K (.ref C) "__init__" = some (some (.ref fI))) (X : K.In s.heap) (lim : s.heap.NoLimit) (Gl : s.heap.Ns mainGlobals mg)
    (Bt : ∃ mb, s.heap.Ns builtinsNs mb ∧ ∀ y : Str, y ≠ "__name__" → mb y = bootBuiltins y) (hx : s.heap.get? x = some (excO C t0)) (nx : K.lookup x = none) (hroom : A.depth < recursionLimit) (hus : us.length = fps.length) (hfew : fps.length ≤ 900)
    (hq : ∀ h' tk, ErrAt s.heap.objs.size s.heap h' x C ((fps.map (·.1)).zip us).reverse → R (.ok (.ret .none)) { s with heap := h', toks := tk }) : codeAny (model prog w) A (.call (.ref fI) ⟨.ref x :: us, []⟩) R s := by
  obtain ⟨fI', cc, cda, oc, ccl, cl, kV, doc, pm, ct, od, an, cdd, cld, osl, ccs, csl, qual, file, txt, tf, vs, ps, pa, names, p0, p1, p2, p3, p4, p5, j, qs, i1, i2, i3, i4, i5, i6, i7, i8, i9, i10, i11, i12, i13, i14, i15, i16, i17, i18, i19, i20, i21, i22, i23, pl, i24⟩ := T.ini
  rw [hfI] at i1
  cases i1
  obtain ⟨nm, qn, N, bs, bm, sn, sub, ab, col, dd, k0, k1, k2, k3, k5, hC, hbm⟩ := id T.cls
  have hcl : clsIn K C = some { name := nm, bases := bs, mro := .ref C :: bm, ns := N, qualname := qn, hasDict := true, slotNames := sn, subclasses := sub, abstract := ab, collection := col, hasDel := false } := by unfold clsIn; rw [hC] <;> rfl
  have hlen : (("self" : Str) :: fps.map (·.2)).length = (Value.ref x :: us).length := by simp [hus]
  refine ks_codeAny_call_defAt hroom (X _ _ i3) rfl lim (codeRec_of X i4) rfl (BindsTo.of_eq (i22 (.ref x :: us) (by simp [hus]; omega))) i21 (fun y hy => ?_) (fun h₀ hns hk => ?_) rfl rfl rfl
  · have := (List.of_mem_zip hy).1
    rcases List.mem_cons.mp this with z | z
    · show names.lookup y.1 = _
      rw [z]; exact i19
    · obtain ⟨p, hp, e⟩ := List.mem_map.mp z
      show names.lookup y.1 = _
      rw [← e]; exact i20 p hp
  · have X0 : K.In h₀ := X.keeps hk
    have hx0 := hk _ _ hx
    have hneC : x ≠ C := fun z => by rw [z, hC] at nx; cases nx
    have Lne : s.heap.objs.size ≠ x := Nat.ne_of_gt (Heap.lt_size hx)
    have mself : ((("self" : Str) :: fps.map (·.2)).zip (Value.ref x :: us)).reverse.lookup ("self" : Str) = some (Value.ref x) := NdefX.zip_look i15 (i := 0) rfl rfl
    obtain ⟨mb, hb1, hb2⟩ := Bt
    refine ks_wpAt_execs_cons (ks_wpAt_Expr_any (ks_wpAt_MethodCall (he := i24 _) ?_))
    refine ks_wpAt_super_base (by exact i17) (by exact i18) (by decide) rfl (X0 _ _ i3) rfl rfl rfl (X0 _ _ i5) rfl i6 i7 i12 ?_
    refine ks_loadName_global rfl (by exact i17) (loadGlobal_builtin (Gl.keeps hk) (mg_none_of X Gl i10) (hb1.keeps hk) ((hb2 _ (by decide +kernel)).trans (by decide +kernel)) ⟨rfl, ?_⟩)
    refine wpAny_loadName_free rfl (by exact i18) rfl ⟨_, X0 _ _ i8, rfl⟩ ?_
    refine wpAny_loadName_local rfl (by rw [i13]; exact i19) hns (by rw [i13]; exact mself) ?_
    refine ks_wpAny_isType_cls (X0 _ _ hC) rfl ⟨rfl, ?_⟩
    have hmro : mroIn K C (.ref C) = some true := by
      unfold mroIn
      rw [hcl, Option.bind_some, if_neg (by simp)]
      simp
    refine ks_wpAny_call_super (X0 _ _ hC) rfl hx0 rfl (fun c z => by cases z) (looks_mroIn X0 hmro) fun h1 e1 kp1 => ?_
    have X1 : K.In h1 := X0.keeps kp1
    have hm : alongIn K "__init__" (((.ref C :: bm).dropWhile (· != .ref C)).drop 1) = some (some (.builtin "ValueError.__init__")) := by
      have z := i9
      unfold ks_superIn at z
      rw [hcl] at z
      exact z
    have hI : Looks (model prog w) h1 (isInstance (.ref x) (.type "ValueError")) true := by
      have I1 : InstAt h1 x (excO C t0) C none := ⟨kp1 _ _ hx0, rfl, rfl, trivial⟩
      exact I1.type.andThen (looks_subIn X1 T.vE)
    refine kxs_getMethod kxs_ValueError e1 (looks_opaque X1 i11) (l₀ := .ref C :: bm) ((looks_clsIn X1 hcl).andThen .now) rfl X1 hm hI hneC (by decide) ?_
    have hu1 : (h1.push (kxs_mw "ValueError.__init__" x)).get? h1.objs.size = some (kxs_mw "ValueError.__init__" x) := Heap.get?_push_at rfl rfl
    have kp2 : ∀ b o, h₀.get? b = some o → (h1.push (kxs_mw "ValueError.__init__" x)).get? b = some o := fun b o e => Heap.get?_push_of_some _ (kp1 b o e)
    refine kxs_callWith (i := "ValueError.__init__") (x := x) rfl ?_
    show wpAny _ _ (evalArgs _ true ((false, eval (.Constant (.str txt) j p3) _) :: []) []) _ _ _
    refine evalArgs_plain (spliced_cons (Constant_str (spliced_nil ⟨hu1, ?_⟩)))
    refine call_mwE T.cls (X0.keeps kp2) hu1 (kp2 _ _ hx0) (by rw [sizeLine_eq]; simp) fun h3 k3 ⟨t1, ht1⟩ => ?_
    refine wpAt_of_wpAny ?_
    have kp3 : ∀ b o, b ≠ x → h₀.get? b = some o → h3.get? b = some o := fun b o hb e => k3 b o hb (kp2 b o e)
    refine err_stores (m := fun y : Str => ((("self" : Str) :: fps.map (fun p : Str × Str => p.2)).zip (Value.ref x :: us)).reverse.lookup y) (g := h₀) T.cls T.sa rfl mself (by exact i19) Lne hns.lt nx X0 fps qs us [] _ hus.symm i16 T.no ?_ i20 i23 (by simpa using hfew) hns ⟨kp3, .inl ⟨rfl, t1, ht1⟩⟩ ?_
    · intro i p u hp hu
      refine NdefX.zip_look i15 (i := i + 1) (x := p.2) (u := u) ?_ (by simpa using hu)
      simp [hp]
    · intro h' tk e
      refine hq h' tk ?_
      rw [List.append_nil] at e
      refine ⟨fun b o hb z => e.1 b o hb (hk b o z), ?_⟩
      rcases e.2 with ⟨a1, a2⟩ | ⟨t, dx, a1, a2, a0, a3, a4⟩
      · exact .inl ⟨a1, a2⟩
      · refine .inr ⟨t, dx, a1, ?_, a0, a3, a4⟩
        cases z : s.heap.get? dx with
        | none => rfl
        | some o => rw [hk _ _ z] at a2; cases a2
/-- an error is made -/
theorem err_made {name : Str} {fps : List (Str × Str)} (T : ErrC prog K mg name C fps) {us : List Value} {R : Result → Shared → Prop} {s : Shared} (X : K.In s.heap) (lim : s.heap.NoLimit) (Gl : s.heap.Ns mainGlobals mg)
    (Bt : ∃ mb, s.heap.Ns builtinsNs mb ∧ ∀ y : Str, y ≠ "__name__" → mb y = bootBuiltins y) (hroom : A.depth + 1 < recursionLimit) (hus : us.length = fps.length) (hfew : fps.length ≤ 900)
    (hq : ∀ h' tk e, s.heap.objs.size ≤ e → (∀ b o, s.heap.get? b = some o → h'.get? b = some o) → ErrAt s.heap.objs.size s.heap h' e C ((fps.map (·.1)).zip us).reverse → R (.ok (.ret (.ref e))) { s with heap := h', toks := tk }) :
    codeAny (model prog w) A (.call (.ref C) ⟨us, []⟩) R s := by
  obtain ⟨nm, q, N, bs, bm, sn, sub, ab, col, dd, k0, k1, k2, k3, k5, hC, hbm⟩ := id T.cls
  obtain ⟨fI, cc, cda, oc, ccl, cl, kV, doc, pm, ct, od, an, cdd, cld, osl, ccs, csl, qual, file, txt, tf, vs, ps, pa, names, p0, p1, p2, p3, p4, p5, j, qs, i1, i2, _⟩ := id T.ini
  obtain ⟨hp, g, dr, tk, os⟩ := s
  have kp : ∀ b o, hp.get? b = some o → ((hp.push (kdv_tup us)).push (excO C hp.objs.size)).get? b = some o := fun b o e => Heap.get?_push_of_some _ (Heap.get?_push_of_some _ e)
  have hget : ((hp.push (kdv_tup us)).push (excO C hp.objs.size)).get? (hp.objs.size + 1) = some (excO C hp.objs.size) := by heap_get
  have hnx : K.lookup (hp.objs.size + 1) = none := by
    cases e : K.lookup (hp.objs.size + 1) with
    | none => rfl
    | some o =>
      have z : hp.get? (hp.objs.size + 1) = some o := X _ _ e
      exact absurd (Nat.lt_of_succ_lt (Heap.lt_size z)) (Nat.lt_irrefl _)
  have hz : us.length ≤ sizeLine := by rw [hus, sizeLine_eq]; omega
  refine call_own PySem.F.excBase_ValueError (fun Y => refsVE_contains Y bm hbm) (X _ _ hC) (looks_findIn X i1) (fun self => bind_fn X self i2) hz ?_
  refine err_init (s := ⟨(hp.push (kdv_tup us)).push (excO C hp.objs.size), g, dr, tk, os⟩) T i1 (X.keeps kp) (lim.keeps kp) (Gl.keeps kp) ?_ hget hnx ?_ hus hfew fun h' tk' e => ?_
  · obtain ⟨mb, b1, b2⟩ := Bt
    exact ⟨mb, b1.keeps kp, b2⟩
  · show A.depth + 1 < recursionLimit
    exact hroom
  · have old : ∀ b o, hp.get? b = some o → h'.get? b = some o := fun b o z => e.1 b o (Nat.ne_of_lt (Nat.lt_succ_of_lt (Heap.lt_size z))) (kp b o z)
    refine ⟨rfl, hq h' tk' (hp.objs.size + 1) (Nat.le_succ _) old ⟨fun b o _ z => old b o z, ?_⟩⟩
    rcases e.2 with ⟨a1, a2⟩ | ⟨t, dx, a1, a2, a0, a3, a4⟩
    · exact .inl ⟨a1, a2⟩
    · refine .inr ⟨t, dx, a1, ?_, by have a0' := a0; simp only [Heap.size_push] at a0'; (show hp.objs.size ≤ dx); omega, a3, a4⟩
      cases z : hp.get? dx with
      | none => rfl
      | some o => rw [kp _ _ z] at a2; cases a2
end
section
open PyProof.Rows L2
variable {X : Cx} {C : Addr}
theorem relO_flds : ∀ {fs : List Str} {vs : List V} {us : List Value}, Vals vs us → ∀ f, RelO (List.lookup f (fs.zip vs)) (List.lookup f (fs.zip us))
  | [], _, _, _, f => by simp only [List.zip_nil_left, List.lookup_nil]; trivial
  | g :: fs, [], _, .nil, f => by simp only [List.zip_nil_right, List.lookup_nil]; trivial
  | g :: fs, v :: vs, u :: us, .cons r t, f => by
    rw [List.zip_cons_cons, List.zip_cons_cons, List.lookup_cons, List.lookup_cons]
    cases (f == g) with
    | true => exact r
    | false => exact relO_flds t f
theorem zip_rev {α β : Type} : ∀ {as : List α} {bs : List β}, as.length = bs.length → (as.zip bs).reverse = as.reverse.zip bs.reverse
  | [], [], _ => rfl
  | a :: as, b :: bs, h => by
    have h' : as.length = bs.length := by simpa using h
    rw [List.zip_cons_cons, List.reverse_cons, List.reverse_cons, List.reverse_cons, zip_rev h', List.zip_append (by simp [h'])]
    rfl
theorem vals_app : ∀ {as as' : List V} {bs bs' : List Value}, Vals as bs → Vals as' bs' → Vals (as ++ as') (bs ++ bs')
  | _, _, _, _, .nil, h => h
  | _, _, _, _, .cons r t, h => .cons r (vals_app t h)
theorem vals_rev : ∀ {as : List V} {bs : List Value}, Vals as bs → Vals as.reverse bs.reverse
  | _, _, .nil => .nil
  | a :: as, b :: bs, .cons r t => by
    rw [List.reverse_cons, List.reverse_cons]
    exact vals_app (vals_rev t) (.cons r .nil)
theorem vals_len : ∀ {as : List V} {bs : List Value}, Vals as bs → as.length = bs.length
  | _, _, .nil => rfl
  | _, _, .cons _ t => by rw [List.length_cons, List.length_cons, vals_len t]
theorem atF_zip {K : PySem.W.Frag} {S : Hp} : ∀ {fs : List Str} {ds : List D} {vs : List V}, AtL K S ds vs → AtF K S (fs.zip ds) (fs.zip vs)
  | [], _, _, _ => by rw [List.zip_nil_left, List.zip_nil_left]; exact .nil
  | f :: fs, [], _, .nil => by rw [List.zip_nil_right, List.zip_nil_right]; exact .nil
  | f :: fs, d :: ds, v :: vs, .cons h t => by
    rw [List.zip_cons_cons, List.zip_cons_cons]
    exact .cons h (atF_zip t)
theorem atL_rev {K : PySem.W.Frag} {S : Hp} : ∀ {ds : List D} {vs : List V}, AtL K S ds vs → AtL K S ds.reverse vs.reverse
  | _, _, .nil => .nil
  | d :: ds, v :: vs, .cons h t => by
    rw [List.reverse_cons, List.reverse_cons]
    exact AtL.append (atL_rev t) (.cons h .nil)
/-- an error is made: what is known then -/
def tMkD (C : Addr) (fps : List (Str × Str)) (ta : TA) : L2.St → Hp → XK → Prop := fun σ H Q => ta σ H fun vs H1 => vs.length = fps.length ∧ (fps = [] → Q (.ref C) none H1) ∧
  ∀ d, H1 d = none → Q (.ref C) (some d) (upd H1 d (.xd ((fps.map (·.1)).zip vs).reverse))
theorem mk_atL {fs : List (Str × Str)} {name : Str} (T : ErrC X.prog X.K X.mg name C fs) {pins : List (Addr × Obj)} {σ : L2.St} {H1 : Hp} {s1 : Shared} {vs : List V} {us : List Value} {Q : XK} {k : Nat} (hr : Room k X.A) (hfew : fs.length ≤ 900)
    (I1 : Inv X pins σ H1 s1) (rv : Vals vs us) (q : vs.length = fs.length ∧ (fs = [] → Q (.ref C) none H1) ∧ ∀ d, H1 d = none → Q (.ref C) (some d) (upd H1 d (.xd ((fs.map (·.1)).zip vs).reverse))) :
    wpAny (model X.prog X.w) X.A (call (.ref C) us) (MkP X pins σ Q) X.xe s1 := by
  have hlim := I1.nolimit
  have ul : us.length = fs.length := by rw [← vals_len rv]; exact q.1
  have hgl := I1.ok.mod.glob.keeps I1.bk
  obtain ⟨mb, hb1, hb2⟩ := I1.ok.mod.blt
  have hb1' := hb1.keeps I1.bk
  obtain ⟨hp, g, dr, tk, os⟩ := s1
  refine wpAny_call (err_made T I1.kIn hlim hgl ⟨mb, hb1', hb2⟩ (by have := hr.dp; omega) ul hfew fun h' tk' e hge old M => ?_)
  show MkP X pins σ Q (.ref e) ⟨h', g, dr, tk', os⟩
  have hge' : hp.objs.size ≤ e := hge
  obtain ⟨G', g1, g2⟩ := restrict h' fun b => decide (b ≠ e)
  have gk : ∀ b, b ≠ e → G'.get? b = h'.get? b := fun b hb => g1 b (decide_eq_true hb)
  have ge : G'.get? e = none := g2 e (by simp)
  have oldG : ∀ b o, hp.get? b = some o → G'.get? b = some o := fun b o z => (gk b (Nat.ne_of_lt (Nat.lt_of_lt_of_le (Heap.lt_size z) hge'))).trans (old b o z)
  have upG : ∀ b o, G'.get? b = some o → h'.get? b = some o := fun b o z => by
    by_cases hb : b = e
    · rw [hb, ge] at z; cases z
    · exact (gk b hb).symm.trans z
  rcases M.2 with ⟨e0, t, ht⟩ | ⟨t, dx, ht, h1, hlo, h2, hns⟩
  · have hf0 : fs = [] := by
      cases fs with
      | nil => rfl
      | cons p fs =>
        cases us with
        | nil => simp at ul
        | cons u us => simp at e0
    have J : Inv X pins σ H1 ⟨G', g, dr, tk', os⟩ := I1.kept (t' := tk') oldG
    exact ⟨e, excO C t, _, ⟨G', g, dr, tk', os⟩, H1, .ref C, none, rfl, J, upG, ge, ht, ⟨rfl, rfl⟩, rfl, rfl, I1.hok.fresh hge, rfl, I1.bare, raises_own T.exC T.tyC, q.2.1 hf0⟩
  · have hlo' : hp.objs.size ≤ dx := hlo
    have ob : ObjOk X.prog X.w (upd H1 dx (.xd ((fs.map (·.1)).zip vs).reverse)) G' dx (.xd ((fs.map (·.1)).zip vs).reverse) :=
      ⟨_, hns.at (fun o z => (gk dx h2).trans z), fun f => by
        rw [zip_rev (by simp [q.1]), zip_rev (by simp [ul])]
        exact relO_flds (vals_rev rv) f⟩
    have J : Inv X pins σ (upd H1 dx (.xd ((fs.map (·.1)).zip vs).reverse)) ⟨G', g, dr, tk', os⟩ := I1.laid (t' := tk') oldG hlo' ob
    refine ⟨e, _, _, ⟨G', g, dr, tk', os⟩, _, .ref C, some dx, rfl, J, upG, ge, ht, ⟨rfl, rfl⟩, rfl, rfl, ?_, rfl, I1.bare, raises_own T.exC T.tyC, q.2.2 dx (I1.hok.fresh hlo)⟩
    rw [upd_ne (Ne.symm h2)]
    exact I1.hok.fresh hge
theorem pmk_err {a : Expr} {as : List Expr} {fs : List (Str × Str)} {name : Str} {ta : TA} {p pos : Pos} {k : Nat} (T : ErrC X.prog X.K X.mg name C fs) (hr : Room k X.A) (hfew : fs.length ≤ 900) (ha : PA X (a :: as) ta) (hg : Gl X name) (hdb : (name == ("__debug__" : Str)) = false)
    (he : starEach (a :: as) X.env = (false, eval a X.env) :: starEach as X.env) (hpl : (backTo pos (starEach as X.env)).any (·.1) = false) :
    PMk X (.Call (.Name name p) (a :: as) [] pos) (tMkD C fs ta) := by
  intro pins s σ H Q I h
  refine wpAny_Call_Name_kw (ld_glob I hg T.gC ?_ hdb)
  refine PySem.W.callWith_K (h₀ := X.base) I.ok.mod.kin T.kC (thn (ha.run pos pins s σ H _ I h) fun us s1 hh => ?_) he hpl
  obtain ⟨vs, H1, I1, r1, q⟩ := hh
  exact ⟨I1.kIn, mk_atL T hr hfew I1 r1 q⟩
theorem pmk_err0 {fs : List (Str × Str)} {name : Str} {p pos : Pos} {k : Nat} (T : ErrC X.prog X.K X.mg name C fs) (hr : Room k X.A) (hfew : fs.length ≤ 900) (hg : Gl X name) (hdb : (name == ("__debug__" : Str)) = false) :
    PMk X (.Call (.Name name p) [] [] pos) (tMkD C fs fun σ H Q => Q [] H) := by
  intro pins s σ H Q I h
  refine wpAny_Call_Name_kw (ld_glob I hg T.gC ?_ hdb)
  exact PySem.W.callWith_K0 I.kIn T.kC (mk_atL (vs := []) T hr hfew I .nil h)
/-- raise C(args): fields, the newest first -/
def gRaise (C : Addr) (fs : List (Str × Str)) (ta : GA) : GS := fun E ρ μ => ta ρ μ (E.ex ρ) fun ds μ1 => ds.length = fs.length ∧ E.ex ρ C ((fs.map (·.1)).zip ds).reverse μ1
theorem rd_raise {K : PySem.W.Frag} {W : WX} {Z : Ends} {σ : L2.St} {H : Hp} {fs : List (Str × Str)} {ta : GA} (h : rdS K W (gRaise C fs ta) Z σ H) : tMkD C fs (rdA K W ta) σ H fun cls d H' => W cls d σ H' := by
  obtain ⟨S, μ, ρ, E, rl, en, q, ew⟩ := h
  have xw := ew.ex ρ σ S (Evl.Ex.refl S) en
  refine ⟨S, μ, ρ, _, _, rl, en, q, xw, fun vs ds μ1 S1 H1 q1 a1 e1 r1 => ⟨?_, fun hf => ?_, fun d hd => ?_⟩⟩
  · rw [← a1.len]; exact q1.1
  · have z := q1.2
    rw [hf] at z
    exact xw C [] μ1 S1 H1 none (by simpa using z) ⟨[], rfl, .nil⟩ e1 r1
  · have hS := r1.ex.fresh hd
    have e2 : Ex S1 (upd S1 d (.xd ((fs.map (·.1)).zip vs).reverse)) := fun b o z => by rw [upd_ne (ne_of_none z hS)]; exact z
    refine xw C _ μ1 _ _ (some d) q1.2 ⟨_, upd_same, ?_⟩ (e1.trans e2) ?_
    · have hvl : vs.length = fs.length := by rw [← a1.len]; exact q1.1
      have a3 := a1.mono e2
      rw [zip_rev (as := fs.map (·.1)) (bs := ds) (by simp [q1.1])]
      have z := atF_zip (fs := (fs.map (·.1)).reverse) (atL_rev a3)
      rw [← zip_rev (as := fs.map (·.1)) (bs := vs) (by simp [hvl])] at z
      exact z
    · exact (r1.newS hd).2
theorem ss_raise {a : Expr} {as : List Expr} {fs : List (Str × Str)} {name : Str} {ta : GA} {p pos pos2 : Pos} {k : Nat} (T : ErrC X.prog X.K X.mg name C fs) (hr : Room k X.A) (hc : X.calm = true) (hfew : fs.length ≤ 900) (ha : SA X (a :: as) ta) (hg : Gl X name) (hdb : (name == ("__debug__" : Str)) = false := by decide)
    (he : starEach (a :: as) X.env = (false, eval a X.env) :: starEach as X.env := by rfl) (hpl : (backTo pos (starEach as X.env)).any (·.1) = false := by rfl) :
    SS X (.Raise (some (.Call (.Name name p) (a :: as) [] pos)) none pos2) (gRaise C fs ta) :=
  ⟨fun W tk => PS.imp (ps_raise hc tk (pmk_err T hr hfew (ha.pa W tk) hg hdb he hpl)) fun Z σ H h => rd_raise h⟩
theorem ss_raise0 {fs : List (Str × Str)} {name : Str} {p pos pos2 : Pos} {k : Nat} (T : ErrC X.prog X.K X.mg name C fs) (hr : Room k X.A) (hc : X.calm = true) (hfew : fs.length ≤ 900) (hg : Gl X name) (hdb : (name == ("__debug__" : Str)) = false := by decide) :
    SS X (.Raise (some (.Call (.Name name p) [] [] pos)) none pos2) (gRaise C fs gNil) :=
  ⟨fun W tk => PS.imp (ps_raise hc tk (pmk_err0 T hr hfew hg hdb)) fun Z σ H h => by
    obtain ⟨S, μ, ρ, Θ, Φ, r, en, q, xw, k⟩ := rd_raise h
    exact k [] [] μ S H q .nil (Evl.Ex.refl S) r⟩

/-! ### try: .. except C as e: .. -/
/-- what the suite reaches -/
def EnSu (E : En) (i : Nat) : En := ⟨fun ρ μ => E.nx (ρ.set i none) μ, E.rt, fun ρ μ => E.bk (ρ.set i none) μ, fun ρ μ => E.ct (ρ.set i none) μ, fun _ _ _ _ => False⟩
def gTry (K : PySem.W.Frag) (ce : Value) (i : Nat) (tb : GS) (ts : Addr → Option Addr → Addr → List (Str × D) → GS) : GS := fun E ρ μ =>
  tb { E with ex := fun ρ1 C fs μ1 => ∃ b, PySem.W.exmOne K (.ref C) ce = some b ∧ (b = true → ∀ a d, ts a d C fs (EnSu E i) (ρ1.set i (some (.exn a d C fs))) μ1) ∧ (b = false → E.ex ρ1 C fs μ1) } ρ μ
def tSu (K : PySem.W.Frag) (ts : Addr → Option Addr → Addr → GS) (a : Addr) (cls : Value) (d : Option Addr) : TS := fun Z σ H => ∃ C, cls = .ref C ∧ rdS K (fun _ _ _ _ => False) (ts a d C) Z σ H
theorem ss_try {x n : Str} {ce : Addr} (i : Nat) {body suite : List Stmt} {b₀ : Stmt} {np pos' pos : Pos} {tb : GS} {ts : Addr → Option Addr → Addr → GS}
    (hs : X.stack = X.env :: X.outer) (hf : X.env.frame = some X.env.locals) (hN : X.N.Nodup) (hi : X.N[i]? = some n) (hln : X.env.kindOf n = some .local) (hc : Names X x (.ref ce))
    (hb : ∀ (pn : List (Addr × Obj)) (xe : Value → Shared → Prop), PassesOwn (model X.prog X.w) X.A X.env xe → SSs (X.tr pn xe) body tb)
    (hsu : ∀ (a : Addr) (oe : Obj) (C : Addr) (d : Option Addr) (pn : List (Addr × Obj)), Zc (.ref C) d oe → (∃ vs, oe.data = .fields vs) → SSs (X.suite a ((a, oe) :: pn)) (b₀ :: suite) (ts a d C)) :
    SS X (.Try body [.ExceptHandler (some (.Name x np)) (some n) (b₀ :: suite) pos'] [] [] pos) (gTry X.K (.ref ce) i tb fun a d C _ => ts a d C) :=
  ⟨fun W tk => PS.imp (ps_try_as (i := i) (tb := fun W => rdS X.K W tb) (ts := tSu X.K ts) (Wout := W) hs hf hN hi hln hc tk (fun W' pn xe tk' po => (hb pn xe po).pss W' tk') fun a oe cls d pn hz hfl => ⟨fun pins s σ H Z I h => by
      obtain ⟨C, rfl, h⟩ := h
      exact ((hsu a oe C d pn hz hfl).pss (fun _ _ _ _ => False) takes0).run pins s σ H Z I h⟩) fun Z σ H h => by
    obtain ⟨S, μ, ρ, E, rl, en, q, ew⟩ := h
    refine ⟨S, μ, ρ, _, rl, en, q, ⟨ew.nx, ew.rt, ew.bk, ew.ct, fun ρ1 σ1 S1 e1 en1 C fs μ2 S2 H2 d q2 x2 e2 r2 => ?_⟩⟩
    obtain ⟨b, hb1, hb2, hb3⟩ := q2
    refine ⟨b, hb1, fun hbt a ha => ⟨C, rfl, S2, μ2, ρ1.set i (some (.exn a d C fs)), EnSu E i, r2, ?_, hb2 hbt a d, ?_⟩, fun hbf => ew.ex ρ1 σ1 S1 e1 en1 C fs μ2 S2 H2 d (hb3 hbf) x2 e2 r2⟩
    · obtain ⟨vs, xv, af⟩ := x2
      exact (en1.mono e2).set i (.exn xv af)
    · have e12 := e1.trans e2
      exact ⟨fun ρ' μ' σ' S' H' q' e' r' en' => ew.nx _ μ' _ S' H' q' (e12.trans e') r' (en'.setN i none), fun v d' μ' S' H' q' a' e' r' => ew.rt v d' μ' S' H' q' a' (e12.trans e') r',
        fun ρ' μ' σ' S' H' q' e' r' en' => ew.bk _ μ' _ S' H' q' (e12.trans e') r' (en'.setN i none), fun ρ' μ' σ' S' H' q' e' r' en' => ew.ct _ μ' _ S' H' q' (e12.trans e') r' (en'.setN i none),
        fun _ _ _ _ _ _ _ _ _ _ _ z => z.elim⟩⟩
/-- e.f in the suite -/
def gXf (K : PySem.W.Frag) (a : Addr) (d : Option Addr) (C : Addr) (f : Str) (te : GE) : GE := fun ρ μ Θ Φ => XfC K C ∧ PySem.W.findIn K (.ref C) f = some none ∧ te ρ μ Θ fun x μ1 => ∃ fs v, x = .exn a d C fs ∧ fs.lookup f = some v ∧ Φ v μ1
theorem se_xf {a : Addr} {oe : Obj} {d : Option Addr} {pn : List (Addr × Obj)} {e : Expr} {te : GE} {pos : Pos} {f : Str} (hz : Zc (.ref C) d oe) (hfl : ∃ vs, oe.data = .fields vs) (he : SE (X.suite a ((a, oe) :: pn)) e te)
    (hb : attributeBase e f X.env (eval e X.env) = eval e X.env := by rfl) : SE (X.suite a ((a, oe) :: pn)) (.Attribute e f pos) (gXf X.K a d C f te) :=
  ⟨fun W tk => ⟨fun pins s σ H Q I h => by
    obtain ⟨S, μ, ρ, Θ, Φ, r, en, ⟨T, hno, q⟩, xw, k⟩ := h
    refine (pe_xf T hno hz hfl (he.pe W tk) hb).run pins s σ H Q I ⟨S, μ, ρ, Θ, _, r, en, q, xw, fun v dv μ1 S1 H1 q1 a1 e1 r1 => ?_⟩
    obtain ⟨fs, v', rfl, hl, q1⟩ := q1
    cases a1 with
    | exn xv af =>
      cases d with
      | none =>
        have xv' : _ = [] := xv
        subst xv'
        cases af
        cases hl
      | some dx =>
        have xv' : S1 dx = some (.xd _) := xv
        obtain ⟨u, h1, h2⟩ := af.lookup hl
        refine ⟨rfl, rfl, dx, _, u, rfl, ?_, h1, k _ _ _ _ _ q1 h2 e1 r1⟩
        rcases r1.ex _ _ xv' with z | ⟨_, _, z, _⟩
        · exact z
        · cases z⟩⟩
/-- isinstance(e, C) in the suite -/
structure ExcD (K : PySem.W.Frag) (D : Addr) : Prop where
  hg : PySem.W.findIn K (.ref D) "__getattribute__" = some (some (.builtin "BaseException.__getattribute__"))
  hk : PySem.W.findIn K (.ref D) "__getattr__" = some none
  hs : PySem.W.subIn K (.ref D) (.type "BaseException") = some true
  hd : PySem.W.hasDictIn K D = true
  hcl : (PySem.W.clsIn K D).isSome = true
  ha : PySem.W.findIn K (.ref D) "__class__" = some (some (.builtin "object.__class__"))
  hn : PySem.W.specialIn K (.builtin "object.__class__") "__get__" = some (some (.builtin "getset_descriptor.__get__"))
  ht : PySem.W.takesIn K (.builtin "object.__class__") = some true
  hm : PySem.W.mroIn K D (.type "object") = some true
theorem ExcD.xf {K : PySem.W.Frag} {D : Addr} (h : ExcD K D) : XfC K D := ⟨h.hg, h.hk, h.hs, h.hd⟩
def rIsX (K : PySem.W.Frag) (a D : Addr) (d : Option Addr) : List V → Hp → VK → Prop := fun xs H Q => ∃ (c : Addr) (b : Bool) (vs : List (Str × V)), xs = [.ref a, .ref c] ∧ ExcD K D ∧ Xv H d vs ∧ PySem.W.kitOne K (.ref D) (.ref c) = some b ∧ Q (.bl b) H
theorem call_isX {a D : Addr} {oe : Obj} {d : Option Addr} {pn : List (Addr × Obj)} (hz : Zc (.ref D) d oe) (hf : ∃ vs, oe.data = .fields vs) : CallR (X.suite a ((a, oe) :: pn)) (.builtin "isinstance") (rIsX X.K a D d) := by
  intro pins s σ H xs us Q I r h
  obtain ⟨c, b, vs, rfl, C, xv, e, q⟩ := h
  cases r with
  | cons rx rr =>
    cases rr with
    | cons rt rr =>
      cases rr
      cases rx
      cases rt
      obtain ⟨hget, _⟩ := I.pin (a, oe) (List.mem_append.mpr (.inl List.mem_cons_self))
      obtain ⟨vs', hv⟩ := hf
      have J : ∃ od, PySem.W.InstAt s.heap a oe D od := by
        obtain ⟨oc, odd, oda, osl⟩ := oe
        obtain ⟨h1, h2⟩ := hz
        dsimp only at h1 h2 hv
        subst h1 h2 hv
        cases odd with
        | none => exact ⟨none, hget, rfl, rfl, trivial⟩
        | some dx =>
          have hx : ObjOk X.prog X.w H s.heap dx (.xd vs) := I.hok dx _ xv
          obtain ⟨mA, hns, _⟩ := hx
          obtain ⟨od, ho, _⟩ := lookIn_ns hns
          exact ⟨some od, hget, rfl, rfl, ho⟩
      obtain ⟨od, J⟩ := J
      exact PySem.W.kia_one (PySem.W.kitx_exc C.hcl C.hg C.hk C.hs C.ha C.hn C.ht C.hm) I.kIn J e (fun z => nomatch z) fun tk => ⟨.bl b, H, I.kept (t' := tk) fun _ _ z => z, rfl, q⟩
def isXR (K : PySem.W.Frag) (a D : Addr) (d : Option Addr) : RLD := fun ds μ Φ => ∃ c b fs, ds = [.exn a d D fs, .ptr c] ∧ ExcD K D ∧ PySem.W.kitOne K (.ref D) (.ref c) = some b ∧ Φ (.bl b) μ
theorem rd_isX {K : PySem.W.Frag} {a D : Addr} {d : Option Addr} : RDL K (rIsX K a D d) (isXR K a D d) := fun S μ H vs ds Φ Q r at1 q k => by
  obtain ⟨c, b, fs, rfl, C, e, q⟩ := q
  cases at1 with
  | cons a1 at2 =>
    cases at2 with
    | cons a2 at3 =>
      cases at3
      cases a2
      cases a1 with
      | @exn _ _ _ vs0 _ xv af =>
        refine ⟨c, b, vs0, rfl, C, ?_, e, k.same r (.bl _) q⟩
        cases d with
        | none => exact xv
        | some dx =>
          rcases r.ex _ _ xv with z | ⟨_, _, z, _⟩
          · exact z
          · cases z
theorem se_isX {a : Addr} {oe : Obj} {d : Option Addr} {pn : List (Addr × Obj)} {e : Expr} {es : List Expr} {tr : GA} {p pos : Pos} (hz : Zc (.ref C) d oe) (hf : ∃ vs, oe.data = .fields vs) (hg : Gl X "isinstance") (hm : X.mg "isinstance" = none) (ha : SA (X.suite a ((a, oe) :: pn)) (e :: es) tr)
    (he : starEach (e :: es) X.env = (false, eval e X.env) :: starEach es X.env := by rfl) (hpl : (backTo pos (starEach es X.env)).any (·.1) = false := by rfl) :
    SE (X.suite a ((a, oe) :: pn)) (.Call (.Name "isinstance" p) (e :: es) [] pos) (gCB (isXR X.K a C d) tr) :=
  se_callB (call_isX hz hf) rd_isX hg hm (by decide +kernel) ha (by decide) (by decide) he hpl
end
end GD

/-! Gd9: repr of data, sorted(set(list of whole numbers)), defs that know that nothing is being shown -/
namespace GD
open PySem PySem.Spec PyProof.Rows L2

/-! ### set(l), l a list of whole numbers -/
section
variable {P : Program} {w : World} {A : Around} {E : Value → Shared → Prop} {s : Shared}
/-- a new set's object -/
def sob (w : World) : Obj := { cls := .type "set", dict := none, data := .set #[] 0 (.fresh 0 0 (!w.params.followText "set-order")) }
/-- the heap with it, its address -/
abbrev sh (w : World) (s : Shared) : Heap := s.heap.push (sob w)
abbrev sa (s : Shared) : Addr := s.heap.objs.size
/-- what is known when the set is filled -/
def SFull (w : World) (s : Shared) (ns : List Int) (h' : Heap) : Prop := (∃ c, SetR w h' (sa s) (fun j => decide (j ∈ ns)) c ∧ c ≤ ns.length) ∧ ∀ b o, s.heap.get? b = some o → h'.get? b = some o
set_option maxRecDepth 100000 in
set_option maxHeartbeats 3200000 in
theorem set_listI {l : Addr} {its : Array Value} (ns : List Int) {Q : Value → Shared → Prop} (hh : A.handled = none) (hl : s.heap.IsList l its) (hit : IntsAre its.toList ns) (hb : ns.length + 1 < scanBound)
    (h : ∀ (h' : Heap) (tk : Nat), SFull w s ns h' → Q (.ref (sa s)) { s with heap := h', toks := tk }) : wpAny (model P w) A (call (.type "set") [.ref l]) Q E s := by
  have hn : its.size = ns.length := by rw [← IntsAre.length hit, Array.length_toList]
  obtain ⟨c, tl, hmro⟩ := F.called_set.mro
  have f1 := F.called_set.made
  have f2 := F.called_set.sub
  have f3 := F.called_set.notType
  have f4 := F.called_set.canCreate
  have f5 := F.typeCall_set_1 (.ref l)
  refine wpAny_call (codeAny_of_tree ?_)
  show wpAny _ _ (callAny (.type "set") _) _ _ _
  refine wpAny_pure ⟨Code.quiet_builtin _ (by decide +kernel), codeAny_builtin F.entry_type_call ?_⟩
  rw [Around.under_plain (weight_type_call_type "set" [.ref l] []) rfl]
  repeat (any_goals (first | assumption | wp_step))

  refine codeAny_mono (code_set_led1 (.ref l) (E := E) (Q₁ := fun v s1 => v = .ref (sa s) ∧ s1 = { s with heap := sh w s }) ⟨rfl, rfl⟩) fun r s1 hr => ?_
  cases r with
  | error e => exact hr
  | ok fl =>
    cases fl with
    | next => exact hr.elim
    | brk => exact hr.elim
    | cont => exact hr.elim
    | ret v =>
      obtain ⟨rfl, rfl⟩ := hr
      have g0 : (sh w s).get? (sa s) = some (sob w) := Heap.get?_push_size _ rfl
      have ty0 : Shared.TypeIs { s with heap := sh w s } (.ref (sa s)) "set" := ⟨_, g0, rfl⟩
      have i1 := F.called_set.init.lookup
      have i2 := F.called_set.init.bind (.ref (sa s))
      repeat (any_goals (first | assumption | wp_step))

      refine codeAny_mono (codeAny_call_builtin (R := wants (fun r s2 => r = .none ∧ ∃ h' tk, s2 = { s with heap := h', toks := tk } ∧ SFull w s ns h') E) F.called_set.init.plain F.entry_set_init (check_set_init_1 ty0 ?_)) fun r2 s2 hr2 => ?_
      · obtain ⟨⟨lc, ld, ldt, lsl⟩, lo, c1, nl, c2⟩ := hl
        simp only at c1 c2
        subst c1; subst c2
        have lo1 : (sh w s).get? l = some { cls := .type "list", dict := ld, data := .seq its nl, slots := lsl } := Heap.get?_push_of_some _ lo
        have il : (sh w s).IsList l its := ⟨_, lo1, rfl, nl, rfl⟩
        have g1 := F.sub_list_set
        have g2 := F.sub_list_frozenset
        have g3 : (Value.type "list" == Value.type "dict") = false := by decide
        unfold Builtin.«set.__init__» noKeywords Builtin.Frozenset.updateFrom
        generalize hPI : pyIter = PI
        wp_walk
        subst hPI

        refine wpAny_pyIter_list il ?_
        refine wpAny_bind (wpAny_runValue ?_)
        have lt : l < sa s := Heap.lt_size lo
        have h3 : A.in1.in1.in1.handled = none := by simp [hh]
        have sz : (sh w s).objs.size = sa s + 1 := Heap.size_push ..
        have ne : l ≠ (sh w s).objs.size := by rw [sz]; exact Nat.ne_of_lt (Nat.lt_succ_of_lt lt)
        have nf : sa s ∉ [(sh w s).objs.size, l] := by
          rw [sz]
          intro z
          rcases List.mem_cons.mp z with z | z
          · exact Nat.ne_of_lt (Nat.lt_succ_self _) z
          · exact Nat.ne_of_gt lt (List.mem_singleton.mp z)
        have hv : ∀ (i : Nat) (v : Value), its[i]? = some v → ∃ k t, ns[i]? = some k ∧ v = .int k t := fun i v e => by
          have hi : i < ns.length := by rw [← hn]; exact (Array.getElem?_eq_some_iff.mp e).1
          obtain ⟨t, q⟩ := PyProof.Rows.IntsAre.int_at hit i v (by rw [Array.getElem?_toList]; exact e)
          refine ⟨ns[i], t, List.getElem?_eq_getElem hi, ?_⟩
          rw [q, List.getD_eq_getElem?_getD, List.getElem?_eq_getElem hi] <;> rfl
        refine set_update_ints ((Walks.list h3 _ l ne its).toS) (sa s) nf ns hn hb hv (its.size - 0) 0 _ (by omega) (Nat.zero_le _) ⟨⟨_, Heap.get?_push_size _ rfl, rfl, rfl⟩, il.push _⟩ ?c0 ?cR
        case c0 =>
          refine ⟨0, Nat.le_refl 0, setR_new_at ?_⟩
          exact Heap.get?_push_of_some _ g0
        case cR =>
          intro s3 c3 mv le3 R3
          obtain ⟨h4, g4, d4, t4, o4⟩ := s3
          have e1 : g4 = s.gens := mv.gens
          have e2 : d4 = s.drawn := mv.drawn
          have e3 : o4 = s.os := mv.os
          subst e1; subst e2; subst e3
          refine wpAny_pure ?_
          show wpAny _ _ (ret Value.none) _ _ _
          refine wpAny_pure ⟨rfl, h4, t4, rfl, ⟨c3, R3, by rw [← hn]; exact le3⟩, fun b o e => ?_⟩
          have lb : b < sa s := Heap.lt_size e
          refine mv.heap b o (fun z => ?_) (Heap.get?_push_of_some _ (Heap.get?_push_of_some _ e))
          rcases List.mem_cons.mp z with z | z
          · exact Nat.ne_of_lt lb z
          · have q := List.mem_singleton.mp z
            rw [sz] at q
            exact Nat.ne_of_lt (Nat.lt_succ_of_lt lb) q

      · cases r2 with
        | error e => exact hr2
        | ok fl2 =>
          cases fl2 with
          | next => exact hr2.elim
          | brk => exact hr2.elim
          | cont => exact hr2.elim
          | ret r =>
            obtain ⟨rfl, h4, t4, rfl, full⟩ := hr2
            repeat (any_goals (first | assumption | wp_step))
            exact h _ _ full
end

/-! ### sorted(set(a)) -/
section
variable {X : Cx} {a : Expr} {ta : GE} {p p2 q pos : Pos}
def rSetL (K : PySem.W.Frag) (w : World) : List V → Hp → VK → Prop := fun xs H Q => ∃ (l : Addr) (ns : List Int), xs = [.ref l] ∧ SqL K H l (ns.map V.int) ∧ ns.length < 64 ∧
  ∀ p n, H p = none → n < 64 → Q (.ref p) (upd H p (SetO w p (fun j => decide (j ∈ ns)) n))
theorem cr_setL (hc : X.calm = true) : CallR X (.type "set") (rSetL X.K X.w) := by
  intro pins s σ H xs us Q I r h
  obtain ⟨l, ns, rfl, hq, hl, q⟩ := h
  rw [Vals.ref1 r]
  obtain ⟨its, rv, pl, hz⟩ := I.list hq
  refine set_listI ns (I.ok.hd hc) pl.isList (by simpa using ints_of_vals rv) (by unfold scanBound; omega) fun h' tk full => ?_
  obtain ⟨⟨c, R, hcn⟩, k⟩ := full
  exact ⟨.ref _, upd H (sa s) (SetO X.w (sa s) (fun j => decide (j ∈ ns)) c), I.laid (t' := tk) k (Nat.le_refl _) (setO_new R), rfl, q _ _ (I.hok.fresh (Nat.le_refl _)) (by omega)⟩
/-- the members, each once, ascending -/
def gSortSet (ta : GE) : GE := fun ρ μ Θ Φ => ta ρ μ Θ fun d μ1 => ∃ ns : List Int, IsR μ1 d (ns.map D.int) ∧ ns.length < 64 ∧ ∀ ms : List Int, ms.Pairwise (· < ·) → (∀ k, k ∈ ms ↔ k ∈ ns) → NewL (ms.map D.int) μ1 Φ
theorem atL_ints {K : PySem.W.Frag} {S : Hp} : ∀ ms : List Int, AtL K S (ms.map D.int) (ms.map V.int)
  | [] => .nil
  | m :: ms => .cons (.int m) (atL_ints ms)
theorem se_sortSet (hc : X.calm = true) (g1 : Gl X "sorted") (m1 : X.mg "sorted" = none) (g2 : Gl X "set") (m2 : X.mg "set" = none) (ha : SE X a ta)
    (he : starEach [a] X.env = (false, eval a X.env) :: starEach [] X.env := by rfl) (he2 : starEach [.Call (.Name "set" p2) [a] [] q] X.env = (false, eval (.Call (.Name "set" p2) [a] [] q) X.env) :: starEach [] X.env := by rfl) :
    SE X (.Call (.Name "sorted" p) [.Call (.Name "set" p2) [a] [] q] [] pos) (gSortSet ta) :=
  ⟨fun W tk => PE.imp (pe_callB (cr_sortedSet hc) g1 m1 (by decide +kernel) (pa_cons (pe_callTy (cr_setL hc) g2 m2 (by decide +kernel) (pa_cons (ha.pe W tk) pa_nil he) (by decide) (by decide) he (by rfl)) pa_nil he2) (by decide) (by decide) he2 (by rfl)) fun σ H Q h => by
    obtain ⟨S, μ, ρ, Θ, Φ, r, en, z, xw, k⟩ := h
    refine ⟨S, μ, ρ, Θ, _, r, en, z, xw, fun v d μ1 S1 H1 q1 a1 e1 r1 => ?_⟩
    obtain ⟨ns, hq, hl, q1⟩ := q1
    obtain ⟨l, xs, rfl, sq, t⟩ := hq.at' r1 a1
    have hxs := t.ints
    subst hxs
    refine ⟨l, ns, rfl, sq, hl, fun p n hp hn => ⟨p, _, n, rfl, upd_same, hn, fun ms p' s1 s2 s3 hp' => ?_⟩⟩
    have r2 : Rel X.K S1 μ1 (upd H1 p (SetO X.w p (fun j => decide (j ∈ ns)) n)) := r1.grow fun b o z => by rw [upd_ne (ne_of_none z hp)]; exact z
    exact newL r2 (atL_ints ms) (q1 ms s1 fun k => by rw [s2 k]; simp) (k.mono e1) hp'⟩

/-! ### repr -/
def rRepr (K : PySem.W.Frag) : List V → Hp → VK → Prop := fun xs H Q => ∃ (x : V) (d : PyData), xs = [x] ∧ Dp K H x d ∧ d.showable = true ∧ d.hasDict = false ∧ d.depth ≤ 60 ∧ d.shown.length ≤ sizeLine ∧ Q (.str d.shown) H
theorem cr_repr (hgd : X.A.guards = some []) (hu : X.A.units + 100 < cLine) : CallR X (.builtin "repr") (rRepr X.K) := by
  intro pins s σ H xs us Q I r h
  obtain ⟨x, d, rfl, dp, hs, hd, hdep, hsz, q⟩ := h
  cases r with
  | cons rx rr =>
    rename_i u us'
    cases rr
    obtain ⟨as, R⟩ := Dp.reads I d x u dp rx
    have fin : ∀ h' u tk, (∀ b o, s.heap.get? b = some o → h'.get? b = some o) → EP X pins σ Q (.str d.shown u) { s with heap := h', toks := tk } := fun h' u tk kp => ⟨.str d.shown, H, I.kept (t' := tk) kp, ⟨_, rfl⟩, q⟩
    cases R with
    | none => exact P.repr_of_none (fin s.heap _ _ fun _ _ e => e)
    | bool b => exact P.repr_of_bool (fin s.heap _ _ fun _ _ e => e)
    | int i t => exact P.repr_of_int (by simpa [PyData.showable] using hs) (fin s.heap _ _ fun _ _ e => e)
    | str y t => exact P.repr_of_str (fin s.heap _ _ fun _ _ e => e) (by simpa only [PyData.shown] using hsz)
    | dict _ _ _ _ _ => cases hd
    | list h1 h2 h3 h4 => exact repr_of_reads' (.list h1 h2 h3 h4) hs (PyData.noDict_hsm hd) hgd (by omega) (fun _ _ e => e) fin hsz
    | tuple h1 h2 h3 h4 => exact repr_of_reads' (.tuple h1 h2 h3 h4) hs (PyData.noDict_hsm hd) hgd (by omega) (fun _ _ e => e) fin hsz
def ShowOk (p : PyData) : Prop := SeqAt.shaped p = true ∧ p.showable = true ∧ p.hasDict = false ∧ p.depth ≤ 60 ∧ p.shown.length ≤ sizeLine
def reprD : RLD := fun ds μ Φ => ∃ d, ds = [d] ∧ ShowOk (toPm μ d) ∧ Φ (.str (toPm μ d).shown) μ
theorem rd_repr {K : PySem.W.Frag} : RDL K (rRepr K) reprD := fun S μ H vs ds Φ Q r at1 q k => by
  obtain ⟨d, rfl, ⟨h1, h2, h3, h4, h5⟩, q⟩ := q
  cases at1 with
  | cons a1 at2 =>
    cases at2
    exact ⟨_, _, rfl, dp_m r a1 h1, h2, h3, h4, h5, k.same r (.str _) q⟩
theorem bt_repr : bootBuiltins "repr" = some (.builtin "repr") := by decide +kernel
end

/-! ### defs that know that nothing is being shown -/
structure FnG (P : Program) (w : World) (K : PySem.W.Frag) (mg : Str → Option Value) (base : Heap) (k : Nat) (f : Addr) (fd : FuncData) (ps : List Str) (sp : Sp) : Prop where
  len : ∀ vs H Q E, sp vs H Q E → vs.length = ps.length
  run : ∀ (A : Around) (outer : List Env) (s : Shared) (H : Hp) (args : Args) (us : List Value) (vs : List V) (Q : VK) (E : XK), Room k A → A.guards = some [] → Env0 P w K mg base A outer s H → BindsTo s fd args (ps.zip us) → Vals vs us → sp vs H Q E →
    codeAny (model P w) A (.call (.ref f) args) (CR (L2.CX P w) outer P w H s Q E) s
section
variable {P : Program} {w : World} {K : PySem.W.Frag} {mg : Str → Option Value} {base : Heap}
theorem okG {x qual : Str} {st : Stmt} {f : Addr} {fd : FuncData} {N ps : List Str} {k : Nat} {cn : Con} {tb : GS} (F : Fun K x qual st f fd) (Sc : FnScope N ps (defScope st)) (len : ∀ ds μ Φ Θ, cn ds μ Φ Θ → ds.length = ps.length)
    (hb : ∀ (cdv : Value) (A : Around) (outer : List PySem.Env) (s : Shared) (H : Hp) (E : XK), Room k (A.deeper (envOfC qual (defScope st) s.heap.objs.size f cdv)) → (A.deeper (envOfC qual (defScope st) s.heap.objs.size f cdv)).guards = some [] →
      SSs (cxOf (L2.CX P w) P w K mg base N qual (defScope st) f cdv A outer s H E) (defBody st) tb)
    (hp : ∀ ds μ Φ Θ, cn ds μ Φ Θ → tb (En0 Φ Θ) (startR N ds) μ) : FnG P w K mg base (k + 1) f fd ps (spD K cn) := by
  have hlen : ∀ vs H Q E, spD K cn vs H Q E → vs.length = ps.length := fun vs H Q E h => by
    obtain ⟨S, μ, ds, Φ, Θ, _, t, c, _⟩ := h
    rw [← t.len]
    exact len _ _ _ _ c
  obtain ⟨oc, od, kV, doc, pm, an, cdv, ct, osl, rfl, lk, hcd⟩ := F.ex
  refine ⟨hlen, fun A outer s H args us vs Q E hr hgd e0 hbind rv hsp => ?_⟩
  have hl := hlen _ _ _ _ hsp
  have KX : K.In s.heap := e0.mod.kin.keeps fun b o e => (e0.bs b o e).1
  have lim : s.heap.NoLimit := e0.mod.nolimit.keeps fun b o e => (e0.bs b o e).1
  refine codeAny_call_function hr.depth (KX _ _ lk) rfl Sc.co Sc.gen rfl (PySem.W.codeRec_of KX hcd) (hbind _ _ _ _ ?_)
  refine wpAny_newFunctionEnv_cells Sc.kind (fun y hy => ?_) fun env he s1 xx => ?_
  · rcases Sc.par y.1 (List.of_mem_zip (show (y.1, y.2) ∈ _ from hy)).1 with q | q
    · exact .inl q
    · exact .inr ⟨q, PySem.W.cellsFrom_some _ _ _ (.inl q)⟩
  · subst he
    refine ⟨lim.keeps xx.toInCall.keep, codeAny_func ?_⟩
    have I : Inv (cxOf (L2.CX P w) P w K mg base N qual (defScope st) f cdv A outer s H E) [] (start N vs) H s1 := inv_start Sc hr.hd e0 hl rv xx
    obtain ⟨S, μ, ds, Φ, Θ, r, t, c, k1, k2⟩ := hsp
    have body := ((hb cdv A outer s H E (hr.deeper _) hgd).pss (fun cls d _ H => E cls d H) (takes_of rfl rfl rfl rfl)).run [] s1 (start N vs) H { nx := fun _ H' => Q .non H', rt := Q } I
      ⟨S, μ, startR N ds, _, r, slt_start t, hp ds μ Φ Θ c, fun ρ μ' σ' S' H' q e r' _ => let ⟨μ2, hs, q2⟩ := q; k1 _ _ _ _ _ q2 .non e (r'.drop hs), fun v d μ' S' H' q a e r' => let ⟨μ2, hs, q2⟩ := q; k1 _ _ _ _ _ q2 a e (r'.drop hs), fun _ _ _ _ _ q => q.elim, fun _ _ _ _ _ q => q.elim,
        fun ρ σ' S' e _ C fs μ' S2 H' d q x e2 r2 => let ⟨μ2, hs, q2⟩ := q; k2 C fs μ2 S2 H' d q2 x (e.trans e2) (r2.drop hs)⟩
    refine wpAny_mono body (fun fl s' hs => ?_) fun e s' hs => hs
    cases fl with
    | ret u =>
      obtain ⟨v, σ', H', J, rv', q⟩ := hs
      exact ⟨v, H', J.os, J.bare, J.base, J.hok, rv', q⟩
    | next =>
      obtain ⟨σ', H', J, q⟩ := hs
      exact ⟨V.non, H', J.os, J.bare, J.base, J.hok, rfl, q⟩
    | brk => exact hs.elim fun _ z => z.elim fun _ z => z.2.elim
    | cont => exact hs.elim fun _ z => z.elim fun _ z => z.2.elim
/-- a def of the text that keeps its contract, by its name -/
def FnAtG (P : Program) (w : World) (K : PySem.W.Frag) (mg : Str → Option Value) (base : Heap) (k : Nat) (x : Str) (ps : List Str) (cn : Con) : Prop :=
  ∃ f fd, mg x = some (.ref f) ∧ PySem.W.keepIn K (.ref f) = true ∧ Binds K fd ps [] ∧ FnG P w K mg base k f fd ps (spD K cn)
end
section
variable {X : Cx} {k : Nat} {x : Str} {ps : List Str} {cn : Con} {p pos : Pos} {e : Expr} {es : List Expr} {tr : GA}
theorem se_fnG (F : FnAtG X.prog X.w X.K X.mg X.base k x ps cn) (hgd : X.A.guards = some []) (hr : Room k X.A) (hg : Gl X x) (ha : SA X (e :: es) tr) (hdb : (x == ("__debug__" : Str)) = false := by decide)
    (he : starEach (e :: es) X.env = (false, eval e X.env) :: starEach es X.env := by rfl) (hpl : (backTo pos (starEach es X.env)).any (·.1) = false := by rfl) : SE X (.Call (.Name x p) (e :: es) [] pos) (gCall cn [] tr) := by
  obtain ⟨f, fd, h1, h2, h3, F⟩ := F
  refine ⟨fun W tk => ⟨fun pins s σ H Q I h => ?_⟩⟩
  have h' := rd_call (dvs := []) (dds := []) (fun _ => .nil) h
  refine wpAny_Call_Name_kw (ld_glob I hg h1 ?_ hdb)
  refine PySem.W.callWith_K (h₀ := X.base) I.ok.mod.kin h2 (thn ((ha.pa W tk).run pos pins s σ H _ I h') fun us s1 hh => ?_) he hpl
  obtain ⟨vs, H1, I1, r, q⟩ := hh
  rw [List.append_nil] at q
  refine ⟨I1.kIn, ?_⟩
  have hl : (us ++ ([] : List Value)).length = ps.length := by rw [List.append_nil, ← r.length]; exact F.len _ _ _ _ q
  have hb := h3 s1 us I1.kIn hl
  rw [List.append_nil] at hb
  refine wpAny_call (codeAny_mono (F.run X.A X.stack s1 H1 ⟨us, []⟩ us vs Q (WE W σ) hr hgd I1.env0 hb r q) fun rr s' hq => ?_)
  cases rr with
  | error e => exact passAt tk σ pins H1 s1 e s' I1 hq
  | ok fl =>
    cases fl with
    | ret u => exact I1.after hq
    | next => exact hq.elim
    | brk => exact hq.elim
    | cont => exact hq.elim
end
end GD

/-! Gd10: the end of a law's row, for a law whose def knows that nothing is being shown (FnG) -/
namespace GD
open PySem PySem.Spec PyProof.Rows L2

section
variable {P : Program} {w : World} {K : PySem.W.Frag} {mg mb : Str → Option Value} {k : Nat} {fa a : Addr} {fd : FuncData} {x : Str} {sp : Sp} {s : Shared} {vs : List Value} {ns : List Int}
/-- what the row wants of the law's call -/
abbrev Won (s : Shared) (r : Result) (s' : Shared) : Prop := r = .ok (.ret (.bool true)) ∧ OldK s.heap s'.heap ∧ s'.os = s.os ∧ AllBare s'.gens
/-- the script's object -/
abbrev scr (vs : List Value) : Obj := { cls := .type "list", data := .seq vs.toArray }
theorem law_at (KX : K.In s.heap) (hns : s.heap.Ns mainGlobals mg) (hb : s.heap.Ns builtinsNs mb) (hbb : ∀ y : Str, y ≠ "__name__" → mb y = bootBuiltins y) (hlim : s.heap.NoLimit) (hg : s.gens = #[]) (ha : s.heap.get? a = some (scr vs)) (hr : Room k callerA)
    (F : ∀ base : Heap, K.In base → base.Ns mainGlobals mg → FnG P w K mg base k fa fd [x] sp) (hbind : ∀ (s : Shared) (u : Value), BindsTo s fd ⟨[u], []⟩ [(x, u)])
    (H : Hp) (hO : Only H) (hok : HOk P w H s.heap) (hA : ∀ b, H b ≠ none → b = a) (hK : H a ≠ none → K.lookup a = none) (hS : sp [.ref a] H (fun v _ => v = .bl true) fun _ _ _ => False) :
    codeAny (model P w) callerA (.call (.ref fa) ⟨[.ref a], []⟩) (Won s) s := by
  have free : ∀ b o, s.heap.get? b = some o → o ≠ scr vs → H b = none := fun b o e ne => by
    cases q : H b with
    | none => rfl
    | some u =>
      have z := hA b (by rw [q]; simp)
      rw [z, ha] at e
      exact absurd (Option.some.inj e).symm ne
  have nsB : ∀ {b : Addr} {m : Str → Option Value}, s.heap.Ns b m → (hidT s.heap H).Ns b m := fun {b m} q => by
    obtain ⟨o, es, ep, e, d, r⟩ := q
    refine ⟨o, es, ep, hidT_get e (free b o e fun z => ?_), d, r⟩
    rw [z] at d
    have d' : Data.seq vs.toArray _ = Data.dict es ep := d
    cases d'
  have inB : K.In (hidT s.heap H) := fun b o e => by
    refine hidT_get (KX b o e) ?_
    cases q : H b with
    | none => rfl
    | some u =>
      have z := hA b (by rw [q]; simp)
      rw [z] at q e
      rw [hK (by rw [q]; simp)] at e
      cases e
  obtain ⟨mc, lim1, lim2⟩ := hlim
  have e0 : Env0 P w K mg (hidT s.heap H) callerA [] s H := ⟨rfl, ⟨inB, nsB hns, ⟨mb, nsB hb, hbb⟩, mc, nsB lim1, lim2⟩, fun b o e => of_hidT e, Nat.le_of_eq (hidT_size _ _), trivial, fun b z => (List.not_mem_nil z).elim, hok, .of_eq hg⟩
  refine codeAny_mono ((F _ inB (nsB hns)).run callerA [] s H ⟨[.ref a], []⟩ [.ref a] [.ref a] _ _ hr rfl e0 (hbind s (.ref a)) (.cons rfl .nil) hS) fun r s' h => ?_
  cases r with
  | error e =>
    obtain ⟨_, _, _, _, _, _, _, _, _, _, _, _, z⟩ := (show L2.CX P w [] H s (fun _ _ _ => False) e s' from h)
    exact z.elim
  | ok fl =>
    cases fl with
    | next => exact h.elim
    | brk => exact h.elim
    | cont => exact h.elim
    | ret u =>
      obtain ⟨v, H', os, bare, un, hok', r', q⟩ := h
      cases (show v = .bl true from q)
      cases (show u = Value.bool true from r')
      refine ⟨rfl, OldK.of_keep fun b o e => ?_, os, bare⟩
      cases q : H b with
      | none => exact un.keep b o e q (fun z => (List.not_mem_nil (show b ∈ ([] : List Addr) from z)).elim) (fun z => (List.not_mem_nil z).elim)
      | some u =>
        rcases hO b with z | ⟨ob, xs, z⟩
        · rw [q] at z; cases z
        · obtain ⟨e1, _⟩ := hok b _ z
          obtain ⟨e2, _⟩ := hok' b _ (un.frzs b ob _ z)
          rw [e] at e1; cases e1
          exact e2
theorem law_run (KX : K.In s.heap) (hns : s.heap.Ns mainGlobals mg) (hb : s.heap.Ns builtinsNs mb) (hbb : ∀ y : Str, y ≠ "__name__" → mb y = bootBuiltins y) (hlim : s.heap.NoLimit) (hg : s.gens = #[]) (ha : s.heap.get? a = some (scr vs)) (hi : IntsAre vs ns) (hl : ns.length ≤ sizeLine) (hr : Room k callerA)
    (F : ∀ base : Heap, K.In base → base.Ns mainGlobals mg → FnG P w K mg base k fa fd [x] sp) (hbind : ∀ (s : Shared) (u : Value), BindsTo s fd ⟨[u], []⟩ [(x, u)])
    (hS : ∀ H : Hp, Only H → SqL K H a (ns.map V.int) → sp [.ref a] H (fun v _ => v = .bl true) fun _ _ _ => False) :
    codeAny (model P w) callerA (.call (.ref fa) ⟨[.ref a], []⟩) (Won s) s := by
  have rv := vals_ints hi
  have lv := hi.length
  have rest := fun (H : Hp) (hO : Only H) h1 h2 h3 h4 => law_at KX hns hb hbb hlim hg ha hr F hbind H hO h1 h2 h3 (hS H hO h4)
  cases hk : K.lookup a with
  | some o =>
    have e := KX a o hk
    rw [ha] at e
    cases e
    refine rest (fun _ => none) (fun _ => .inl rfl) (fun b u z => by cases (show (none : Option HO) = some u from z)) (fun b z => absurd rfl z) (fun z => absurd rfl z) ?_
    exact .inr ⟨_, vs.toArray, _, hk, rfl, rfl, rfl, by rw [List.size_toArray, lv]; exact hl, by simpa using rv⟩
  | none =>
    have e1 : ∀ b, b ≠ a → (if b = a then some (HO.frz (scr vs) (.lst (ns.map V.int))) else none) = none := fun b hb => if_neg hb
    have e2 : (if a = a then some (HO.frz (scr vs) (.lst (ns.map V.int))) else none) = some (HO.frz (scr vs) (.lst (ns.map V.int))) := if_pos rfl
    refine rest (fun b => if b = a then some (HO.frz (scr vs) (.lst (ns.map V.int))) else none) (fun b => ?_) (fun b u z => ?_) (fun b z => ?_) (fun _ => hk) (.inl (.inr ⟨_, e2⟩))
    · by_cases hb : b = a
      · subst hb; exact .inr ⟨_, _, e2⟩
      · exact .inl (e1 b hb)
    · by_cases hb : b = a
      · subst hb
        cases e2.symm.trans z
        exact ⟨ha, by rw [List.length_map]; exact hl, vs, _, rv, ha⟩
      · cases (e1 b hb).symm.trans z
    · by_cases hb : b = a
      · exact hb
      · exact absurd (e1 b hb) z
end
/-- the promise of the law's def: from every script it ends with True -/
def Goal (n : Nat) (cn : Con) : Prop := ∀ ns : List Int, ns.length ≤ n → (∀ z ∈ ns, Builtin.Int.intBits z ≤ 1048576) → cn [.rdl (ns.map D.int)] (fun _ => none) (fun d _ => d = .bl true) fun _ _ _ => False
theorem walkG {l : PySem.W.OpenLaw} {n k : Nat} {q : Program} {loose : List Str} {XP : (Str → Option Value) → Heap → Prop} {YP : World → Heap → Prop} {d : DefRec} {K : Params → PySem.W.Frag} {x : Str}
    (hn : l.most = some n) (hn2 : n ≤ sizeLine) (hdf : d.params.defaults = []) (hr : Room k callerA) (hY : ∀ (w : World) (h : Heap), YP w h → (K w.params).In h)
    (F : ∀ (w : World) (mg : Str → Option Value) (fa : Addr) (h : Heap), (K w.params).In h → h.Ns mainGlobals mg → mg d.name = some (.ref fa) →
      ∃ (fd : FuncData) (cn : Con), (∀ (s : Shared) (u : Value), BindsTo s fd ⟨[u], []⟩ [(x, u)]) ∧ Goal n cn ∧
        ∀ base : Heap, (K w.params).In base → base.Ns mainGlobals mg → FnG l.prog w (K w.params) mg base k fa fd [x] (spD (K w.params) cn)) :
    PySem.W.WalkO q loose XP YP l.row.toRowW d [] (fun f vs => PySem.call f vs) := by
  refine Att.attach_callB hn hdf fun w s₀ s₁ mg mb fa o pm cd doc a vs ns G Y ho hd hcd hmg hobj hints hlen hbits hg => ?_
  have KX := hY w _ Y
  obtain ⟨fd, cn, hb, hgo, hF⟩ := F w mg fa _ KX G.T.g hmg
  refine law_run KX G.T.g G.T.b G.T.builtins G.T.nolimit hg hobj hints (Nat.le_trans hlen hn2) hr hF hb fun H hO hS => ?_
  refine ⟨H, fun _ => none, [.rdl (ns.map D.int)], _, _, ⟨fun b v e => .inl e, fun b v e => nomatch e⟩, .cons (.rdl hS (atL_ints ns)) .nil, hgo ns hlen hbits, fun v dv μ' S' H' z at' _ _ => ?_, fun _ _ _ _ _ _ z => z.elim⟩
  subst z
  cases at'
  rfl
end GD

/-! Gd11: what the top has written, as facts that k_is finds; the defs of the text by their names -/
namespace GD
open PySem PySem.Spec PyProof.Rows L2

/-- where the classes of the text stand -/
abbrev Cl := String → Addr
def clOf (K : PySem.W.Frag) : Cl := fun n => match PySem.W.nsIn K mainGlobals (Str.ofString n) with
  | some (some (.ref C)) => C
  | _ => 0
theorem clOf_at {K : PySem.W.Frag} {n : String} {C : Addr} (h : PySem.W.nsIn K mainGlobals (Str.ofString n) = some (some (.ref C))) : clOf K n = C := by
  unfold clOf; rw [h]
theorem hu1_of {A : Around} {k : Nat} (hr : Room k A) : A.units + 100 < cLine := by have := hr.un; omega
/-- a def of the text -/
def DefIn (K : PySem.W.Frag) (name qual : Str) (st : Stmt) : Prop :=
  ∃ (f : Addr) (oc : Value) (od : Option Addr) (kV doc pm : Value) (an : Option Addr) (cdv ct : Value) (osl : Array (Option Value)),
    PySem.W.nsIn K mainGlobals name = some (some (.ref f)) ∧ K.lookup f = some ⟨oc, od, .func (PySem.W.fnOf name qual (L2.defArgs st) (L2.defBody st) (L2.defScope st) .none kV doc pm an cdv ct), osl⟩ ∧ PySem.W.codeIn K cdv qual = true ∧ PySem.W.keepIn K (.ref f) = true
section
variable {P : Program} {w : World} {K : PySem.W.Frag} {mg : Str → Option Value} {base h : Heap} {name qual : Str} {st : Stmt} {ps : List Str} {cn : Con} {k : Nat}
theorem fnAtD_of (D : DefIn K name qual st) (X : K.In h) (G : h.Ns mainGlobals mg)
    (hb : ∀ (kV doc pm : Value) (an : Option Addr) (cdv ct : Value) (us : List Value), us.length = ps.length → bindArgs (PySem.W.fnOf name qual (L2.defArgs st) (L2.defBody st) (L2.defScope st) .none kV doc pm an cdv ct) ⟨us, []⟩ = pure (ps.zip us))
    (ok : ∀ f fd, Fun K name qual st f fd → FnOk P w K mg base (L2.CX P w) k f fd ps (spD K cn)) : FnAt P w K mg base k name ps cn := by
  obtain ⟨f, oc, od, kV, doc, pm, an, cdv, ct, osl, a, l, c, kp⟩ := D
  have F := fun_mk l c kp
  exact ⟨f, _, PySem.W.mg_of X G a, kp, F.binds hb, ok f _ F⟩
theorem fnAtG_of (D : DefIn K name qual st) (X : K.In h) (G : h.Ns mainGlobals mg)
    (hb : ∀ (kV doc pm : Value) (an : Option Addr) (cdv ct : Value) (us : List Value), us.length = ps.length → bindArgs (PySem.W.fnOf name qual (L2.defArgs st) (L2.defBody st) (L2.defScope st) .none kV doc pm an cdv ct) ⟨us, []⟩ = pure (ps.zip us))
    (ok : ∀ f fd, Fun K name qual st f fd → FnG P w K mg base k f fd ps (spD K cn)) : FnAtG P w K mg base k name ps cn := by
  obtain ⟨f, oc, od, kV, doc, pm, an, cdv, ct, osl, a, l, c, kp⟩ := D
  have F := fun_mk l c kp
  exact ⟨f, _, PySem.W.mg_of X G a, kp, F.binds hb, ok f _ F⟩
/-- a def that shows nothing, where one is wanted that may -/
theorem FnAt.g {ps : List Str} (h : FnAt P w K mg base k name ps cn) : FnAtG P w K mg base k name ps cn := by
  obtain ⟨f, fd, a, b, c, F⟩ := h
  exact ⟨f, fd, a, b, c, F.len, fun A outer s H args us vs Q E hr _ => F.run A outer s H args us vs Q E hr⟩
end
end GD

namespace GD
open PySem PySem.Spec PySem.W PySem.Calls PyProof.Rows PySem.HandSPX
section
variable {prog : Program} {K : PySem.W.Frag} {name qual : Str} {st : Stmt}
theorem defIn_mk {f : Addr} {oc : Value} {od : Option Addr} {kV doc pm : Value} {an : Option Addr} {cdv ct : Value} {osl : Array (Option Value)} (a : PySem.W.nsIn K mainGlobals name = some (some (.ref f)))
    (l : K.lookup f = some ⟨oc, od, .func (PySem.W.fnOf name qual (L2.defArgs st) (L2.defBody st) (L2.defScope st) .none kV doc pm an cdv ct), osl⟩) (c : PySem.W.codeIn K cdv qual = true) (k : PySem.W.keepIn K (.ref f) = true) : DefIn K name qual st := ⟨f, oc, od, kV, doc, pm, an, cdv, ct, osl, a, l, c, k⟩
/-- a whole number of the text -/
def NumIn (K : PySem.W.Frag) (name : Str) (i : Int) : Prop := ∃ u, PySem.W.nsIn K mainGlobals name = some (some u) ∧ L2.RelV (.int i) u
theorem numIn_mk {i : Int} {t : Tok} (a : PySem.W.nsIn K mainGlobals name = some (some (.int i t))) : NumIn K name i := ⟨_, a, t, rfl⟩
/-- a class of the text -/
def ClsIn (K : PySem.W.Frag) (name : Str) : Prop := ∃ C, PySem.W.nsIn K mainGlobals name = some (some (.ref C))
theorem clsIn_mk {C : Addr} (a : PySem.W.nsIn K mainGlobals name = some (some (.ref C))) : ClsIn K name := ⟨C, a⟩
/-- an error class of the text -/
def ErrIn (prog : Program) (K : PySem.W.Frag) (name : Str) (fps : List (Str × Str)) : Prop := ∃ C, PySem.W.nsIn K mainGlobals name = some (some (.ref C)) ∧ ∀ mg : Str → Option Value, mg name = some (.ref C) → ErrC prog K mg name C fps
abbrev iArgs (pa : Arg) (ps : List Arg) : Arguments := { posonlyargs := [], args := pa :: ps, vararg := none, kwonlyargs := [], kw_defaults := [], kwarg := none, defaults := [] }
abbrev iScope (names : List (Str × NameKind)) : Scope := { kind := .function, names := names, isGenerator := false, isCoroutine := false, more := [] }
abbrev iBody (fps : List (Str × Str)) (txt : Str) (p0 p1 p2 p3 p4 p5 : Pos) (j : Nat) (qs : List (Pos × Pos × Pos × Pos)) : List Stmt :=
  .Expr (.Call (.Attribute (.Call (.Name "super" p0) [] [] p1) "__init__" p2) [.Constant (.str txt) j p3] [] p4) p5 :: asgs fps qs
/-- the positions of the stores -/
def qsOf : List Stmt → List (Pos × Pos × Pos × Pos)
  | .Assign [.Attribute (.Name _ a) _ b] (.Name _ c) d :: r => (a, b, c, d) :: qsOf r
  | _ => []
theorem errIn_mk (st : Stmt) {fps : List (Str × Str)} {C : Addr} {nm q : Str} {N : Addr} {bs bm : List Value} {sn : List Str} {sub : List Value} {ab : Bool} {col : Option Bool} {dd : Option Addr} {k0 k1 k2 k3 k5 : Option Value}
    {fI cc cda : Addr} {oc ccl cl kV doc pm ct : Value} {od an cdd cld : Option Addr} {osl ccs csl : Array (Option Value)} {qual file txt : Str} {tf : Tok} {vs : Array Value} {ps : List Arg} {pa : Arg} {names : List (Str × NameKind)} {p0 p1 p2 p3 p4 p5 : Pos} {j : Nat} {pl : Env → Sem Bool}
    (a : PySem.W.nsIn K mainGlobals name = some (some (.ref C))) (cls : K.lookup C = some (excClassObj nm q C N bs bm true sn sub ab col dd k0 k1 k2 k3 k5 "ValueError.__new__")) (sa : PySem.W.findIn K (.ref C) "__setattr__" = some (some (.builtin "object.__setattr__")))
    (exC : PySem.W.subIn K (.ref C) (.type "BaseException") = some true) (vE : PySem.W.subIn K (.ref C) (.type "ValueError") = some true) (tyC : PySem.W.typeIn K (.ref C) = some (.type "type")) (kC : PySem.W.keepIn K (.ref C) = true) (no : ∀ p ∈ fps, PySem.W.findIn K (.ref C) p.1 = some none)
    (i1 : PySem.W.findIn K (.ref C) "__init__" = some (some (.ref fI))) (i2 : PySem.W.typeIn K (.ref fI) = some (.type "function"))
    (e1 : L2.defArgs st = iArgs pa ps) (e2 : L2.defBody st = iBody fps txt p0 p1 p2 p3 p4 p5 j (qsOf (L2.defBody st).tail)) (e3 : L2.defScope st = iScope names)
    (i3 : K.lookup fI = some ⟨oc, od, .func (fnX "__init__" qual (L2.defArgs st) (L2.defBody st) (L2.defScope st) [("__class__", cc)] .none kV doc pm an (.ref cda) ct), osl⟩)
    (i4 : PySem.W.codeIn K (.ref cda) qual = true) (i5 : K.lookup cda = some ⟨ccl, cdd, .fields vs, ccs⟩) (i6 : vs[2]? = some (.str file tf)) (i7 : ((prog.main.file : Str) == file) = true) (i8 : K.lookup cc = some ⟨cl, cld, .cell (some (.ref C)), csl⟩)
    (i9 : PySem.W.ks_superIn K C C "__init__" = some (some (.builtin "ValueError.__init__"))) (i10 : PySem.W.nsIn K mainGlobals "super" = some none) (i11 : PySem.W.nsIn K cStatics "thirdparty.any" = some none)
    (i12 : (prog.main.scope.names.lookup ("super" : Str)).isSome = false) (rb : refsVE bm = true) (nd : (fps.map (·.1)).Nodup) (i13 : pa.arg = "self") (i14 : ps.map (·.arg) = fps.map (·.2)) (i15 : (("self" : Str) :: fps.map (·.2)).Nodup) (i16 : (qsOf (L2.defBody st).tail).length = fps.length)
    (i17 : names.lookup ("super" : Str) = some .globalImplicit) (i18 : names.lookup ("__class__" : Str) = some .free) (i19 : names.lookup ("self" : Str) = some .local) (i20 : ∀ p ∈ fps, names.lookup p.2 = some .local) (i21 : ∀ x ∈ names, x.2 ≠ .cell)
    (i22 : ∀ us : List Value, us.length = 1 + fps.length → bindArgs (fnX "__init__" qual (L2.defArgs st) (L2.defBody st) (L2.defScope st) [("__class__", cc)] .none kV doc pm an (.ref cda) ct) ⟨us, []⟩ = pure ((("self" : Str) :: fps.map (·.2)).zip us))
    (i23 : ∀ p ∈ fps, (p.2 == ("__debug__" : Str)) = false)
    (i24 : ∀ env, eval (.Call (.Attribute (.Call (.Name "super" p0) [] [] p1) "__init__" p2) [.Constant (.str txt) j p3] [] p4) env = (do
      let ov ← attributeBase (.Call (.Name "super" p0) [] [] p1) "__init__" env (eval (.Call (.Name "super" p0) [] [] p1) env)
      standAt p2.atName
      let (f, first) ← holding [ov] (getMethod ov "__init__" (pl env))
      callWith p4 f first (backTo p4 (starEach [.Constant (.str txt) j p3] env)) [])) : ErrIn prog K name fps :=
by
  have i3' := i3
  have i22' := i22
  rw [e1, e2, e3] at i3' i22'
  exact ⟨C, a, fun mg h => ⟨h, ⟨nm, q, N, bs, bm, sn, sub, ab, col, dd, k0, k1, k2, k3, k5, cls, rb⟩, sa, exC, vE, tyC, kC, no, nd,
    fI, cc, cda, oc, ccl, cl, kV, doc, pm, ct, od, an, cdd, cld, osl, ccs, csl, qual, file, txt, tf, vs, ps, pa, names, p0, p1, p2, p3, p4, p5, j, _, i1, i2, i3', i4, i5, i6, i7, i8, i9, i10, i11, i12, i13, i14, i15, i16, i17, i18, i19, i20, i21, i22', i23, pl, i24⟩⟩
end
end GD

/-! Nt: primes, plain -/
namespace Nt
def PrimeN (p : Nat) : Prop := 2 ≤ p ∧ ∀ d, d ∣ p → d = 1 ∨ d = p
/-- the primes of n, each once, ascending -/
def IsPF (n : Nat) (ps : List Nat) : Prop := ps.Pairwise (· < ·) ∧ ∀ p, p ∈ ps ↔ PrimeN p ∧ p ∣ n
theorem pw_eq : ∀ {a b : List Nat}, a.Pairwise (· < ·) → b.Pairwise (· < ·) → (∀ x, x ∈ a ↔ x ∈ b) → a = b
  | [], [], _, _, _ => rfl
  | [], y :: b, _, _, h => absurd ((h y).mpr List.mem_cons_self) (by simp)
  | x :: a, [], _, _, h => absurd ((h x).mp List.mem_cons_self) (by simp)
  | x :: a, y :: b, ha, hb, h => by
    obtain ⟨ha1, ha2⟩ := List.pairwise_cons.mp ha
    obtain ⟨hb1, hb2⟩ := List.pairwise_cons.mp hb
    have e : x = y := by
      have h1 := (h x).mp List.mem_cons_self
      have h2 := (h y).mpr List.mem_cons_self
      rcases List.mem_cons.mp h1 with q1 | q1
      · exact q1
      · rcases List.mem_cons.mp h2 with q2 | q2
        · exact q2.symm
        · have := hb1 x q1; have := ha1 y q2; omega
    subst e
    have : a = b := pw_eq ha2 hb2 fun z => by
      constructor
      · intro hz
        rcases List.mem_cons.mp ((h z).mp (List.mem_cons_of_mem _ hz)) with q | q
        · have := ha1 z hz; omega
        · exact q
      · intro hz
        rcases List.mem_cons.mp ((h z).mpr (List.mem_cons_of_mem _ hz)) with q | q
        · have := hb1 z hz; omega
        · exact q
    rw [this]
theorem IsPF.uniq {n : Nat} {a b : List Nat} (ha : IsPF n a) (hb : IsPF n b) : a = b := pw_eq ha.1 hb.1 fun x => (ha.2 x).trans (hb.2 x).symm
theorem prime_least {n d : Nat} (hd : 2 ≤ d) (h : d ∣ n) (hl : ∀ e, 2 ≤ e → e < d → ¬ e ∣ n) : PrimeN d := by
  refine ⟨hd, fun e he => ?_⟩
  have hle := Nat.le_of_dvd (by omega) he
  have h0 : e ≠ 0 := fun z => by subst z; have := Nat.eq_zero_of_zero_dvd he; omega
  by_cases h1 : e = 1
  · exact .inl h1
  · by_cases h2 : e < d
    · exact absurd (Nat.dvd_trans he h) (hl e (by omega) h2)
    · exact .inr (by omega)
theorem least_div : ∀ (k n : Nat), 2 ≤ n → n ≤ k → ∃ d, 2 ≤ d ∧ d ∣ n ∧ ∀ e, 2 ≤ e → e < d → ¬ e ∣ n := by
  have key : ∀ (m d n : Nat), n - d = m → 2 ≤ d → d ≤ n → (∀ e, 2 ≤ e → e < d → ¬ e ∣ n) → ∃ d', 2 ≤ d' ∧ d' ∣ n ∧ ∀ e, 2 ≤ e → e < d' → ¬ e ∣ n := by
    intro m
    induction m with
    | zero =>
      intro d n h1 h2 h3 h4
      have : d = n := by omega
      subst this
      exact ⟨d, h2, Nat.dvd_refl _, h4⟩
    | succ m ih =>
      intro d n h1 h2 h3 h4
      by_cases hd : d ∣ n
      · exact ⟨d, h2, hd, h4⟩
      · refine ih (d + 1) n (by omega) (by omega) (by omega) fun e h5 h6 => ?_
        by_cases he : e = d
        · subst he; exact hd
        · exact h4 e h5 (by omega)
  intro k n h1 _
  exact key (n - 2) 2 n rfl (Nat.le_refl _) h1 fun e h2 h3 => by omega
theorem exists_prime {n : Nat} (h : 2 ≤ n) : ∃ p, PrimeN p ∧ p ∣ n := by
  obtain ⟨d, h1, h2, h3⟩ := least_div n n h (Nat.le_refl _)
  exact ⟨d, prime_least h1 h2 h3, h2⟩
theorem euclid {p a b : Nat} (hp : PrimeN p) (h : p ∣ a * b) : p ∣ a ∨ p ∣ b := by
  rcases hp.2 (Nat.gcd p a) (Nat.gcd_dvd_left _ _) with g | g
  · exact .inr (Nat.Coprime.dvd_of_dvd_mul_left g h)
  · exact .inl (g ▸ Nat.gcd_dvd_right p a)
theorem prime_dvd_prime {p q : Nat} (hp : PrimeN p) (hq : PrimeN q) (h : p ∣ q) : p = q := by
  rcases hq.2 p h with e | e
  · have := hp.1; omega
  · exact e
theorem prime_pow {p a : Nat} (hp : PrimeN p) : ∀ {k : Nat}, p ∣ a ^ k → p ∣ a
  | 0, h => by
    have := Nat.eq_one_of_dvd_one (by simpa using h)
    have := hp.1; omega
  | k + 1, h => by
    rw [Nat.pow_succ] at h
    rcases euclid hp h with q | q
    · exact prime_pow hp q
    · exact q
/-- by trial, up to a bound b with n < b * b -/
def noDiv (n b : Nat) : Bool := (List.range b).all fun d => decide (d < 2) || n % d != 0
theorem prime_of_trial {n b : Nat} (h2 : 2 ≤ n) (hb : n < b * b) (h : noDiv n b = true) : PrimeN n := by
  obtain ⟨d, h3, h4, h5⟩ := least_div n n h2 (Nat.le_refl _)
  have hd := prime_least h3 h4 h5
  by_cases e : d = n
  · exact e ▸ hd
  · exfalso
    obtain ⟨c, hc⟩ := h4
    have hc2 : 2 ≤ c := by
      rcases Nat.lt_or_ge c 2 with q | q
      · have : c = 0 ∨ c = 1 := by omega
        rcases this with rfl | rfl
        · simp at hc; omega
        · simp at hc; omega
      · exact q
    have hcd : d ≤ c := by
      rcases Nat.lt_or_ge c d with q | q
      · exact absurd ⟨d, by rw [hc, Nat.mul_comm]⟩ (h5 c hc2 q)
      · exact q
    have hdb : d < b := by
      rcases Nat.lt_or_ge d b with q | q
      · exact q
      · have : b * b ≤ d * c := Nat.mul_le_mul q (Nat.le_trans q hcd)
        omega
    unfold noDiv at h
    rw [List.all_eq_true] at h
    have q := h d (List.mem_range.mpr hdb)
    have q2 : n % d = 0 := by rw [hc]; exact Nat.mul_mod_right d c
    simp [q2] at q
    omega
theorem p999983 : PrimeN 999983 := prime_of_trial (b := 1001) (by decide) (by decide) (by decide +kernel)
theorem p999979 : PrimeN 999979 := prime_of_trial (b := 1001) (by decide) (by decide) (by decide +kernel)
theorem p65537 : PrimeN 65537 := prime_of_trial (b := 258) (by decide) (by decide) (by decide +kernel)
theorem small_prime {n : Nat} (h2 : 2 ≤ n) (hb : n < 20 * 20) (h : noDiv n 20 = true) : PrimeN n := prime_of_trial h2 hb h

/-! ### the trial of factors -/
/-- the outer loop's state -/
structure Fs (N : Nat) (found : List Nat) (d m : Nat) : Prop where
  m1 : 1 ≤ m
  d2 : 2 ≤ d
  dv : m ∣ N
  no : ∀ e, 2 ≤ e → e < d → ¬ e ∣ m
  pw : found.Pairwise (· < ·)
  fd : ∀ p ∈ found, PrimeN p ∧ p ∣ N ∧ p < d
  al : ∀ p, PrimeN p → p ∣ N → p ∈ found ∨ p ∣ m
  od : d = 2 ∨ d % 2 = 1
theorem Fs.start {N : Nat} (h : 1 ≤ N) : Fs N [] 2 N := ⟨h, Nat.le_refl _, Nat.dvd_refl _, fun e h1 h2 => by omega, List.Pairwise.nil, fun p hp => by simp at hp, fun p _ hp => .inr hp, .inl rfl⟩
/-- what the step of the divisor is -/
def nextD (d : Nat) : Nat := if d = 2 then 3 else d + 2
theorem no_next {d m : Nat} (d2 : 2 ≤ d) (od : d = 2 ∨ d % 2 = 1) (no : ∀ e, 2 ≤ e → e < d → ¬ e ∣ m) (h : ¬ d ∣ m) : ∀ e, 2 ≤ e → e < nextD d → ¬ e ∣ m := fun e h1 h2 => by
  by_cases he : e < d
  · exact no e h1 he
  · by_cases he2 : e = d
    · subst he2; exact h
    · unfold nextD at h2
      split at h2
      · omega
      · rename_i hne
        have od : d % 2 = 1 := by rcases od with q | q; exact absurd q hne; exact q
        have ee : e = d + 1 := by omega
        intro hdv
        have h2e : 2 ∣ e := ⟨(d + 1) / 2, by omega⟩
        exact no 2 (Nat.le_refl _) (by omega) (Nat.dvd_trans h2e hdv)
theorem nextD_lt (d : Nat) : d < nextD d := by unfold nextD; split <;> omega
theorem nextD_od {d : Nat} (od : d = 2 ∨ d % 2 = 1) : nextD d = 2 ∨ nextD d % 2 = 1 := by
  unfold nextD
  split
  · exact .inr (by decide)
  · rename_i hne
    rcases od with q | q
    · exact absurd q hne
    · exact .inr (by omega)
theorem Fs.over {N : Nat} {found : List Nat} {d m : Nat} (s : Fs N found d m) (h : ¬ d ∣ m) : Fs N found (nextD d) m :=
  ⟨s.m1, by have := s.d2; have := nextD_lt d; omega, s.dv, no_next s.d2 s.od s.no h, s.pw, fun p hp => ⟨(s.fd p hp).1, (s.fd p hp).2.1, by have := (s.fd p hp).2.2; have := nextD_lt d; omega⟩, s.al, nextD_od s.od⟩
/-- inside: d is found, m' is what is left -/
structure Gs (N : Nat) (found : List Nat) (d m m' : Nat) : Prop where
  m1 : 1 ≤ m'
  dv : m' ∣ m
  al : ∀ p, PrimeN p → p ∣ m → p = d ∨ p ∣ m'
theorem Gs.start {N : Nat} {found : List Nat} {d m : Nat} (s : Fs N found d m) : Gs N found d m m := ⟨s.m1, Nat.dvd_refl _, fun p _ h => .inr h⟩
theorem Gs.step {N : Nat} {found : List Nat} {d m m' : Nat} (s : Fs N found d m) (g : Gs N found d m m') (hd : d ∣ m') : Gs N found d m (m' / d) ∧ m' / d < m' := by
  have d2 := s.d2
  have m1 := g.m1
  obtain ⟨c, hc⟩ := id hd
  have e : m' / d = c := by rw [hc]; exact Nat.mul_div_cancel_left c (by omega)
  have c1 : 1 ≤ c := by
    rcases Nat.eq_zero_or_pos c with z | z
    · subst z; simp at hc; omega
    · exact z
  have dp : PrimeN d := prime_least d2 (Nat.dvd_trans hd g.dv) s.no
  rw [e]
  refine ⟨⟨c1, Nat.dvd_trans ⟨d, by rw [hc, Nat.mul_comm]⟩ g.dv, fun p hp h => ?_⟩, ?_⟩
  · rcases g.al p hp h with q | q
    · exact .inl q
    · rw [hc] at q
      rcases euclid hp q with z | z
      · exact .inl (prime_dvd_prime hp dp z)
      · exact .inr z
  · rw [hc]
    have : c * 2 ≤ c * d := Nat.mul_le_mul_left c d2
    rw [Nat.mul_comm d c]; omega
theorem Fs.take {N : Nat} {found : List Nat} {d m m' : Nat} (s : Fs N found d m) (hd : d ∣ m) (g : Gs N found d m m') (h : ¬ d ∣ m') : Fs N (found ++ [d]) (nextD d) m' := by
  have dp : PrimeN d := prime_least s.d2 hd s.no
  have lt := nextD_lt d
  refine ⟨g.m1, by have := s.d2; omega, Nat.dvd_trans g.dv s.dv, no_next s.d2 s.od (fun e h1 h2 h3 => s.no e h1 h2 (Nat.dvd_trans h3 g.dv)) h, ?_, fun p hp => ?_, fun p hp hpN => ?_, nextD_od s.od⟩
  · rw [List.pairwise_append]
    exact ⟨s.pw, List.pairwise_singleton _ _, fun a ha b hb => by rw [List.mem_singleton.mp hb]; exact (s.fd a ha).2.2⟩
  · rcases List.mem_append.mp hp with q | q
    · exact ⟨(s.fd p q).1, (s.fd p q).2.1, by have := (s.fd p q).2.2; omega⟩
    · rw [List.mem_singleton.mp q]; exact ⟨dp, Nat.dvd_trans hd s.dv, lt⟩
  · rcases s.al p hp hpN with q | q
    · exact .inl (List.mem_append_left _ q)
    · rcases g.al p hp q with z | z
      · exact .inl (List.mem_append_right _ (by rw [z]; exact List.mem_singleton.mpr rfl))
      · exact .inr z
/-- what is left is 1 or a prime -/
theorem Fs.last {N : Nat} {found : List Nat} {d m : Nat} (s : Fs N found d m) (h : m < d * d) : IsPF N (if 1 < m then found ++ [m] else found) := by
  by_cases h1 : 1 < m
  · rw [if_pos h1]
    have mp : PrimeN m := by
      obtain ⟨e, e1, e2, e3⟩ := least_div m m h1 (Nat.le_refl _)
      by_cases hem : e = m
      · rw [← hem]; exact prime_least e1 (hem ▸ e2) (fun z a b c => e3 z a b (hem ▸ c))
      · exfalso
        obtain ⟨c, hc⟩ := e2
        have m1 := s.m1
        have c2 : 2 ≤ c := by
          rcases Nat.lt_or_ge c 2 with q | q
          · have : c = 0 ∨ c = 1 := by omega
            rcases this with rfl | rfl
            · simp at hc; omega
            · simp at hc; omega
          · exact q
        have a1 : d ≤ e := by
          rcases Nat.lt_or_ge e d with q | q
          · exact absurd ⟨c, hc⟩ (s.no e e1 q)
          · exact q
        have a2 : d ≤ c := by
          rcases Nat.lt_or_ge c d with q | q
          · exact absurd ⟨e, by rw [hc, Nat.mul_comm]⟩ (s.no c c2 q)
          · exact q
        have := Nat.mul_le_mul a1 a2
        omega
    have dm : d ≤ m := by
      rcases Nat.lt_or_ge m d with q | q
      · exact absurd (Nat.dvd_refl m) (s.no m h1 q)
      · exact q
    refine ⟨?_, fun p => ⟨fun hp => ?_, fun ⟨hp, hpN⟩ => ?_⟩⟩
    · rw [List.pairwise_append]
      exact ⟨s.pw, List.pairwise_singleton _ _, fun a ha b hb => by rw [List.mem_singleton.mp hb]; have := (s.fd a ha).2.2; omega⟩
    · rcases List.mem_append.mp hp with q | q
      · exact ⟨(s.fd p q).1, (s.fd p q).2.1⟩
      · rw [List.mem_singleton.mp q]; exact ⟨mp, s.dv⟩
    · rcases s.al p hp hpN with q | q
      · exact List.mem_append_left _ q
      · exact List.mem_append_right _ (List.mem_singleton.mpr (prime_dvd_prime hp mp q))
  · rw [if_neg h1]
    have e : m = 1 := by have := s.m1; omega
    subst e
    refine ⟨s.pw, fun p => ⟨fun hp => ⟨(s.fd p hp).1, (s.fd p hp).2.1⟩, fun ⟨hp, hpN⟩ => ?_⟩⟩
    rcases s.al p hp hpN with q | q
    · exact q
    · have := Nat.eq_one_of_dvd_one q
      have := hp.1; omega
theorem Fs.len {N : Nat} {found : List Nat} {d m : Nat} (s : Fs N found d m) : found.length ≤ d := by
  have key : ∀ (l : List Nat) (lo : Nat), l.Pairwise (· < ·) → (∀ x ∈ l, lo ≤ x ∧ x < d) → l.length ≤ d - lo := by
    intro l
    induction l with
    | nil => intro lo _ _; simp
    | cons a l ih =>
      intro lo hp hm
      obtain ⟨h1, h2⟩ := List.pairwise_cons.mp hp
      have ha := hm a List.mem_cons_self
      have := ih (a + 1) h2 fun x hx => ⟨h1 x hx, (hm x (List.mem_cons_of_mem _ hx)).2⟩
      simp only [List.length_cons]
      omega
  have := key found 0 s.pw fun x hx => ⟨Nat.zero_le _, (s.fd x hx).2.2⟩
  omega

/-! ### the primes of n, found among 2 .. n -/
/-- those below k -/
def Upto (n k : Nat) (ps : List Nat) : Prop := ps.Pairwise (· < ·) ∧ ∀ p, p ∈ ps ↔ PrimeN p ∧ p ∣ n ∧ p < k
theorem Upto.start (n : Nat) : Upto n 2 [] := ⟨.nil, fun p => ⟨fun h => by simp at h, fun ⟨a, _, c⟩ => by have := a.1; omega⟩⟩
theorem Upto.last {n k : Nat} {ps : List Nat} (u : Upto n k ps) (h : n < k) (hn : 1 ≤ n) : IsPF n ps := ⟨u.1, fun p => (u.2 p).trans ⟨fun ⟨a, b, _⟩ => ⟨a, b⟩, fun ⟨a, b⟩ => ⟨a, b, by have := Nat.le_of_dvd hn b; omega⟩⟩⟩
theorem Upto.step {n k : Nat} {ps : List Nat} (u : Upto n k ps) (hk : 2 ≤ k) (hn : 1 ≤ n) : Upto n (k + 1) (if k ∣ n ∧ ∀ p ∈ ps, ¬ p ∣ k then ps ++ [k] else ps) := by
  have pk : k ∣ n → (∀ p ∈ ps, ¬ p ∣ k) → PrimeN k := fun h1 h2 => by
    obtain ⟨p, hp, hpk⟩ := exists_prime hk
    by_cases e : p = k
    · exact e ▸ hp
    · have lt : p < k := by have := Nat.le_of_dvd (by omega) hpk; omega
      exact absurd hpk (h2 p ((u.2 p).mpr ⟨hp, Nat.dvd_trans hpk h1, lt⟩))
  split
  · rename_i h
    have hp := pk h.1 h.2
    refine ⟨?_, fun p => ?_⟩
    · rw [List.pairwise_append]
      exact ⟨u.1, List.pairwise_singleton _ _, fun a ha b hb => by rw [List.mem_singleton.mp hb]; exact ((u.2 a).mp ha).2.2⟩
    · rw [List.mem_append, u.2, List.mem_singleton]
      constructor
      · rintro (⟨a, b, c⟩ | rfl)
        · exact ⟨a, b, by omega⟩
        · exact ⟨hp, h.1, by omega⟩
      · rintro ⟨a, b, c⟩
        by_cases e : p = k
        · exact .inr e
        · exact .inl ⟨a, b, by omega⟩
  · rename_i h
    refine ⟨u.1, fun p => (u.2 p).trans ⟨fun ⟨a, b, c⟩ => ⟨a, b, by omega⟩, fun ⟨a, b, c⟩ => ⟨a, b, ?_⟩⟩⟩
    by_cases e : p = k
    · subst e
      refine absurd ⟨b, fun q hq hqp => ?_⟩ h
      obtain ⟨h1, h2, h3⟩ := (u.2 q).mp hq
      have := prime_dvd_prime h1 a hqp
      omega
    · omega

/-! ### the extended division -/
/-- x * y = .. with signs: the two rows of the coefficients of a and b -/
structure Eu (a b r0 r1 s0 s1 t0 t1 : Int) : Prop where
  r0n : 0 ≤ r0
  r1n : 0 ≤ r1
  e0 : r0 = s0 * a + t0 * b
  e1 : r1 = s1 * a + t1 * b
  ss : s0 * s1 ≤ 0
  tt : t0 * t1 ≤ 0
  sb : s1.natAbs * r0.natAbs + s0.natAbs * r1.natAbs = b.natAbs
  tb : t1.natAbs * r0.natAbs + t0.natAbs * r1.natAbs = a.natAbs
  gc : Int.gcd r0 r1 = Int.gcd a b
theorem Eu.start {a b : Int} (ha : 0 ≤ a) (hb : 0 ≤ b) : Eu a b a b 1 0 0 1 := ⟨ha, hb, by omega, by omega, by decide, by decide, by simp, by simp, rfl⟩
theorem abs_alt {s0 s1 q : Int} (hq : 0 ≤ q) (h : s0 * s1 ≤ 0) : (s0 - q * s1).natAbs = s0.natAbs + q.natAbs * s1.natAbs := by
  have e : (q * s1).natAbs = q.natAbs * s1.natAbs := Int.natAbs_mul q s1
  rw [← e]
  rcases Int.le_total 0 s0 with h0 | h0
  · by_cases z : s0 = 0
    · subst z; omega
    · have : s1 ≤ 0 := by
        rcases Int.le_total s1 0 with q1 | q1
        · exact q1
        · by_cases z2 : s1 = 0
          · omega
          · have := Int.mul_pos (show 0 < s0 by omega) (show 0 < s1 by omega); omega
      have h3 : q * s1 ≤ 0 := Int.mul_nonpos_of_nonneg_of_nonpos hq this
      omega
  · by_cases z : s0 = 0
    · subst z; omega
    · have : 0 ≤ s1 := by
        rcases Int.le_total s1 0 with q1 | q1
        · by_cases z2 : s1 = 0
          · omega
          · have := Int.mul_pos_of_neg_of_neg (show s0 < 0 by omega) (show s1 < 0 by omega); omega
        · exact q1
      have h3 : 0 ≤ q * s1 := Int.mul_nonneg hq this
      omega
theorem alt_sign {s0 s1 q : Int} (hq : 0 ≤ q) (h : s0 * s1 ≤ 0) : s1 * (s0 - q * s1) ≤ 0 := by
  rw [Int.mul_sub]
  have h1 : s1 * s0 ≤ 0 := by rw [Int.mul_comm]; exact h
  have h2 : 0 ≤ s1 * (q * s1) := by
    have : s1 * (q * s1) = q * (s1 * s1) := by rw [← Int.mul_assoc, Int.mul_comm s1 q, Int.mul_assoc]
    rw [this]
    refine Int.mul_nonneg hq ?_
    rcases Int.le_total 0 s1 with z | z
    · exact Int.mul_nonneg z z
    · exact Int.mul_nonneg_of_nonpos_of_nonpos z z
  omega
theorem Eu.step {a b r0 r1 s0 s1 t0 t1 : Int} (e : Eu a b r0 r1 s0 s1 t0 t1) (h : r1 ≠ 0) :
    Eu a b r1 (r0 - r0 / r1 * r1) s1 (s0 - r0 / r1 * s1) t1 (t0 - r0 / r1 * t1) ∧ (r0 - r0 / r1 * r1).toNat < r1.toNat := by
  have h0 := e.r0n
  have h1 := e.r1n
  have hpos : 0 < r1 := by omega
  have hq : 0 ≤ r0 / r1 := Int.ediv_nonneg h0 h1
  have em : r0 - r0 / r1 * r1 = r0 % r1 := by
    have := Int.mul_ediv_add_emod r0 r1
    rw [Int.mul_comm] at this; omega
  have m1 := Int.emod_nonneg r0 h
  have m2 := Int.emod_lt_of_pos r0 hpos
  have nn : r0.natAbs = (r0 / r1).natAbs * r1.natAbs + (r0 % r1).natAbs := by
    have k := Int.mul_ediv_add_emod r0 r1
    have k2 : (r1 * (r0 / r1)).natAbs = r1.natAbs * (r0 / r1).natAbs := Int.natAbs_mul _ _
    have k3 : 0 ≤ r1 * (r0 / r1) := Int.mul_nonneg h1 hq
    rw [Nat.mul_comm, ← k2]
    omega
  have mm : (r0 % r1).natAbs = r0.natAbs % r1.natAbs := by
    have k : ((r0.natAbs : Int) % (r1.natAbs : Int)) = r0 % r1 := by
      rw [Int.natAbs_of_nonneg h0, Int.natAbs_of_nonneg h1]
    have k2 : ((r0.natAbs % r1.natAbs : Nat) : Int) = r0 % r1 := by rw [← k]; exact Int.natCast_emod _ _
    omega
  refine ⟨⟨h1, by rw [em]; exact m1, e.e1, ?_, alt_sign hq e.ss, alt_sign hq e.tt, ?_, ?_, ?_⟩, by rw [em]; omega⟩
  · have x0 := e.e0
    have x1 := e.e1
    generalize r0 / r1 = q
    have x2 : q * r1 = q * (s1 * a) + q * (t1 * b) := by
      have := congrArg (q * ·) x1
      simp only [Int.mul_add] at this
      exact this
    rw [Int.sub_mul, Int.sub_mul, Int.mul_assoc, Int.mul_assoc]
    omega
  · rw [abs_alt hq e.ss, em]
    have x := e.sb
    rw [nn] at x
    generalize (r0 / r1).natAbs = Q at x ⊢
    rw [Nat.mul_add] at x
    rw [Nat.add_mul]
    have y : Q * s1.natAbs * r1.natAbs = s1.natAbs * (Q * r1.natAbs) := by rw [Nat.mul_comm Q, Nat.mul_assoc]
    omega
  · rw [abs_alt hq e.tt, em]
    have x := e.tb
    rw [nn] at x
    generalize (r0 / r1).natAbs = Q at x ⊢
    rw [Nat.mul_add] at x
    rw [Nat.add_mul]
    have y : Q * t1.natAbs * r1.natAbs = t1.natAbs * (Q * r1.natAbs) := by rw [Nat.mul_comm Q, Nat.mul_assoc]
    omega
  · rw [em]
    have g := e.gc
    unfold Int.gcd at g ⊢
    rw [mm, Nat.gcd_comm, ← Nat.gcd_rec, Nat.gcd_comm]
    exact g
/-- the sizes of the coefficients -/
theorem Eu.small {a b r0 r1 s0 s1 t0 t1 : Int} (e : Eu a b r0 r1 s0 s1 t0 t1) (h : r1 ≠ 0) : s0.natAbs ≤ b.natAbs ∧ t0.natAbs ≤ a.natAbs := by
  have p1 : 1 ≤ r1.natAbs := by omega
  have x := e.sb
  have y := e.tb
  have a1 := Nat.mul_le_mul_left s0.natAbs p1
  have a2 := Nat.mul_le_mul_left t0.natAbs p1
  omega
theorem Eu.small1 {a b r0 r1 s0 s1 t0 t1 : Int} (e : Eu a b r0 r1 s0 s1 t0 t1) (h : r0 ≠ 0) : s1.natAbs ≤ b.natAbs ∧ t1.natAbs ≤ a.natAbs := by
  have p1 : 1 ≤ r0.natAbs := by omega
  have x := e.sb
  have y := e.tb
  have a1 := Nat.mul_le_mul_left s1.natAbs p1
  have a2 := Nat.mul_le_mul_left t1.natAbs p1
  omega
end Nt

/-! Lm: small laws of the readings -/
namespace GD
open PySem PySem.Spec PyProof.Rows
open L2 (CMulW CDivW CPow Key atI ixN)
theorem isQ_of_L {μ : Mu} {o : D} {l : List D} (h : IsL μ o l) : IsQ μ o l := by
  cases o <;> first | exact h | cases h
theorem isR_of_L {μ : Mu} {o : D} {l : List D} (h : IsL μ o l) : IsR μ o l := by
  cases o <;> first | exact h | cases h
section
variable {μ : Mu} {Φ : Kd} {d v : D} {l : List D} {i j : Int}
theorem tru_non {k : Bool → Prop} : TruD .non μ k = k false := rfl
theorem tru_bl {b : Bool} {k : Bool → Prop} : TruD (.bl b) μ k = k b := rfl
theorem tru_int {k : Bool → Prop} : TruD (.int i) μ k = k (i != 0) := rfl
theorem tru_tup {k : Bool → Prop} : TruD (.tup l) μ k = k (!l.isEmpty) := rfl
theorem tru_lst {k : Bool → Prop} : TruD (.lst l) μ k = k (!l.isEmpty) := rfl
theorem add_int : addD (.int i) (.int j) μ Φ = Φ (.int (i + j)) μ := rfl
theorem add_tup {m : List D} : addD (.tup l) (.tup m) μ Φ = (l.length + m.length ≤ LIM ∧ Φ (.tup (l ++ m)) μ) := rfl
theorem add_lst {o o' : D} {m : List D} (h : IsL μ o l) (h' : IsL μ o' m) (hl : l.length + m.length ≤ LIM) (n : NewL (l ++ m) μ Φ) : addD o o' μ Φ := by
  cases o with
  | ptr p => exact ⟨l, m, h, h', hl, n⟩
  | lst l0 => exact ⟨l, m, h, h', hl, n⟩
  | _ => cases h
theorem tup_q {o : D} (h : IsQ μ o l) (q : Φ (.tup l) μ) : tupleD [o] μ Φ := ⟨l, h, q⟩
theorem list_q {o : D} (h : IsQ μ o l) (q : NewL l μ Φ) : listD [o] μ Φ := ⟨l, h, q⟩
theorem len_q {o : D} (h : IsQ μ o l) (q : Φ (.int l.length) μ) : lenD [o] μ Φ := by
  cases o with
  | str s => cases h
  | _ => exact ⟨l, h, q⟩
theorem ix_tup (h : atI l i = some d) (q : Φ d μ) : ixU (.tup l) (.int i) μ Φ := .inl ⟨l, d, rfl, h, q⟩
theorem ix_q {o : D} (ho : IsQ μ o l) (h : atI l i = some d) (q : Φ d μ) : ixU o (.int i) μ Φ := by
  refine .inl ?_
  cases o with
  | str s => cases ho
  | _ => exact ⟨l, d, ho, h, q⟩
theorem ix_key {p : Addr} {kvs : List (Key × D)} {s : Str} (hp : μ p = some (.dic kvs)) (h : dval kvs (.inr s) = some d) (q : Φ d μ) : ixU (.ptr p) (.str s) μ Φ := .inr ⟨kvs, .inr s, d, hp, rfl, h, q⟩
theorem set_key {p : Addr} {kvs : List (Key × D)} {s : Str} {Ψ : Mu → Prop} (hp : μ p = some (.dic kvs)) (hl : kvs.length < LIM) (q : Ψ (updM μ p (.dic (dput kvs (.inr s) v)))) : setD (.ptr p) (.str s) v μ Ψ := .inr ⟨kvs, .inr s, hp, rfl, hl, q⟩
theorem sh_int : SeqAt.shaped (.int i) = true := by
  unfold SeqAt.shaped
  simp [PyData.canLay0, PyData.depth]
theorem eq_int (q : Φ (.bl (decide (i = j))) μ) : eqD (.int i) (.int j) μ Φ := by
  refine ⟨sh_int, sh_int, ?_⟩
  have e : PyData.eqv (.int i) (.int j) = decide (i = j) := by
    rw [PyData.eqv]
    by_cases h : i = j
    · subst h; simp
    · simp [h]
  show Φ (.bl (PyData.eqv (.int i) (.int j))) μ
  rw [e]; exact q
theorem ne_int (q : Φ (.bl (!decide (i = j))) μ) : neD (.int i) (.int j) μ Φ := by
  refine ⟨sh_int, sh_int, ?_⟩
  have e : PyData.eqv (.int i) (.int j) = decide (i = j) := by
    rw [PyData.eqv]
    by_cases h : i = j
    · subst h; simp
    · simp [h]
  show Φ (.bl (!PyData.eqv (.int i) (.int j))) μ
  rw [e]; exact q
theorem ne_bl {a b : Bool} (q : Φ (.bl (a != b)) μ) : neD (.bl a) (.bl b) μ Φ := by
  refine ⟨by cases a <;> rfl, by cases b <;> rfl, ?_⟩
  have e : (!PyData.eqv (.bool a) (.bool b)) = (a != b) := by cases a <;> cases b <;> rfl
  show Φ (.bl (!PyData.eqv (.bool a) (.bool b))) μ
  rw [e]; exact q
theorem ne_blF {a b : Bool} (h : (a != b) = false) (q : Φ (.bl false) μ) : neD (.bl a) (.bl b) μ Φ := ne_bl (by rw [h]; exact q)
theorem ne_blT {a b : Bool} (h : (a != b) = true) (q : Φ (.bl true) μ) : neD (.bl a) (.bl b) μ Φ := ne_bl (by rw [h]; exact q)
theorem ne_strF {s : Str} (h : SeqAt.shaped (.str s) = true) (q : Φ (.bl false) μ) : neD (.str s) (.str s) μ Φ := by
  refine ⟨h, h, ?_⟩
  show Φ (.bl (!PyData.eqv (.str s) (.str s))) μ
  have e : PyData.eqv (.str s) (.str s) = true := by rw [PyData.eqv]; exact beq_self_eq_true s
  rw [e]; exact q
end
theorem pwI_eq : ∀ {a b : List Int}, a.Pairwise (· < ·) → b.Pairwise (· < ·) → (∀ x, x ∈ a ↔ x ∈ b) → a = b
  | [], [], _, _, _ => rfl
  | [], y :: b, _, _, h => absurd ((h y).mpr List.mem_cons_self) (by simp)
  | x :: a, [], _, _, h => absurd ((h x).mp List.mem_cons_self) (by simp)
  | x :: a, y :: b, ha, hb, h => by
    obtain ⟨ha1, ha2⟩ := List.pairwise_cons.mp ha
    obtain ⟨hb1, hb2⟩ := List.pairwise_cons.mp hb
    have e : x = y := by
      rcases List.mem_cons.mp ((h x).mp List.mem_cons_self) with q1 | q1
      · exact q1
      · rcases List.mem_cons.mp ((h y).mpr List.mem_cons_self) with q2 | q2
        · exact q2.symm
        · have := hb1 x q1; have := ha1 y q2; omega
    subst e
    have : a = b := pwI_eq ha2 hb2 fun z => by
      constructor
      · intro hz
        rcases List.mem_cons.mp ((h z).mp (List.mem_cons_of_mem _ hz)) with q | q
        · have := ha1 z hz; omega
        · exact q
      · intro hz
        rcases List.mem_cons.mp ((h z).mpr (List.mem_cons_of_mem _ hz)) with q | q
        · have := hb1 z hz; omega
        · exact q
    rw [this]
theorem isQ_upd {μ : Mu} {d : D} {l : List D} {a : Addr} {o : O} (h : IsQ μ d l) (ha : μ a = none) : IsQ (updM μ a o) d l := by
  cases d with
  | ptr p =>
    have h' : μ p = some (.lst l) := h
    show updM μ a o p = _
    rw [updM_ne (neM h' ha)]; exact h'
  | _ => exact h
theorem any_fr {μ : Mu} {Φ : Kd} {bs : List Bool} (q : Φ (.bl (bs.any id)) μ) : anyD [.lst (bs.map D.bl)] μ Φ := ⟨bs, rfl, q⟩
theorem all_fr {μ : Mu} {Φ : Kd} {bs : List Bool} (q : Φ (.bl (bs.all id)) μ) : allD [.lst (bs.map D.bl)] μ Φ := ⟨bs, rfl, q⟩
section
variable {ρ : Rho} {μ μ1 : Mu} {Θ : Th} {Φ : Kd} {g : GG} {tt : GT} {te : GE} {vs : List Nat} {t : GE} {d : D} {l : List D}
/-- what one element does -/
abbrev CBody (g : GG) (tt : GT) (te : GE) (vs : List Nat) (ρ : Rho) (items : List D) (p : D → Bool) (f : D → D) : Prop :=
  ∀ d ∈ items, ∀ (μ' : Mu) (Ψ : Kd) (N : Mu → Prop), (p d = true → Ψ (f d) μ') → (p d = false → N μ') → g d (wipeR ρ vs) μ' fun ρ2 μ2 => tt ρ2 μ2 NoX fun b μ3 => if b = true then te ρ2 μ3 NoX Ψ else N μ3
/-- a comprehension over a sequence, whose elements leave what is owned as it is -/
theorem comp_seq (p : D → Bool) (f : D → D) (hd : ∀ Ψ : Kd, Ψ d μ1 → t ρ μ Θ Ψ) (hq : IsQ μ1 d l) (hz : l.length ≤ LIM) (body : CBody g tt te vs ρ l p f) (fin : NewL ((l.filter p).map f) μ1 Φ) : gComp (iSeqD t) g tt te vs ρ μ Θ Φ :=
  hd _ ⟨l, hq, comp_pure (Θ := Θ) (Φ := Φ) l p f (G := fun μ => IsQ μ d l) (fun Dl o h => isQ_upd hq h) hz body fin⟩
theorem comp_rng1 {n : Int} {ta : GA} (p : D → Bool) (f : D → D) (hd : ∀ Ψ : List D → Mu → Prop, Ψ [.int n] μ1 → ta ρ μ Θ Ψ) (hn : RLim n) (hz : n ≤ LIM) (body : CBody g tt te vs ρ (rngL 0 n.toNat) p f) (fin : NewL (((rngL 0 n.toNat).filter p).map f) μ1 Φ) : gComp (iRng1D ta) g tt te vs ρ μ Θ Φ :=
  hd _ ⟨hn, comp_pure (Θ := Θ) (Φ := Φ) _ p f (G := GF) (fun Dl o h => trivial) (by simp [rngL]; omega) body fin⟩
end
theorem ifF {a b : Prop} [Decidable (false = true)] : (if (false = true) then a else b) = b := if_neg Bool.false_ne_true
theorem ifT {a b : Prop} [Decidable (true = true)] : (if (true = true) then a else b) = a := if_pos rfl
theorem ifNT {a b : Prop} [Decidable ((!true) = true)] : (if ((!true) = true) then a else b) = b := if_neg Bool.false_ne_true
theorem ifNF {a b : Prop} [Decidable ((!false) = true)] : (if ((!false) = true) then a else b) = a := if_pos rfl
theorem filter_yes {α : Type} (l : List α) : l.filter (fun _ => true) = l := by simp
theorem lg_mono {n m k : Nat} (h : n ≤ m) (hk : 0 < k) (hm : m.log2 < k) : n.log2 < k := by
  by_cases hn : n = 0
  · subst hn; simpa using hk
  · rw [Nat.log2_lt (by omega)] at hm
    rw [Nat.log2_lt hn]
    omega
theorem mulOk {i j : Int} {n m : Nat} (hi : i.natAbs ≤ n) (hj : j.natAbs ≤ m) (hn : n.log2 < 9000) (hm : m.log2 < 9000) : CMulW i j := by
  have h1 := lg_mono hi (by decide) hn
  have h2 := lg_mono hj (by decide) hm
  show i.natAbs.log2 + j.natAbs.log2 < 1000000
  omega
theorem div_abs {a b : Int} (ha : 0 ≤ a) (hb : 0 ≤ b) : (a / b).natAbs ≤ a.natAbs := by
  have h1 := Int.ediv_nonneg ha hb
  have h2 : a / b ≤ a := Int.ediv_le_self b ha
  omega
/-- the data of whole numbers -/
theorem toPs_ints : ∀ ns : List Int, toPs (ns.map D.int) = ns.map PyData.int
  | [] => rfl
  | n :: ns => by rw [List.map_cons, List.map_cons, toPs, toPs_ints ns]; rfl
theorem can_ints : ∀ ns : List Int, PyData.canLayAll0 (ns.map PyData.int) = true
  | [] => rfl
  | n :: ns => by simp [PyData.canLayAll0, PyData.canLay0, can_ints ns]
theorem depth_ints : ∀ ns : List Int, PyData.depthAll (ns.map PyData.int) ≤ 1
  | [] => by simp [PyData.depthAll]
  | n :: ns => by
    have := depth_ints ns
    simp [PyData.depthAll, PyData.depth]
    omega
theorem sh_tup (ns : List Int) : SeqAt.shaped (.tuple (ns.map PyData.int)) = true := by
  unfold SeqAt.shaped
  have := depth_ints ns
  rw [Bool.and_eq_true]
  refine ⟨by simpa [PyData.canLay0] using can_ints ns, decide_eq_true ?_⟩
  simp only [PyData.depth]
  omega
theorem eqv_ints : ∀ ns ms : List Int, PyData.eqvAll (ns.map PyData.int) (ms.map PyData.int) = decide (ns = ms)
  | [], [] => rfl
  | [], _ :: _ => rfl
  | _ :: _, [] => rfl
  | n :: ns, m :: ms => by
    rw [List.map_cons, List.map_cons, PyData.eqvAll, eqv_ints ns ms, PyData.eqv]
    by_cases h1 : n = m
    · by_cases h2 : ns = ms
      · subst h1; subst h2; simp
      · simp [h2]
    · simp [h1]
theorem ne_tup {μ : Mu} {Φ : Kd} {ns ms : List Int} (q : Φ (.bl (!decide (ns = ms))) μ) : neD (.tup (ns.map D.int)) (.tup (ms.map D.int)) μ Φ := by
  have e1 : ∀ ns : List Int, toPm μ (.tup (ns.map D.int)) = .tuple (ns.map PyData.int) := fun ns => by rw [toPm, toP, toPs_ints] <;> intros <;> contradiction
  refine ⟨by rw [e1]; exact sh_tup ns, by rw [e1]; exact sh_tup ms, ?_⟩
  rw [e1, e1, PyData.eqv, eqv_ints]
  exact q
end GD

/-! Cn: what the defs promise that all laws draw with -/
namespace GL
open PySem GD
/-- a pen: the script's first numbers, how many draws there were, what is left of a great number -/
def penO (cs : List Int) (i l : Int) : O := .dic [(.inr "cells", .lst (cs.map D.int)), (.inr "next", .int i), (.inr "left", .int l)]
/-- a pen at p, after at most B draws -/
def Pen (μ : Mu) (p : Addr) (B : Nat) : Prop := ∃ (cs : List Int) (i l : Int), μ p = some (penO cs i l) ∧ cs.length ≤ 63 ∧ 0 ≤ i ∧ i ≤ B ∧ 0 ≤ l
def c__law_pen_of (K : PySem.W.Frag) (A : Cl) : Con := fun ds μ Φ Θ => ∃ ns : List Int, ds = [.rdl (ns.map D.int)] ∧ ns.length ≤ LIM ∧ ∀ p cs, μ p = none → cs.length ≤ 63 → Φ (.ptr p) (updM μ p (penO cs 0 0))
/-- sizes that the laws divide by -/
def Sz (n : Int) : Prop := 0 < n ∧ n.natAbs.log2 < 9000
def c__law_draw (K : PySem.W.Frag) (A : Cl) : Con := fun ds μ Φ Θ => ∃ p n B, ds = [.ptr p, .int n] ∧ Pen μ p B ∧ Sz n ∧ B ≤ 1000000 ∧
  ∀ (x : Int) (cs : List Int) (i l : Int), 0 ≤ x → x < n → cs.length ≤ 63 → 0 ≤ i → i ≤ (B + 1 : Nat) → 0 ≤ l → Φ (.int x) (updM μ p (penO cs i l))
def c__law_pick (K : PySem.W.Frag) (A : Cl) : Con := fun ds μ Φ Θ => ∃ p d xs B, ds = [.ptr p, d] ∧ Pen μ p B ∧ IsQ μ d xs ∧ d ≠ .ptr p ∧ xs ≠ [] ∧ xs.length ≤ LIM ∧ B ≤ 1000000 ∧
  ∀ (x : D) (cs : List Int) (i l : Int), x ∈ xs → cs.length ≤ 63 → 0 ≤ i → i ≤ (B + 1 : Nat) → 0 ≤ l → Φ x (updM μ p (penO cs i l))
end GL

/-! Cn20: what the defs of residues promise -/
namespace GL
open PySem GD
def wholeB : D → Int → Bool
  | .int i, l => decide (l ≤ i)
  | _, _ => false
theorem ty_int {μ : Mu} {v : D} {n : String} (h : tyName μ v = some n) (h2 : isTyB n "int" = true) : (∃ i, v = .int i) ∨ ∃ b, v = .bl b := by
  cases v with
  | int i => exact .inl ⟨i, rfl⟩
  | bl b => exact .inr ⟨b, rfl⟩
  | ptr p =>
    exfalso
    dsimp only [tyName] at h
    split at h <;> first | (cases h; revert h2; decide) | cases h
  | _ => first | (exfalso; cases h; revert h2; decide) | cases h
def c_is_whole (K : PySem.W.Frag) (A : Cl) : Con := fun ds μ Φ Θ => ∃ v l, ds = [v, .int l] ∧ (∃ n, tyName μ v = some n) ∧ Φ (.bl (wholeB v l)) μ
def c_divisor_of (K : PySem.W.Frag) (A : Cl) : Con := fun ds μ Φ Θ => ∃ a b, ds = [.int a, .int b] ∧ 0 ≤ a ∧ a < b ∧ b.natAbs.log2 < 9000 ∧ ∀ x y : Int, (Int.gcd a b : Int) = x * a + y * b → Φ (.tup [.int (Int.gcd a b), .int x, .int y]) μ
def c_inverse (K : PySem.W.Frag) (A : Cl) : Con := fun ds μ Φ Θ => ∃ a m, ds = [.int a, .int m] ∧ 2 ≤ m ∧ m.natAbs.log2 < 9000 ∧ (Int.gcd a m ≠ 1 → Φ .non μ) ∧ (Int.gcd a m = 1 → ∀ x : Int, 1 ≤ x → x < m → (x * a) % m = 1 → Φ (.int x) μ)
def natsD (ps : List Nat) : List D := ps.map fun (p : Nat) => D.int (p : Int)
def c_factors (K : PySem.W.Frag) (A : Cl) : Con := fun ds μ Φ Θ => ∃ N : Nat, ds = [.int N] ∧ 1 ≤ N ∧ N ≤ 10 ^ 12 ∧ ∀ ps, Nt.IsPF N ps → Φ (.tup (natsD ps)) μ
def c_primes (K : PySem.W.Frag) (A : Cl) : Con := fun ds μ Φ Θ => ∃ v, ds = [v] ∧ (∃ n, tyName μ v = some n) ∧
  ((∃ N : Nat, v = .int N ∧ 2 ≤ N ∧ N ≤ 10 ^ 12 ∧ ∀ ps, Nt.IsPF N ps → Φ (.tup (natsD ps)) μ) ∨ ((∀ N : Int, v = .int N → N < 2 ∨ 10 ^ 12 < N) ∧ Θ (A "BadModulus") [("number", v)] μ))
def c__law_common (K : PySem.W.Frag) (A : Cl) : Con := fun ds μ Φ Θ => ∃ a b, ds = [.int a, .int b] ∧ Φ (.int (Int.gcd a b)) μ
def c__law_refused (K : PySem.W.Frag) (A : Cl) : Con := fun ds μ Φ Θ => ∃ v, ds = [v] ∧ (∃ n, tyName μ v = some n) ∧ (∀ N : Int, v = .int N → N < 2 ∨ 10 ^ 12 < N) ∧ ShowOk (toPm μ v) ∧ Φ (.str (toPm μ v).shown) μ
def c__law_primes (K : PySem.W.Frag) (A : Cl) : Con := fun ds μ Φ Θ => ∃ N : Nat, ds = [.int N] ∧ 2 ≤ N ∧ N ≤ 1000 ∧ ∀ ps, Nt.IsPF N ps → Φ (.tup (natsD ps)) μ
def c_law (K : PySem.W.Frag) (A : Cl) : Con := fun ds μ Φ Θ => ∃ ns : List Int, ds = [.rdl (ns.map D.int)] ∧ μ = (fun _ => none) ∧ ns.length ≤ 63 ∧ Φ = (fun d _ => d = .bl true)
end GL

namespace GL
open PySem PySem.Spec PyProof.Rows L2 GD
def topS (i : Nat) : Stmt := PySem.Challenge.pw_guardsums_k20_residues.main.body.getD i (.Pass ⟨0, 0, 0, 0⟩)
structure Bl (A : Cl) (mg : Str → Option Value) : Prop where
  abs : mg "abs" = none
  any : mg "any" = none
  bool : mg "bool" = none
  int : mg "int" = none
  isinstance : mg "isinstance" = none
  len : mg "len" = none
  list : mg "list" = none
  range : mg "range" = none
  repr : mg "repr" = none
  set : mg "set" = none
  sorted : mg "sorted" = none
  tuple : mg "tuple" = none
  c_BadModulus : mg "BadModulus" = some (.ref (A "BadModulus"))
  c_SumsError : mg "SumsError" = some (.ref (A "SumsError"))
  MOST_MODULUS : ∃ u, mg "MOST_MODULUS" = some u ∧ RelV (.int 1000000000000) u
section
variable {P : Program} {w : World} {K : PySem.W.Frag} {mg : Str → Option Value} {base : Heap} (A : Cl)
def t_is_whole (K : PySem.W.Frag) (A : Cl) : GS := (gRet (gAndV (gCB (isiR "int") (gCons (gVar 0) (gCons (gC (.ty "int")) gNil))) (gAndV (gNotV (gCB (isiR "bool") (gCons (gVar 0) (gCons (gC (.ty "bool")) gNil)))) (gOp geD (gVar 0) (gVar 1)))))
abbrev n_is_whole : List Str := ["value", "least"]
abbrev s_is_whole : Stmt := (topS 5)
theorem sc_is_whole : FnScope n_is_whole ["value", "least"] (defScope s_is_whole) := ⟨rfl, rfl, rfl, by decide +kernel, rfl, by decide +kernel, by decide +kernel⟩
theorem d_is_whole (B : Bl A mg) {f : Addr} : ∀ (cdv : Value) (A0 : Around) (outer : List PySem.Env) (s : Shared) (H : Hp) (E : XK), Room 0 (A0.deeper (envOfC "is_whole" (defScope s_is_whole) s.heap.objs.size f cdv)) → 
  SSs (cxOf (L2.CX P w) P w K mg base n_is_whole "is_whole" (defScope s_is_whole) f cdv A0 outer s H E) (defBody s_is_whole) (t_is_whole K A) := by
  intro cdv A0 outer s H E hr
  have nd := sc_is_whole.nd
  have hu := hu_of hr
  have h64 := hr.units
  have hw := hu1_of hr
  exact (sss_one (ss_ret (se_and (se_callB call_isi (rd_isi1 (b := "int") (by decide)) rfl B.isinstance bt_isinstance (sa_cons (se_var 0) (sa_cons (se_ty "int" rfl B.int bt_int) sa_nil))) (se_and (se_not (se_callB call_isi (rd_isi1 (b := "bool") (by decide)) rfl B.isinstance bt_isinstance (sa_cons (se_var 0) (sa_cons (se_ty "bool" rfl B.bool bt_bool) sa_nil)))) (se_one (se_ge (se_var 0) (se_var 1)))))))
theorem ok_is_whole (B : Bl A mg) (D : DefIn K "is_whole" "is_whole" s_is_whole) {h : Heap} (X : K.In h) (Gl : h.Ns mainGlobals mg)
    (len : ∀ ds μ Φ Θ, c_is_whole K A ds μ Φ Θ → ds.length = 2) (pure : ∀ ds μ Φ Θ, c_is_whole K A ds μ Φ Θ → t_is_whole K A (En0 Φ Θ) (startR n_is_whole ds) μ) : FnAt P w K mg base 1 "is_whole" ["value", "least"] (c_is_whole K A) :=
  fnAtD_of D X Gl (fun _ _ _ _ _ _ us hl => match us, hl with | [_, _], _ => rfl) fun f fd F => okD F sc_is_whole len (d_is_whole A B) pure
def t_divisor_of (K : PySem.W.Frag) (A : Cl) : GS := (gSeq (gAsg (gTupN (gCons (gTupN (gCons (gC (.int 1)) (gCons (gC (.int 0)) gNil))) (gCons (gTupN (gCons (gC (.int 0)) (gCons (gC (.int 1)) gNil))) gNil))) (gT 2 (gsCons (gN 2) (gsCons (gN 3) gsNil))))
  (gSeq (gWhile (gTru (gVar 1)) (gSeq (gAsg (gOp divD (gVar 0) (gVar 1)) (gN 4))
  (gSeq (gPar 0 1 (gCons (gVar 1) (gCons (gOp subD (gVar 0) (gOp mulD (gVar 4) (gVar 1))) gNil)))
  (gPar 2 3 (gCons (gVar 3) (gCons (gTupN (gCons (gOp subD (gOp ixU (gVar 2) (gC (.int 0))) (gOp mulD (gVar 4) (gOp ixU (gVar 3) (gC (.int 0))))) (gCons (gOp subD (gOp ixU (gVar 2) (gC (.int 1))) (gOp mulD (gVar 4) (gOp ixU (gVar 3) (gC (.int 1))))) gNil))) gNil))))))
  (gRet (gTupN (gCons (gVar 0) (gCons (gOp ixU (gVar 2) (gC (.int 0))) (gCons (gOp ixU (gVar 2) (gC (.int 1))) gNil)))))))
abbrev n_divisor_of : List Str := ["one", "other", "first", "second", "times"]
abbrev s_divisor_of : Stmt := (topS 6)
theorem sc_divisor_of : FnScope n_divisor_of ["one", "other"] (defScope s_divisor_of) := ⟨rfl, rfl, rfl, by decide +kernel, rfl, by decide +kernel, by decide +kernel⟩
theorem d_divisor_of (B : Bl A mg) {f : Addr} : ∀ (cdv : Value) (A0 : Around) (outer : List PySem.Env) (s : Shared) (H : Hp) (E : XK), Room 0 (A0.deeper (envOfC "divisor_of" (defScope s_divisor_of) s.heap.objs.size f cdv)) → 
  SSs (cxOf (L2.CX P w) P w K mg base n_divisor_of "divisor_of" (defScope s_divisor_of) f cdv A0 outer s H E) (defBody s_divisor_of) (t_divisor_of K A) := by
  intro cdv A0 outer s H E hr
  have nd := sc_divisor_of.nd
  have hu := hu_of hr
  have h64 := hr.units
  have hw := hu1_of hr
  exact (sss_cons (ss_asg (se_tup (sa_cons (se_tup (sa_cons se_int (sa_cons se_int sa_nil))) (sa_cons (se_tup (sa_cons se_int (sa_cons se_int sa_nil))) sa_nil))) (sg_tup rfl (sgs_cons (sg_name 2 nd rfl (.inl rfl)) (sgs_cons (sg_name 3 nd rfl (.inl rfl)) sgs_nil))))
    (sss_cons (ss_while (passes_of rfl) (st_tru (se_var 1)) (sss_cons (ss_set 4 nd rfl (.inl rfl) (se_div (se_var 0) (se_var 1)))
    (sss_cons (ss_par 0 1 rfl nd rfl rfl (by decide) rfl rfl (sa_cons (se_var 1) (sa_cons (se_sub (se_var 0) (se_mulI (se_var 4) (se_var 1))) sa_nil)))
    (sss_one (ss_par 2 3 rfl nd rfl rfl (by decide) rfl rfl (sa_cons (se_var 3) (sa_cons (se_tup (sa_cons (se_sub (se_sub' hu (se_var 2) se_int) (se_mulI (se_var 4) (se_sub' hu (se_var 3) se_int))) (sa_cons (se_sub (se_sub' hu (se_var 2) se_int) (se_mulI (se_var 4) (se_sub' hu (se_var 3) se_int))) sa_nil))) sa_nil)))))))
    (sss_one (ss_ret (se_tup (sa_cons (se_var 0) (sa_cons (se_sub' hu (se_var 2) se_int) (sa_cons (se_sub' hu (se_var 2) se_int) sa_nil))))))))
theorem ok_divisor_of (B : Bl A mg) (D : DefIn K "divisor_of" "divisor_of" s_divisor_of) {h : Heap} (X : K.In h) (Gl : h.Ns mainGlobals mg)
    (len : ∀ ds μ Φ Θ, c_divisor_of K A ds μ Φ Θ → ds.length = 2) (pure : ∀ ds μ Φ Θ, c_divisor_of K A ds μ Φ Θ → t_divisor_of K A (En0 Φ Θ) (startR n_divisor_of ds) μ) : FnAt P w K mg base 1 "divisor_of" ["one", "other"] (c_divisor_of K A) :=
  fnAtD_of D X Gl (fun _ _ _ _ _ _ us hl => match us, hl with | [_, _], _ => rfl) fun f fd F => okD F sc_divisor_of len (d_divisor_of A B) pure
def t_factors (K : PySem.W.Frag) (A : Cl) : GS := (gSeq (gPar 1 2 (gCons (gLst gNil) (gCons (gC (.int 2)) gNil)))
  (gSeq (gWhile (gTest (gOp leD (gOp mulD (gVar 2) (gVar 2)) (gVar 0))) (gSeq (gIfS (gTest (gOp eqD (gOp modD (gVar 0) (gVar 2)) (gC (.int 0)))) (gSeq (gDrop (gApp (gVar 1) (gVar 2)))
  (gWhile (gTest (gOp eqD (gOp modD (gVar 0) (gVar 2)) (gC (.int 0)))) (gAsg (gOp divD (gVar 0) (gVar 2)) (gN 0)))) gNext)
  (gAug 2 (gIf (gTest (gOp eqD (gVar 2) (gC (.int 2)))) (gC (.int 1)) (gC (.int 2))) augAdd)))
  (gRet (gCB tupleD (gCons (gIf (gTest (gOp gtD (gVar 0) (gC (.int 1)))) (gOp addD (gVar 1) (gLst (gCons (gVar 0) gNil))) (gVar 1)) gNil)))))
abbrev n_factors : List Str := ["number", "found", "divisor"]
abbrev s_factors : Stmt := (topS 8)
theorem sc_factors : FnScope n_factors ["number"] (defScope s_factors) := ⟨rfl, rfl, rfl, by decide +kernel, rfl, by decide +kernel, by decide +kernel⟩
theorem d_factors (B : Bl A mg) {f : Addr} : ∀ (cdv : Value) (A0 : Around) (outer : List PySem.Env) (s : Shared) (H : Hp) (E : XK), Room 0 (A0.deeper (envOfC "factors" (defScope s_factors) s.heap.objs.size f cdv)) → 
  SSs (cxOf (L2.CX P w) P w K mg base n_factors "factors" (defScope s_factors) f cdv A0 outer s H E) (defBody s_factors) (t_factors K A) := by
  intro cdv A0 outer s H E hr
  have nd := sc_factors.nd
  have hu := hu_of hr
  have h64 := hr.units
  have hw := hu1_of hr
  exact (sss_cons (ss_par 1 2 rfl nd rfl rfl (by decide) rfl rfl (sa_cons (se_lst sa_nil) (sa_cons se_int sa_nil)))
    (sss_cons (ss_while (passes_of rfl) (st_le (se_mulI (se_var 2) (se_var 2)) (se_var 0)) (sss_cons (ss_if (st_eq h64 (se_mod (se_var 0) (se_var 2)) se_int) (sss_cons (ss_expr (se_app (se_var 1) (se_var 2)))
    (sss_one (ss_while (passes_of rfl) (st_eq h64 (se_mod (se_var 0) (se_var 2)) se_int) (sss_one (ss_set 0 nd rfl (.inl rfl) (se_div (se_var 0) (se_var 2))))))) sss_nil)
    (sss_one (ss_augAdd 2 nd rfl (.inl rfl) (se_if (st_eq h64 (se_var 2) se_int) se_int se_int)))))
    (sss_one (ss_ret (se_callTy call_tuple_of rd_tuple rfl B.tuple bt_tuple (sa_cons (se_if (st_gt (se_var 0) se_int) (se_add (se_var 1) (se_lst (sa_cons (se_var 0) sa_nil))) (se_var 1)) sa_nil))))))
theorem ok_factors (B : Bl A mg) (D : DefIn K "factors" "factors" s_factors) {h : Heap} (X : K.In h) (Gl : h.Ns mainGlobals mg)
    (len : ∀ ds μ Φ Θ, c_factors K A ds μ Φ Θ → ds.length = 1) (pure : ∀ ds μ Φ Θ, c_factors K A ds μ Φ Θ → t_factors K A (En0 Φ Θ) (startR n_factors ds) μ) : FnAt P w K mg base 1 "factors" ["number"] (c_factors K A) :=
  fnAtD_of D X Gl (fun _ _ _ _ _ _ us hl => match us, hl with | [_], _ => rfl) fun f fd F => okD F sc_factors len (d_factors A B) pure
def t__law_pen_of (K : PySem.W.Frag) (A : Cl) : GS := (gRet (gDisp [((Sum.inr "cells"), (gCB listD (gCons (gSl (gVar 0) gNoPart (gPart (gC (.int 63)))) gNil))), ((Sum.inr "next"), (gC (.int 0))), ((Sum.inr "left"), (gC (.int 0)))]))
abbrev n__law_pen_of : List Str := ["_law_script"]
abbrev s__law_pen_of : Stmt := (topS 11)
theorem sc__law_pen_of : FnScope n__law_pen_of ["_law_script"] (defScope s__law_pen_of) := ⟨rfl, rfl, rfl, by decide +kernel, rfl, by decide +kernel, by decide +kernel⟩
theorem d__law_pen_of (B : Bl A mg) {f : Addr} : ∀ (cdv : Value) (A0 : Around) (outer : List PySem.Env) (s : Shared) (H : Hp) (E : XK), Room 0 (A0.deeper (envOfC "_law_pen_of" (defScope s__law_pen_of) s.heap.objs.size f cdv)) → 
  SSs (cxOf (L2.CX P w) P w K mg base n__law_pen_of "_law_pen_of" (defScope s__law_pen_of) f cdv A0 outer s H E) (defBody s__law_pen_of) (t__law_pen_of K A) := by
  intro cdv A0 outer s H E hr
  have nd := sc__law_pen_of.nd
  have hu := hu_of hr
  have h64 := hr.units
  have hw := hu1_of hr
  exact (sss_one (ss_ret (se_disp (sps_cons (key := (Sum.inr "cells")) pe_str (se_callTy call_list_of rd_list rfl B.list bt_list (sa_cons (se_slice (se_var 0) so_none (so_some se_int)) sa_nil)) (sps_cons (key := (Sum.inr "next")) pe_str se_int (sps_cons (key := (Sum.inr "left")) pe_str se_int sps_nil))) (by rfl) (by rfl) (fun z => by cases z) (by decide) (by decide))))
theorem ok__law_pen_of (B : Bl A mg) (D : DefIn K "_law_pen_of" "_law_pen_of" s__law_pen_of) {h : Heap} (X : K.In h) (Gl : h.Ns mainGlobals mg)
    (len : ∀ ds μ Φ Θ, c__law_pen_of K A ds μ Φ Θ → ds.length = 1) (pure : ∀ ds μ Φ Θ, c__law_pen_of K A ds μ Φ Θ → t__law_pen_of K A (En0 Φ Θ) (startR n__law_pen_of ds) μ) : FnAt P w K mg base 1 "_law_pen_of" ["_law_script"] (c__law_pen_of K A) :=
  fnAtD_of D X Gl (fun _ _ _ _ _ _ us hl => match us, hl with | [_], _ => rfl) fun f fd F => okD F sc__law_pen_of len (d__law_pen_of A B) pure
def t__law_draw (K : PySem.W.Frag) (A : Cl) : GS := (gSeq (gIfS (gTest (gOp gtD (gOp ixU (gVar 0) (gC (.str "left"))) (gC (.int 0)))) (gSeq (gAsg (gOp modD (gCB intD (gCons (gOp ixU (gVar 0) (gC (.str "left"))) gNil)) (gVar 1)) (gN 2))
  (gSeq (gAsg (gOp divD (gOp ixU (gVar 0) (gC (.str "left"))) (gVar 1)) (gSub (gVar 0) (gC (.str "left"))))
  (gRet (gVar 2)))) gNext)
  (gSeq (gPar 3 4 (gCons (gOp ixU (gVar 0) (gC (.str "next"))) (gCons (gCB lenD (gCons (gOp ixU (gVar 0) (gC (.str "cells"))) gNil)) gNil)))
  (gSeq (gAsg (gOp addD (gVar 3) (gC (.int 1))) (gSub (gVar 0) (gC (.str "next"))))
  (gSeq (gIfS (gTest (gOp eqD (gVar 4) (gC (.int 0)))) (gRet (gOp modD (gCB intD (gCons (gOp addD (gOp mulD (gC (.int 7)) (gVar 3)) (gC (.int 3))) gNil)) (gVar 1))) gNext)
  (gSeq (gAsg (gOp ixU (gOp ixU (gVar 0) (gC (.str "cells"))) (gOp modD (gCB intD (gCons (gVar 3) gNil)) (gVar 4))) (gN 5))
  (gSeq (gIfS (gAnd (gTest (gOp ltD (gVar 3) (gVar 4))) (gTest (gOp geD (gCB absD (gCons (gVar 5) gNil)) (gOp powD (gC (.int 10)) (gC (.int 18)))))) (gSeq (gAsg (gOp divD (gOp subD (gCB absD (gCons (gVar 5) gNil)) (gOp powD (gC (.int 10)) (gC (.int 18)))) (gVar 1)) (gSub (gVar 0) (gC (.str "left"))))
  (gRet (gOp modD (gCB intD (gCons (gOp subD (gCB absD (gCons (gVar 5) gNil)) (gOp powD (gC (.int 10)) (gC (.int 18)))) gNil)) (gVar 1)))) gNext)
  (gSeq (gAsg (gOp addD (gOp mulD (gOp modD (gCB intD (gCons (gVar 5) gNil)) (gC (.int 4294967197))) (gC (.int 52711))) (gOp mulD (gOp mulD (gC (.int 20353)) (gVar 3)) (gVar 3))) (gN 6))
  (gSeq (gAsg (gOp modD (gCB intD (gCons (gOp addD (gOp addD (gVar 6) (gOp mulD (gC (.int 1531)) (gVar 3))) (gC (.int 11))) gNil)) (gC (.int 4294967189))) (gN 6))
  (gSeq (gAsg (gOp modD (gCB intD (gCons (gOp addD (gOp addD (gOp addD (gOp mulD (gVar 6) (gVar 6)) (gOp mulD (gC (.int 68903)) (gVar 6))) (gOp mulD (gC (.int 23)) (gVar 3))) (gC (.int 7))) gNil)) (gC (.int 4294967161))) (gN 6))
  (gRet (gOp modD (gCB intD (gCons (gOp divD (gOp modD (gCB intD (gCons (gOp mulD (gVar 6) (gOp addD (gVar 6) (gC (.int 57037)))) gNil)) (gC (.int 4294967143))) (gC (.int 64))) gNil)) (gVar 1))))))))))))
abbrev n__law_draw : List Str := ["_law_pen", "_law_many", "_law_digit", "_law_index", "_law_size", "_law_cell", "_law_mixed"]
abbrev s__law_draw : Stmt := (topS 12)
theorem sc__law_draw : FnScope n__law_draw ["_law_pen", "_law_many"] (defScope s__law_draw) := ⟨rfl, rfl, rfl, by decide +kernel, rfl, by decide +kernel, by decide +kernel⟩
theorem d__law_draw (B : Bl A mg) {f : Addr} : ∀ (cdv : Value) (A0 : Around) (outer : List PySem.Env) (s : Shared) (H : Hp) (E : XK), Room 0 (A0.deeper (envOfC "_law_draw" (defScope s__law_draw) s.heap.objs.size f cdv)) → 
  SSs (cxOf (L2.CX P w) P w K mg base n__law_draw "_law_draw" (defScope s__law_draw) f cdv A0 outer s H E) (defBody s__law_draw) (t__law_draw K A) := by
  intro cdv A0 outer s H E hr
  have nd := sc__law_draw.nd
  have hu := hu_of hr
  have h64 := hr.units
  have hw := hu1_of hr
  exact (sss_cons (ss_if (st_gt (se_sub' hu (se_var 0) se_str) se_int) (sss_cons (ss_set 2 nd rfl (.inl rfl) (se_mod (se_callTy call_int1 rd_int rfl B.int bt_int (sa_cons (se_sub' hu (se_var 0) se_str) sa_nil)) (se_var 1)))
    (sss_cons (ss_asg (se_div (se_sub' hu (se_var 0) se_str) (se_var 1)) (sg_sub hu (se_var 0) se_str))
    (sss_one (ss_ret (se_var 2))))) sss_nil)
    (sss_cons (ss_par 3 4 rfl nd rfl rfl (by decide) rfl rfl (sa_cons (se_sub' hu (se_var 0) se_str) (sa_cons (se_callB call_len rd_len rfl B.len bt_len (sa_cons (se_sub' hu (se_var 0) se_str) sa_nil)) sa_nil)))
    (sss_cons (ss_asg (se_add (se_var 3) se_int) (sg_sub hu (se_var 0) se_str))
    (sss_cons (ss_if (st_eq h64 (se_var 4) se_int) (sss_one (ss_ret (se_mod (se_callTy call_int1 rd_int rfl B.int bt_int (sa_cons (se_add (se_mulI se_int (se_var 3)) se_int) sa_nil)) (se_var 1)))) sss_nil)
    (sss_cons (ss_set 5 nd rfl (.inl rfl) (se_sub' hu (se_sub' hu (se_var 0) se_str) (se_mod (se_callTy call_int1 rd_int rfl B.int bt_int (sa_cons (se_var 3) sa_nil)) (se_var 4))))
    (sss_cons (ss_if (SW.st (sw_and (st_lt (se_var 3) (se_var 4)) (sw_and1 (st_ge (se_callB call_abs rd_abs rfl B.abs bt_abs (sa_cons (se_var 5) sa_nil)) (se_pow se_int se_int))))) (sss_cons (ss_asg (se_div (se_sub (se_callB call_abs rd_abs rfl B.abs bt_abs (sa_cons (se_var 5) sa_nil)) (se_pow se_int se_int)) (se_var 1)) (sg_sub hu (se_var 0) se_str))
    (sss_one (ss_ret (se_mod (se_callTy call_int1 rd_int rfl B.int bt_int (sa_cons (se_sub (se_callB call_abs rd_abs rfl B.abs bt_abs (sa_cons (se_var 5) sa_nil)) (se_pow se_int se_int)) sa_nil)) (se_var 1))))) sss_nil)
    (sss_cons (ss_set 6 nd rfl (.inl rfl) (se_add (se_mulI (se_mod (se_callTy call_int1 rd_int rfl B.int bt_int (sa_cons (se_var 5) sa_nil)) se_int) se_int) (se_mulI (se_mulI se_int (se_var 3)) (se_var 3))))
    (sss_cons (ss_set 6 nd rfl (.inl rfl) (se_mod (se_callTy call_int1 rd_int rfl B.int bt_int (sa_cons (se_add (se_add (se_var 6) (se_mulI se_int (se_var 3))) se_int) sa_nil)) se_int))
    (sss_cons (ss_set 6 nd rfl (.inl rfl) (se_mod (se_callTy call_int1 rd_int rfl B.int bt_int (sa_cons (se_add (se_add (se_add (se_mulI (se_var 6) (se_var 6)) (se_mulI se_int (se_var 6))) (se_mulI se_int (se_var 3))) se_int) sa_nil)) se_int))
    (sss_one (ss_ret (se_mod (se_callTy call_int1 rd_int rfl B.int bt_int (sa_cons (se_div (se_mod (se_callTy call_int1 rd_int rfl B.int bt_int (sa_cons (se_mulI (se_var 6) (se_add (se_var 6) se_int)) sa_nil)) se_int) se_int) sa_nil)) (se_var 1)))))))))))))
theorem ok__law_draw (B : Bl A mg) (D : DefIn K "_law_draw" "_law_draw" s__law_draw) {h : Heap} (X : K.In h) (Gl : h.Ns mainGlobals mg)
    (len : ∀ ds μ Φ Θ, c__law_draw K A ds μ Φ Θ → ds.length = 2) (pure : ∀ ds μ Φ Θ, c__law_draw K A ds μ Φ Θ → t__law_draw K A (En0 Φ Θ) (startR n__law_draw ds) μ) : FnAt P w K mg base 1 "_law_draw" ["_law_pen", "_law_many"] (c__law_draw K A) :=
  fnAtD_of D X Gl (fun _ _ _ _ _ _ us hl => match us, hl with | [_, _], _ => rfl) fun f fd F => okD F sc__law_draw len (d__law_draw A B) pure
def t__law_common (K : PySem.W.Frag) (A : Cl) : GS := (gSeq (gPar 0 1 (gCons (gCB absD (gCons (gVar 0) gNil)) (gCons (gCB absD (gCons (gVar 1) gNil)) gNil)))
  (gSeq (gWhile (gTest (gOp gtD (gVar 1) (gC (.int 0)))) (gPar 0 1 (gCons (gVar 1) (gCons (gOp modD (gCB intD (gCons (gVar 0) gNil)) (gVar 1)) gNil))))
  (gRet (gVar 0))))
abbrev n__law_common : List Str := ["_law_one", "_law_other"]
abbrev s__law_common : Stmt := (topS 14)
theorem sc__law_common : FnScope n__law_common ["_law_one", "_law_other"] (defScope s__law_common) := ⟨rfl, rfl, rfl, by decide +kernel, rfl, by decide +kernel, by decide +kernel⟩
theorem d__law_common (B : Bl A mg) {f : Addr} : ∀ (cdv : Value) (A0 : Around) (outer : List PySem.Env) (s : Shared) (H : Hp) (E : XK), Room 0 (A0.deeper (envOfC "_law_common" (defScope s__law_common) s.heap.objs.size f cdv)) → 
  SSs (cxOf (L2.CX P w) P w K mg base n__law_common "_law_common" (defScope s__law_common) f cdv A0 outer s H E) (defBody s__law_common) (t__law_common K A) := by
  intro cdv A0 outer s H E hr
  have nd := sc__law_common.nd
  have hu := hu_of hr
  have h64 := hr.units
  have hw := hu1_of hr
  exact (sss_cons (ss_par 0 1 rfl nd rfl rfl (by decide) rfl rfl (sa_cons (se_callB call_abs rd_abs rfl B.abs bt_abs (sa_cons (se_var 0) sa_nil)) (sa_cons (se_callB call_abs rd_abs rfl B.abs bt_abs (sa_cons (se_var 1) sa_nil)) sa_nil)))
    (sss_cons (ss_while (passes_of rfl) (st_gt (se_var 1) se_int) (sss_one (ss_par 0 1 rfl nd rfl rfl (by decide) rfl rfl (sa_cons (se_var 1) (sa_cons (se_mod (se_callTy call_int1 rd_int rfl B.int bt_int (sa_cons (se_var 0) sa_nil)) (se_var 1)) sa_nil)))))
    (sss_one (ss_ret (se_var 0)))))
theorem ok__law_common (B : Bl A mg) (D : DefIn K "_law_common" "_law_common" s__law_common) {h : Heap} (X : K.In h) (Gl : h.Ns mainGlobals mg)
    (len : ∀ ds μ Φ Θ, c__law_common K A ds μ Φ Θ → ds.length = 2) (pure : ∀ ds μ Φ Θ, c__law_common K A ds μ Φ Θ → t__law_common K A (En0 Φ Θ) (startR n__law_common ds) μ) : FnAt P w K mg base 1 "_law_common" ["_law_one", "_law_other"] (c__law_common K A) :=
  fnAtD_of D X Gl (fun _ _ _ _ _ _ us hl => match us, hl with | [_, _], _ => rfl) fun f fd F => okD F sc__law_common len (d__law_common A B) pure
def t__law_primes (K : PySem.W.Frag) (A : Cl) : GS := (gSeq (gAsg (gLst gNil) (gN 1))
  (gSeq (gFor (iRng2D (gCons (gC (.int 2)) (gCons (gOp addD (gVar 0) (gC (.int 1))) gNil))) (gN 2) (gIfS (gAnd (gTest (gOp eqD (gOp modD (gCB intD (gCons (gVar 0) gNil)) (gVar 2)) (gC (.int 0)))) (gNot (gTru (gCB anyD (gCons (gComp (iSeqD (gVar 1)) (gN 3) gYes (gOp eqD (gOp modD (gCB intD (gCons (gVar 2) gNil)) (gVar 3)) (gC (.int 0))) [3]) gNil))))) (gDrop (gApp (gVar 1) (gVar 2))) gNext))
  (gRet (gCB tupleD (gCons (gVar 1) gNil)))))
abbrev n__law_primes : List Str := ["_law_number", "_law_found", "_law_divisor", "_law_prime"]
abbrev s__law_primes : Stmt := (topS 16)
theorem sc__law_primes : FnScope n__law_primes ["_law_number"] (defScope s__law_primes) := ⟨rfl, rfl, rfl, by decide +kernel, rfl, by decide +kernel, by decide +kernel⟩
theorem d__law_primes (B : Bl A mg) {f : Addr} : ∀ (cdv : Value) (A0 : Around) (outer : List PySem.Env) (s : Shared) (H : Hp) (E : XK), Room 0 (A0.deeper (envOfC "_law_primes" (defScope s__law_primes) s.heap.objs.size f cdv)) → 
  SSs (cxOf (L2.CX P w) P w K mg base n__law_primes "_law_primes" (defScope s__law_primes) f cdv A0 outer s H E) (defBody s__law_primes) (t__law_primes K A) := by
  intro cdv A0 outer s H E hr
  have nd := sc__law_primes.nd
  have hu := hu_of hr
  have h64 := hr.units
  have hw := hu1_of hr
  exact (sss_cons (ss_set 1 nd rfl (.inl rfl) (se_lst sa_nil))
    (sss_cons (ss_for (passes_of rfl) rfl (si_range2 rfl B.range (sa_cons se_int (sa_cons (se_add (se_var 0) se_int) sa_nil))) (sg_name 2 nd rfl (.inr rfl)) (sss_one (ss_if (SW.st (sw_and (st_eq h64 (se_mod (se_callTy call_int1 rd_int rfl B.int bt_int (sa_cons (se_var 0) sa_nil)) (se_var 2)) se_int) (sw_and1 (st_not (st_tru (se_callB (cr_any rfl) rd_any rfl B.any bt_any (sa_cons (se_lc (own := [("_law_prime", 3)]) rfl nd (si_seq (se_var 1)) (blkOk_by (by kernel_rfl)) (fun _ _ _ _ _ => (sc_name 3 nd rfl (.inl rfl) (by decide))) (fun _ _ _ _ _ => sts_nil) (fun _ _ _ _ _ => (se_eq h64 (se_mod (se_callTy call_int1 rd_int rfl B.int bt_int (sa_cons (se_var 2) sa_nil)) (se_var 3)) se_int))) sa_nil))))))) (sss_one (ss_expr (se_app (se_var 1) (se_var 2)))) sss_nil)))
    (sss_one (ss_ret (se_callTy call_tuple_of rd_tuple rfl B.tuple bt_tuple (sa_cons (se_var 1) sa_nil))))))
theorem ok__law_primes (B : Bl A mg) (D : DefIn K "_law_primes" "_law_primes" s__law_primes) {h : Heap} (X : K.In h) (Gl : h.Ns mainGlobals mg)
    (len : ∀ ds μ Φ Θ, c__law_primes K A ds μ Φ Θ → ds.length = 1) (pure : ∀ ds μ Φ Θ, c__law_primes K A ds μ Φ Θ → t__law_primes K A (En0 Φ Θ) (startR n__law_primes ds) μ) : FnAt P w K mg base 1 "_law_primes" ["_law_number"] (c__law_primes K A) :=
  fnAtD_of D X Gl (fun _ _ _ _ _ _ us hl => match us, hl with | [_], _ => rfl) fun f fd F => okD F sc__law_primes len (d__law_primes A B) pure
def t_inverse (K : PySem.W.Frag) (A : Cl) : GS := (gSeq (gAsg (gCall (c_divisor_of K A) [] (gCons (gOp modD (gVar 0) (gVar 1)) (gCons (gVar 1) gNil))) (gT 3 (gsCons (gN 2) (gsCons (gN 3) (gsCons (gN 4) gsNil)))))
  (gRet (gIf (gTest (gOp eqD (gVar 2) (gC (.int 1)))) (gOp modD (gVar 3) (gVar 1)) (gC .non))))
abbrev n_inverse : List Str := ["number", "modulus", "shared", "times", "rest"]
abbrev s_inverse : Stmt := (topS 7)
theorem sc_inverse : FnScope n_inverse ["number", "modulus"] (defScope s_inverse) := ⟨rfl, rfl, rfl, by decide +kernel, rfl, by decide +kernel, by decide +kernel⟩
theorem d_inverse (B : Bl A mg) (F_divisor_of : FnAt P w K mg base 1 "divisor_of" ["one", "other"] (c_divisor_of K A)) {f : Addr} : ∀ (cdv : Value) (A0 : Around) (outer : List PySem.Env) (s : Shared) (H : Hp) (E : XK), Room 1 (A0.deeper (envOfC "inverse" (defScope s_inverse) s.heap.objs.size f cdv)) → 
  SSs (cxOf (L2.CX P w) P w K mg base n_inverse "inverse" (defScope s_inverse) f cdv A0 outer s H E) (defBody s_inverse) (t_inverse K A) := by
  intro cdv A0 outer s H E hr
  have nd := sc_inverse.nd
  have hu := hu_of hr
  have h64 := hr.units
  have hw := hu1_of hr
  exact (sss_cons (ss_asg (se_fn F_divisor_of (hr.mono (by decide)) rfl (sa_cons (se_mod (se_var 0) (se_var 1)) (sa_cons (se_var 1) sa_nil))) (sg_tup rfl (sgs_cons (sg_name 2 nd rfl (.inl rfl)) (sgs_cons (sg_name 3 nd rfl (.inl rfl)) (sgs_cons (sg_name 4 nd rfl (.inl rfl)) sgs_nil)))))
    (sss_one (ss_ret (se_if (st_eq h64 (se_var 2) se_int) (se_mod (se_var 3) (se_var 1)) se_non))))
theorem ok_inverse (B : Bl A mg) (F_divisor_of : FnAt P w K mg base 1 "divisor_of" ["one", "other"] (c_divisor_of K A)) (D : DefIn K "inverse" "inverse" s_inverse) {h : Heap} (X : K.In h) (Gl : h.Ns mainGlobals mg)
    (len : ∀ ds μ Φ Θ, c_inverse K A ds μ Φ Θ → ds.length = 2) (pure : ∀ ds μ Φ Θ, c_inverse K A ds μ Φ Θ → t_inverse K A (En0 Φ Θ) (startR n_inverse ds) μ) : FnAt P w K mg base 2 "inverse" ["number", "modulus"] (c_inverse K A) :=
  fnAtD_of D X Gl (fun _ _ _ _ _ _ us hl => match us, hl with | [_, _], _ => rfl) fun f fd F => okD F sc_inverse len (d_inverse A B F_divisor_of) pure
def t_primes (K : PySem.W.Frag) (A : Cl) : GS := (gSeq (gIfS (gOr (gNot (gTru (gCall (c_is_whole K A) [] (gCons (gVar 0) (gCons (gC (.int 2)) gNil))))) (gTest (gOp gtD (gVar 0) (gC (.int 1000000000000))))) (gRaise (A "BadModulus") [("number", "number")] (gCons (gVar 0) gNil)) gNext)
  (gRet (gCall (c_factors K A) [] (gCons (gVar 0) gNil))))
abbrev n_primes : List Str := ["number"]
abbrev s_primes : Stmt := (topS 9)
theorem sc_primes : FnScope n_primes ["number"] (defScope s_primes) := ⟨rfl, rfl, rfl, by decide +kernel, rfl, by decide +kernel, by decide +kernel⟩
theorem d_primes (B : Bl A mg) (F_is_whole : FnAt P w K mg base 1 "is_whole" ["value", "least"] (c_is_whole K A)) (F_factors : FnAt P w K mg base 1 "factors" ["number"] (c_factors K A)) (T_BadModulus : ErrC P K mg "BadModulus" (A "BadModulus") [("number", "number")]) {f : Addr} : ∀ (cdv : Value) (A0 : Around) (outer : List PySem.Env) (s : Shared) (H : Hp) (E : XK), Room 1 (A0.deeper (envOfC "primes" (defScope s_primes) s.heap.objs.size f cdv)) → 
  SSs (cxOf (L2.CX P w) P w K mg base n_primes "primes" (defScope s_primes) f cdv A0 outer s H E) (defBody s_primes) (t_primes K A) := by
  intro cdv A0 outer s H E hr
  have nd := sc_primes.nd
  have hu := hu_of hr
  have h64 := hr.units
  have hw := hu1_of hr
  exact (sss_cons (ss_if (SW.st (sw_or (st_not (st_tru (se_fn F_is_whole (hr.mono (by decide)) rfl (sa_cons (se_var 0) (sa_cons se_int sa_nil))))) (sw_or1 (st_gt (se_var 0) (se_gint B.MOST_MODULUS rfl))))) (sss_one (ss_raise T_BadModulus hr rfl (by decide) (sa_cons (se_var 0) sa_nil) rfl)) sss_nil)
    (sss_one (ss_ret (se_fn F_factors (hr.mono (by decide)) rfl (sa_cons (se_var 0) sa_nil)))))
theorem ok_primes (B : Bl A mg) (F_is_whole : FnAt P w K mg base 1 "is_whole" ["value", "least"] (c_is_whole K A)) (F_factors : FnAt P w K mg base 1 "factors" ["number"] (c_factors K A)) (T_BadModulus : ErrC P K mg "BadModulus" (A "BadModulus") [("number", "number")]) (D : DefIn K "primes" "primes" s_primes) {h : Heap} (X : K.In h) (Gl : h.Ns mainGlobals mg)
    (len : ∀ ds μ Φ Θ, c_primes K A ds μ Φ Θ → ds.length = 1) (pure : ∀ ds μ Φ Θ, c_primes K A ds μ Φ Θ → t_primes K A (En0 Φ Θ) (startR n_primes ds) μ) : FnAt P w K mg base 2 "primes" ["number"] (c_primes K A) :=
  fnAtD_of D X Gl (fun _ _ _ _ _ _ us hl => match us, hl with | [_], _ => rfl) fun f fd F => okD F sc_primes len (d_primes A B F_is_whole F_factors T_BadModulus) pure
def t__law_pick (K : PySem.W.Frag) (A : Cl) : GS := (gRet (gOp ixU (gVar 1) (gCall (c__law_draw K A) [] (gCons (gVar 0) (gCons (gCB lenD (gCons (gVar 1) gNil)) gNil)))))
abbrev n__law_pick : List Str := ["_law_pen", "_law_items"]
abbrev s__law_pick : Stmt := (topS 13)
theorem sc__law_pick : FnScope n__law_pick ["_law_pen", "_law_items"] (defScope s__law_pick) := ⟨rfl, rfl, rfl, by decide +kernel, rfl, by decide +kernel, by decide +kernel⟩
theorem d__law_pick (B : Bl A mg) (F__law_draw : FnAt P w K mg base 1 "_law_draw" ["_law_pen", "_law_many"] (c__law_draw K A)) {f : Addr} : ∀ (cdv : Value) (A0 : Around) (outer : List PySem.Env) (s : Shared) (H : Hp) (E : XK), Room 1 (A0.deeper (envOfC "_law_pick" (defScope s__law_pick) s.heap.objs.size f cdv)) → 
  SSs (cxOf (L2.CX P w) P w K mg base n__law_pick "_law_pick" (defScope s__law_pick) f cdv A0 outer s H E) (defBody s__law_pick) (t__law_pick K A) := by
  intro cdv A0 outer s H E hr
  have nd := sc__law_pick.nd
  have hu := hu_of hr
  have h64 := hr.units
  have hw := hu1_of hr
  exact (sss_one (ss_ret (se_sub' hu (se_var 1) (se_fn F__law_draw (hr.mono (by decide)) rfl (sa_cons (se_var 0) (sa_cons (se_callB call_len rd_len rfl B.len bt_len (sa_cons (se_var 1) sa_nil)) sa_nil))))))
theorem ok__law_pick (B : Bl A mg) (F__law_draw : FnAt P w K mg base 1 "_law_draw" ["_law_pen", "_law_many"] (c__law_draw K A)) (D : DefIn K "_law_pick" "_law_pick" s__law_pick) {h : Heap} (X : K.In h) (Gl : h.Ns mainGlobals mg)
    (len : ∀ ds μ Φ Θ, c__law_pick K A ds μ Φ Θ → ds.length = 2) (pure : ∀ ds μ Φ Θ, c__law_pick K A ds μ Φ Θ → t__law_pick K A (En0 Φ Θ) (startR n__law_pick ds) μ) : FnAt P w K mg base 2 "_law_pick" ["_law_pen", "_law_items"] (c__law_pick K A) :=
  fnAtD_of D X Gl (fun _ _ _ _ _ _ us hl => match us, hl with | [_, _], _ => rfl) fun f fd F => okD F sc__law_pick len (d__law_pick A B F__law_draw) pure
def t__law_refused (K : PySem.W.Frag) (A : Cl) : GS := (gSeq (gAsg (gC .non) (gN 1))
  (gSeq (gTry K (.ref (A "BadModulus")) 2 (gDrop (gCall (c_primes K A) [] (gCons (gVar 0) gNil))) fun xa xd xC _ => (gAsg (gIf (gTru (gCB (isXR K xa xC xd) (gCons (gVar 2) (gCons (gC (.ptr (A "SumsError"))) gNil)))) (gCB reprD (gCons (gXf K xa xd xC "number" (gVar 2)) gNil)) (gC .non)) (gN 1)))
  (gRet (gVar 1))))
abbrev n__law_refused : List Str := ["_law_value", "_law_told", "e"]
abbrev s__law_refused : Stmt := (topS 15)
theorem sc__law_refused : FnScope n__law_refused ["_law_value"] (defScope s__law_refused) := ⟨rfl, rfl, rfl, by decide +kernel, rfl, by decide +kernel, by decide +kernel⟩
theorem d__law_refused (B : Bl A mg) (F_primes : FnAt P w K mg base 2 "primes" ["number"] (c_primes K A)) {f : Addr} : ∀ (cdv : Value) (A0 : Around) (outer : List PySem.Env) (s : Shared) (H : Hp) (E : XK), Room 2 (A0.deeper (envOfC "_law_refused" (defScope s__law_refused) s.heap.objs.size f cdv)) → (A0.deeper (envOfC "_law_refused" (defScope s__law_refused) s.heap.objs.size f cdv)).guards = some [] →
  SSs (cxOf (L2.CX P w) P w K mg base n__law_refused "_law_refused" (defScope s__law_refused) f cdv A0 outer s H E) (defBody s__law_refused) (t__law_refused K A) := by
  intro cdv A0 outer s H E hr hgd
  have nd := sc__law_refused.nd
  have hu := hu_of hr
  have h64 := hr.units
  have hw := hu1_of hr
  exact (sss_cons (ss_set 1 nd rfl (.inl rfl) se_non)
    (sss_cons (ss_try 2 rfl rfl nd rfl rfl ⟨rfl, by decide, .inl B.c_BadModulus⟩ (fun pn xe po => (sss_one (ss_expr (se_fn F_primes (hr.mono (by decide)) rfl (sa_cons (se_var 0) sa_nil))))) (fun xa oe xC xd pn hz hf => (sss_one (ss_set 1 nd rfl (.inl rfl) (se_if (st_tru (se_isX hz hf rfl B.isinstance (sa_cons (se_var 2) (sa_cons (se_gcls B.c_SumsError rfl) sa_nil)))) (se_callB (cr_repr hgd hw) rd_repr rfl B.repr bt_repr (sa_cons (se_xf hz hf (se_var 2)) sa_nil)) se_non)))))
    (sss_one (ss_ret (se_var 1)))))
theorem ok__law_refused (B : Bl A mg) (F_primes : FnAt P w K mg base 2 "primes" ["number"] (c_primes K A)) (D : DefIn K "_law_refused" "_law_refused" s__law_refused) {h : Heap} (X : K.In h) (Gl : h.Ns mainGlobals mg)
    (len : ∀ ds μ Φ Θ, c__law_refused K A ds μ Φ Θ → ds.length = 1) (pure : ∀ ds μ Φ Θ, c__law_refused K A ds μ Φ Θ → t__law_refused K A (En0 Φ Θ) (startR n__law_refused ds) μ) : FnAtG P w K mg base 3 "_law_refused" ["_law_value"] (c__law_refused K A) :=
  fnAtG_of D X Gl (fun _ _ _ _ _ _ us hl => match us, hl with | [_], _ => rfl) fun f fd F => okG F sc__law_refused len (d__law_refused A B F_primes) pure
def t_law (K : PySem.W.Frag) (A : Cl) : GS := (gSeq (gAsg (gCall (c__law_pen_of K A) [] (gCons (gVar 0) gNil)) (gN 1))
  (gSeq (gFor (iRng1D (gCons (gC (.int 12)) gNil)) (gN 2) (gSeq (gAsg (gOp addD (gC (.int 2)) (gCall (c__law_draw K A) [] (gCons (gVar 1) (gCons (gC (.int 40)) gNil)))) (gN 3))
  (gSeq (gAsg (gLst (gCons (gOp powD (gC (.int 2)) (gC (.int 32))) (gCons (gOp subD (gOp powD (gC (.int 2)) (gC (.int 16))) (gC (.int 1))) (gCons (gC (.int 65521)) (gCons (gOp addD (gOp powD (gC (.int 10)) (gC (.int 9))) (gC (.int 7))) (gCons (gOp addD (gOp mulD (gVar 3) (gOp powD (gC (.int 10)) (gC (.int 30)))) (gC (.int 1))) gNil)))))) (gN 4))
  (gSeq (gAsg (gCall (c__law_pick K A) [] (gCons (gVar 1) (gCons (gOp addD (gLst (gCons (gVar 3) (gCons (gVar 3) (gCons (gOp mulD (gC (.int 6)) (gVar 3)) gNil)))) (gVar 4)) gNil))) (gN 5))
  (gSeq (gAsg (gOp addD (gCall (c__law_draw K A) [] (gCons (gVar 1) (gCons (gVar 5) gNil))) (gOp mulD (gVar 5) (gOp subD (gCall (c__law_draw K A) [] (gCons (gVar 1) (gCons (gC (.int 3)) gNil))) (gC (.int 1))))) (gN 6))
  (gSeq (gAsg (gOp mulD (gVar 6) (gCall (c__law_pick K A) [] (gCons (gVar 1) (gCons (gLst (gCons (gC (.int 1)) (gCons (gC (.int 1)) (gCons (gC (.int 2)) (gCons (gVar 3) gNil))))) gNil)))) (gN 6))
  (gSeq (gPar 7 8 (gCons (gCall (c_inverse K A) [] (gCons (gVar 6) (gCons (gVar 5) gNil))) (gCons (gCall (c__law_common K A) [] (gCons (gVar 6) (gCons (gVar 5) gNil))) gNil)))
  (gSeq (gIfS (gTest (gOp neD (gOp isD (gVar 7) (gC .non)) (gOp neD (gVar 8) (gC (.int 1))))) (gRet (gC (.bl false))) gNext)
  (gSeq (gIfS (gTest (gOp isntD (gVar 7) (gC .non))) (gIfS (gOr (gNot (gTru (gCB (isiR "int") (gCons (gVar 7) (gCons (gC (.ty "int")) gNil))))) (gOr (gNot (gTest (gChain leD ltD (gC (.int 1)) (gVar 7) (gVar 5)))) (gTest (gOp neD (gOp modD (gCB intD (gCons (gOp mulD (gVar 7) (gVar 6)) gNil)) (gVar 5)) (gC (.int 1)))))) (gRet (gC (.bl false))) gNext) gNext)
  (gIfS (gOr (gTest (gOp neD (gCall (c_primes K A) [] (gCons (gVar 3) gNil)) (gCall (c__law_primes K A) [] (gCons (gVar 3) gNil)))) (gNot (gTru (gCB (isiR "tuple") (gCons (gCall (c_primes K A) [] (gCons (gVar 3) gNil)) (gCons (gC (.ty "tuple")) gNil)))))) (gRet (gC (.bl false))) gNext))))))))))
  (gSeq (gPar 9 10 (gCons (gCall (c__law_pick K A) [] (gCons (gVar 1) (gCons (gLst (gCons (gC (.int 2)) (gCons (gC (.int 3)) (gCons (gC (.int 5)) (gCons (gC (.int 17)) (gCons (gC (.int 257)) gNil)))))) gNil))) (gCons (gCall (c__law_pick K A) [] (gCons (gVar 1) (gCons (gLst (gCons (gC (.int 3)) (gCons (gC (.int 7)) (gCons (gC (.int 101)) (gCons (gC (.int 65537)) (gCons (gC (.int 999983)) gNil)))))) gNil))) gNil)))
  (gSeq (gAsg (gCall (c__law_draw K A) [] (gCons (gVar 1) (gCons (gC (.int 4)) gNil))) (gN 11))
  (gSeq (gAsg (gOp ixU (gLst (gCons (gOp mulD (gVar 9) (gVar 10)) (gCons (gOp mulD (gOp mulD (gVar 9) (gVar 9)) (gVar 10)) (gCons (gOp mulD (gVar 9) (gVar 9)) (gCons (gOp mulD (gOp mulD (gVar 9) (gVar 9)) (gVar 9)) gNil))))) (gVar 11)) (gN 6))
  (gSeq (gIfS (gTest (gOp neD (gCall (c_primes K A) [] (gCons (gVar 6) gNil)) (gCB tupleD (gCons (gSortSet (gIf (gTest (gOp ltD (gVar 11) (gC (.int 2)))) (gLst (gCons (gVar 9) (gCons (gVar 10) gNil))) (gLst (gCons (gVar 9) gNil)))) gNil)))) (gRet (gC (.bl false))) gNext)
  (gSeq (gIfS (gOr (gTest (gOp neD (gCall (c_primes K A) [] (gCons (gOp mulD (gC (.int 999983)) (gC (.int 999979))) gNil)) (gTupN (gCons (gC (.int 999979)) (gCons (gC (.int 999983)) gNil))))) (gOr (gTest (gOp neD (gCall (c_primes K A) [] (gCons (gOp powD (gC (.int 10)) (gC (.int 12))) gNil)) (gTupN (gCons (gC (.int 2)) (gCons (gC (.int 5)) gNil))))) (gTest (gOp neD (gCall (c_primes K A) [] (gCons (gOp powD (gC (.int 2)) (gC (.int 39))) gNil)) (gTupN (gCons (gC (.int 2)) gNil)))))) (gRet (gC (.bl false))) gNext)
  (gRet (gNotV (gCB anyD (gCons (gComp (iSeqD (gLst (gCons (gC (.int 1)) (gCons (gC (.int 0)) (gCons (gUn negD (gC (.int 6))) (gCons (gC (.bl true)) (gCons (gC .non) (gCons (gC (.str "6")) (gCons (gLst (gCons (gC (.int 6)) gNil)) (gCons (gOp addD (gOp powD (gC (.int 10)) (gC (.int 12))) (gC (.int 1))) (gCons (gOp powD (gC (.int 10)) (gC (.int 30))) gNil))))))))))) (gN 12) gYes (gOp neD (gCall (c__law_refused K A) [] (gCons (gVar 12) gNil)) (gCB reprD (gCons (gVar 12) gNil))) [12]) gNil)))))))))))
abbrev n_law : List Str := ["_law_script", "_law_pen", "_law_turn", "_law_small", "_law_great", "_law_modulus", "_law_number", "_law_found", "_law_shared", "_law_one", "_law_other", "_law_many", "_law_odd"]
abbrev s_law : Stmt := (topS 17)
theorem sc_law : FnScope n_law ["_law_script"] (defScope s_law) := ⟨rfl, rfl, rfl, by decide +kernel, rfl, by decide +kernel, by decide +kernel⟩
theorem d_law (B : Bl A mg) (F__law_pen_of : FnAt P w K mg base 1 "_law_pen_of" ["_law_script"] (c__law_pen_of K A)) (F__law_draw : FnAt P w K mg base 1 "_law_draw" ["_law_pen", "_law_many"] (c__law_draw K A)) (F__law_pick : FnAt P w K mg base 2 "_law_pick" ["_law_pen", "_law_items"] (c__law_pick K A)) (F__law_common : FnAt P w K mg base 1 "_law_common" ["_law_one", "_law_other"] (c__law_common K A)) (F_inverse : FnAt P w K mg base 2 "inverse" ["number", "modulus"] (c_inverse K A)) (F_primes : FnAt P w K mg base 2 "primes" ["number"] (c_primes K A)) (F__law_primes : FnAt P w K mg base 1 "_law_primes" ["_law_number"] (c__law_primes K A)) (F__law_refused : FnAtG P w K mg base 3 "_law_refused" ["_law_value"] (c__law_refused K A)) {f : Addr} : ∀ (cdv : Value) (A0 : Around) (outer : List PySem.Env) (s : Shared) (H : Hp) (E : XK), Room 3 (A0.deeper (envOfC "law" (defScope s_law) s.heap.objs.size f cdv)) → (A0.deeper (envOfC "law" (defScope s_law) s.heap.objs.size f cdv)).guards = some [] →
  SSs (cxOf (L2.CX P w) P w K mg base n_law "law" (defScope s_law) f cdv A0 outer s H E) (defBody s_law) (t_law K A) := by
  intro cdv A0 outer s H E hr hgd
  have nd := sc_law.nd
  have hu := hu_of hr
  have h64 := hr.units
  have hw := hu1_of hr
  exact (sss_cons (ss_set 1 nd rfl (.inl rfl) (se_fn F__law_pen_of (hr.mono (by decide)) rfl (sa_cons (se_var 0) sa_nil)))
    (sss_cons (ss_for (passes_of rfl) rfl (si_range1 rfl B.range (sa_cons se_int sa_nil)) (sg_name 2 nd rfl (.inl rfl)) (sss_cons (ss_set 3 nd rfl (.inl rfl) (se_add se_int (se_fn F__law_draw (hr.mono (by decide)) rfl (sa_cons (se_var 1) (sa_cons se_int sa_nil)))))
    (sss_cons (ss_set 4 nd rfl (.inl rfl) (se_lst (sa_cons (se_pow se_int se_int) (sa_cons (se_sub (se_pow se_int se_int) se_int) (sa_cons se_int (sa_cons (se_add (se_pow se_int se_int) se_int) (sa_cons (se_add (se_mulI (se_var 3) (se_pow se_int se_int)) se_int) sa_nil)))))))
    (sss_cons (ss_set 5 nd rfl (.inl rfl) (se_fn F__law_pick (hr.mono (by decide)) rfl (sa_cons (se_var 1) (sa_cons (se_add (se_lst (sa_cons (se_var 3) (sa_cons (se_var 3) (sa_cons (se_mulI se_int (se_var 3)) sa_nil)))) (se_var 4)) sa_nil))))
    (sss_cons (ss_set 6 nd rfl (.inl rfl) (se_add (se_fn F__law_draw (hr.mono (by decide)) rfl (sa_cons (se_var 1) (sa_cons (se_var 5) sa_nil))) (se_mulI (se_var 5) (se_sub (se_fn F__law_draw (hr.mono (by decide)) rfl (sa_cons (se_var 1) (sa_cons se_int sa_nil))) se_int))))
    (sss_cons (ss_set 6 nd rfl (.inl rfl) (se_mulI (se_var 6) (se_fn F__law_pick (hr.mono (by decide)) rfl (sa_cons (se_var 1) (sa_cons (se_lst (sa_cons se_int (sa_cons se_int (sa_cons se_int (sa_cons (se_var 3) sa_nil))))) sa_nil)))))
    (sss_cons (ss_par 7 8 rfl nd rfl rfl (by decide) rfl rfl (sa_cons (se_fn F_inverse (hr.mono (by decide)) rfl (sa_cons (se_var 6) (sa_cons (se_var 5) sa_nil))) (sa_cons (se_fn F__law_common (hr.mono (by decide)) rfl (sa_cons (se_var 6) (sa_cons (se_var 5) sa_nil))) sa_nil)))
    (sss_cons (ss_if (st_ne h64 (se_is (se_var 7) se_non) (se_ne h64 (se_var 8) se_int)) (sss_one (ss_ret se_bl)) sss_nil)
    (sss_cons (ss_if (st_isnt (se_var 7) se_non) (sss_one (ss_if (SW.st (sw_or (st_not (st_tru (se_callB call_isi (rd_isi1 (b := "int") (by decide)) rfl B.isinstance bt_isinstance (sa_cons (se_var 7) (sa_cons (se_ty "int" rfl B.int bt_int) sa_nil))))) (sw_or (st_not (st_chain op_le op_lt rd_le rd_lt se_int (se_var 7) (se_var 5))) (sw_or1 (st_ne h64 (se_mod (se_callTy call_int1 rd_int rfl B.int bt_int (sa_cons (se_mulI (se_var 7) (se_var 6)) sa_nil)) (se_var 5)) se_int))))) (sss_one (ss_ret se_bl)) sss_nil)) sss_nil)
    (sss_one (ss_if (SW.st (sw_or (st_ne h64 (se_fn F_primes (hr.mono (by decide)) rfl (sa_cons (se_var 3) sa_nil)) (se_fn F__law_primes (hr.mono (by decide)) rfl (sa_cons (se_var 3) sa_nil))) (sw_or1 (st_not (st_tru (se_callB call_isi (rd_isi1 (b := "tuple") (by decide)) rfl B.isinstance bt_isinstance (sa_cons (se_fn F_primes (hr.mono (by decide)) rfl (sa_cons (se_var 3) sa_nil)) (sa_cons (se_ty "tuple" rfl B.tuple bt_tuple) sa_nil)))))))) (sss_one (ss_ret se_bl)) sss_nil)))))))))))
    (sss_cons (ss_par 9 10 rfl nd rfl rfl (by decide) rfl rfl (sa_cons (se_fn F__law_pick (hr.mono (by decide)) rfl (sa_cons (se_var 1) (sa_cons (se_lst (sa_cons se_int (sa_cons se_int (sa_cons se_int (sa_cons se_int (sa_cons se_int sa_nil)))))) sa_nil))) (sa_cons (se_fn F__law_pick (hr.mono (by decide)) rfl (sa_cons (se_var 1) (sa_cons (se_lst (sa_cons se_int (sa_cons se_int (sa_cons se_int (sa_cons se_int (sa_cons se_int sa_nil)))))) sa_nil))) sa_nil)))
    (sss_cons (ss_set 11 nd rfl (.inl rfl) (se_fn F__law_draw (hr.mono (by decide)) rfl (sa_cons (se_var 1) (sa_cons se_int sa_nil))))
    (sss_cons (ss_set 6 nd rfl (.inl rfl) (se_sub' hu (se_lst (sa_cons (se_mulI (se_var 9) (se_var 10)) (sa_cons (se_mulI (se_mulI (se_var 9) (se_var 9)) (se_var 10)) (sa_cons (se_mulI (se_var 9) (se_var 9)) (sa_cons (se_mulI (se_mulI (se_var 9) (se_var 9)) (se_var 9)) sa_nil))))) (se_var 11)))
    (sss_cons (ss_if (st_ne h64 (se_fn F_primes (hr.mono (by decide)) rfl (sa_cons (se_var 6) sa_nil)) (se_callTy call_tuple_of rd_tuple rfl B.tuple bt_tuple (sa_cons (se_sortSet rfl rfl B.sorted rfl B.set (se_if (st_lt (se_var 11) se_int) (se_lst (sa_cons (se_var 9) (sa_cons (se_var 10) sa_nil))) (se_lst (sa_cons (se_var 9) sa_nil)))) sa_nil))) (sss_one (ss_ret se_bl)) sss_nil)
    (sss_cons (ss_if (SW.st (sw_or (st_ne h64 (se_fn F_primes (hr.mono (by decide)) rfl (sa_cons (se_mulI se_int se_int) sa_nil)) (se_tup (sa_cons se_int (sa_cons se_int sa_nil)))) (sw_or (st_ne h64 (se_fn F_primes (hr.mono (by decide)) rfl (sa_cons (se_pow se_int se_int) sa_nil)) (se_tup (sa_cons se_int (sa_cons se_int sa_nil)))) (sw_or1 (st_ne h64 (se_fn F_primes (hr.mono (by decide)) rfl (sa_cons (se_pow se_int se_int) sa_nil)) (se_tup (sa_cons se_int sa_nil))))))) (sss_one (ss_ret se_bl)) sss_nil)
    (sss_one (ss_ret (se_not (se_callB (cr_any rfl) rd_any rfl B.any bt_any (sa_cons (se_lc (own := [("_law_odd", 12)]) rfl nd (si_seq (se_lst (sa_cons se_int (sa_cons se_int (sa_cons (se_neg se_int) (sa_cons se_bl (sa_cons se_non (sa_cons se_str (sa_cons (se_lst (sa_cons se_int sa_nil)) (sa_cons (se_add (se_pow se_int se_int) se_int) (sa_cons (se_pow se_int se_int) sa_nil))))))))))) (blkOk_by (by kernel_rfl)) (fun _ _ _ _ _ => (sc_name 12 nd rfl (.inl rfl) (by decide))) (fun _ _ _ _ _ => sts_nil) (fun _ _ _ _ _ => (se_ne h64 (se_fnG F__law_refused hgd (hr.mono (by decide)) rfl (sa_cons (se_var 12) sa_nil)) (se_callB (cr_repr hgd hw) rd_repr rfl B.repr bt_repr (sa_cons (se_var 12) sa_nil))))) sa_nil))))))))))))
theorem ok_law (B : Bl A mg) (F__law_pen_of : FnAt P w K mg base 1 "_law_pen_of" ["_law_script"] (c__law_pen_of K A)) (F__law_draw : FnAt P w K mg base 1 "_law_draw" ["_law_pen", "_law_many"] (c__law_draw K A)) (F__law_pick : FnAt P w K mg base 2 "_law_pick" ["_law_pen", "_law_items"] (c__law_pick K A)) (F__law_common : FnAt P w K mg base 1 "_law_common" ["_law_one", "_law_other"] (c__law_common K A)) (F_inverse : FnAt P w K mg base 2 "inverse" ["number", "modulus"] (c_inverse K A)) (F_primes : FnAt P w K mg base 2 "primes" ["number"] (c_primes K A)) (F__law_primes : FnAt P w K mg base 1 "_law_primes" ["_law_number"] (c__law_primes K A)) (F__law_refused : FnAtG P w K mg base 3 "_law_refused" ["_law_value"] (c__law_refused K A)) (D : DefIn K "law" "law" s_law) {h : Heap} (X : K.In h) (Gl : h.Ns mainGlobals mg)
    (len : ∀ ds μ Φ Θ, c_law K A ds μ Φ Θ → ds.length = 1) (pure : ∀ ds μ Φ Θ, c_law K A ds μ Φ Θ → t_law K A (En0 Φ Θ) (startR n_law ds) μ) : FnAtG P w K mg base 4 "law" ["_law_script"] (c_law K A) :=
  fnAtG_of D X Gl (fun _ _ _ _ _ _ us hl => match us, hl with | [_], _ => rfl) fun f fd F => okG F sc_law len (d_law A B F__law_pen_of F__law_draw F__law_pick F__law_common F_inverse F_primes F__law_primes F__law_refused) pure
end
end GL

/-! P20: what the defs of residues do, plain -/
namespace GL
open PySem GD
open L2 (CMulW CDivW CPow Key)
variable {K : PySem.W.Frag} {A : Cl}
theorem p_is_whole : ∀ ds μ Φ Θ, c_is_whole K A ds μ Φ Θ → t_is_whole K A (En0 Φ Θ) (startR n_is_whole ds) μ := by
  rintro ds μ Φ Θ ⟨v, l, rfl, ⟨n, hn⟩, q⟩
  simp only [t_is_whole, gSeq, gAsg, gN, gT, gsCons, gsNil, gVar, gC, gOp, gCons, gNil, gTupN, gLst, gRet, gRetN, gIfS, gIf, gTest, gTru, gNot, gAnd, gOr, gAndV, gOrV, gNotV, gPar, gAug, gCB, gUn, gCall, gNext, gDrop, gSub, gSl, gPart, gNoPart, gApp, gYes, gDisp, gPairs, IBI, IBC, negD, add_int, intD, absD, tru_non, tru_bl, tru_int, tru_tup, tru_lst, isiR, gRaise, gBrk, gCnt, startR, List.map_cons, List.map_nil, List.length_cons, List.length_nil, List.cons_append, List.nil_append, List.append_nil, List.set_cons_zero, List.set_cons_succ, List.getElem?_cons_zero, List.getElem?_cons_succ, List.replicate_succ, List.replicate_zero, Nat.reduceSub, Nat.reduceAdd, Nat.zero_add, Nat.add_zero]
  refine ⟨trivial, n, hn, ?_⟩
  by_cases h : isTyB n "int" = true
  · rw [if_pos h]
    rcases ty_int hn h with ⟨i, rfl⟩ | ⟨b, rfl⟩
    · cases hn
      refine ⟨trivial, "int", rfl, ?_⟩
      rw [if_pos (by decide)]
      exact keepK q
    · cases hn
      refine ⟨trivial, "bool", rfl, ?_⟩
      rw [if_neg (by decide)]
      exact keepK q
  · rw [if_neg h]
    have e : wholeB v l = false := by
      cases v with
      | int i => cases hn; exact absurd (by decide) h
      | _ => rfl
    rw [e] at q
    exact keepK q
theorem p_divisor_of : ∀ ds μ Φ Θ, c_divisor_of K A ds μ Φ Θ → t_divisor_of K A (En0 Φ Θ) (startR n_divisor_of ds) μ := by
  rintro ds μ Φ Θ ⟨a, b, rfl, ha, hab, hl, q⟩
  simp only [t_divisor_of, gSeq, gAsg, gN, gT, gsCons, gsNil, gVar, gC, gOp, gCons, gNil, gTupN, gLst, gRet, gRetN, gIfS, gIf, gTest, gTru, gNot, gAnd, gOr, gAndV, gOrV, gNotV, gPar, gAug, gCB, gUn, gCall, gNext, gDrop, gSub, gSl, gPart, gNoPart, gApp, gYes, gDisp, gPairs, IBI, IBC, negD, add_int, intD, absD, tru_non, tru_bl, tru_int, tru_tup, tru_lst, isiR, gRaise, gBrk, gCnt, startR, List.map_cons, List.map_nil, List.length_cons, List.length_nil, List.cons_append, List.nil_append, List.append_nil, List.set_cons_zero, List.set_cons_succ, List.getElem?_cons_zero, List.getElem?_cons_succ, List.replicate_succ, List.replicate_zero, Nat.reduceSub, Nat.reduceAdd, Nat.zero_add, Nat.add_zero]
  refine ⟨by decide, by decide, by decide, trivial, trivial, ?_⟩
  refine ⟨fun m ρ' μ' => μ' = μ ∧ ∃ r0 r1 s0 s1 t0 t1, m = r1.toNat ∧ Nt.Eu a b r0 r1 s0 s1 t0 t1 ∧ r0 ≤ b ∧ r1 ≤ b ∧ r0 + r1 ≠ 0 ∧ s1.natAbs ≤ b.natAbs ∧ t1.natAbs ≤ b.natAbs ∧ ∃ w, ρ' = [some (.int r0), some (.int r1), some (.tup [.int s0, .int t0]), some (.tup [.int s1, .int t1]), w], ?_, ?_⟩
  · exact ⟨b.toNat, rfl, a, b, 1, 0, 0, 1, rfl, Nt.Eu.start ha (by omega), by omega, by omega, by omega, by simp, by omega, none, rfl⟩
  · rintro m ρ' μ' ⟨rfl, r0, r1, s0, s1, t0, t1, rfl, e, h1, h2, h3, s1b, t1b, w, rfl⟩
    simp only [gSeq, gAsg, gN, gT, gsCons, gsNil, gVar, gC, gOp, gCons, gNil, gTupN, gLst, gRet, gRetN, gIfS, gIf, gTest, gTru, gNot, gAnd, gOr, gAndV, gOrV, gNotV, gPar, gAug, gCB, gUn, gCall, gNext, gDrop, gSub, gSl, gPart, gNoPart, gApp, gYes, gDisp, gPairs, IBI, IBC, negD, add_int, intD, absD, tru_non, tru_bl, tru_int, tru_tup, tru_lst, isiR, gRaise, gBrk, gCnt, startR, List.map_cons, List.map_nil, List.length_cons, List.length_nil, List.cons_append, List.nil_append, List.append_nil, List.set_cons_zero, List.set_cons_succ, List.getElem?_cons_zero, List.getElem?_cons_succ, List.replicate_succ, List.replicate_zero, Nat.reduceSub, Nat.reduceAdd, Nat.zero_add, Nat.add_zero]
    have hb0 : b ≠ 0 := by omega
    by_cases hz : r1 = 0
    · subst hz
      rw [if_neg (by decide)]
      refine ix_tup rfl (ix_tup rfl ⟨by decide, ?_⟩)
      have g := e.gc
      rw [Int.gcd_zero_right] at g
      have e0 := e.e0
      have r0n := e.r0n
      have er : (Int.gcd a b : Int) = r0 := by omega
      rw [← er]
      refine keepK (q s0 t0 ?_)
      rw [er]; exact e0
    · rw [if_pos (by simpa using hz)]
      obtain ⟨e', lt⟩ := e.step hz
      have r0n := e.r0n
      have r1n := e.r1n
      obtain ⟨m1, m2⟩ := e'.small1 hz
      have sm := e.small hz
      have ab : a.natAbs ≤ b.natAbs := by omega
      have r1b : r1.natAbs ≤ b.natAbs := by omega
      have r0b : r0.natAbs ≤ b.natAbs := by omega
      have qb : (r0 / r1).natAbs ≤ b.natAbs := Nat.le_trans (div_abs r0n r1n) r0b
      refine ⟨⟨by omega, lg_mono r1b (by decide) hl⟩, mulOk qb r1b hl hl, ?_⟩
      refine ix_tup rfl (ix_tup rfl ⟨mulOk qb s1b hl hl, ?_⟩)
      refine ix_tup rfl (ix_tup rfl ⟨mulOk qb t1b hl hl, ?_⟩)
      have n1 := e'.r1n
      refine ⟨by decide, _, lt, rfl, r1, _, s1, _, t1, _, rfl, e', h2, by omega, by omega, m1, by omega, _, rfl⟩
theorem p_inverse : ∀ ds μ Φ Θ, c_inverse K A ds μ Φ Θ → t_inverse K A (En0 Φ Θ) (startR n_inverse ds) μ := by
  rintro ds μ Φ Θ ⟨a, m, rfl, hm, hl, q1, q2⟩
  simp only [t_inverse, gSeq, gAsg, gN, gT, gsCons, gsNil, gVar, gC, gOp, gCons, gNil, gTupN, gLst, gRet, gRetN, gIfS, gIf, gTest, gTru, gNot, gAnd, gOr, gAndV, gOrV, gNotV, gPar, gAug, gCB, gUn, gCall, gNext, gDrop, gSub, gSl, gPart, gNoPart, gApp, gYes, gDisp, gPairs, IBI, IBC, negD, add_int, intD, absD, tru_non, tru_bl, tru_int, tru_tup, tru_lst, isiR, gRaise, gBrk, gCnt, startR, List.map_cons, List.map_nil, List.length_cons, List.length_nil, List.cons_append, List.nil_append, List.append_nil, List.set_cons_zero, List.set_cons_succ, List.getElem?_cons_zero, List.getElem?_cons_succ, List.replicate_succ, List.replicate_zero, Nat.reduceSub, Nat.reduceAdd, Nat.zero_add, Nat.add_zero]
  have h0 := Int.emod_nonneg a (show m ≠ 0 by omega)
  have h1 := Int.emod_lt_of_pos a (show 0 < m by omega)
  refine ⟨by show 0 < m; omega, a % m, m, rfl, h0, h1, hl, fun x y hxy => ?_⟩
  have eg : Int.gcd (a % m) m = Int.gcd a m := by
    have z := Int.gcd_add_mul_right_left m (a % m) (a / m)
    have e : a % m + a / m * m = a := by have := Int.mul_ediv_add_emod a m; rw [Int.mul_comm] at this; omega
    rw [e] at z; exact z.symm
  refine ⟨rfl, rfl, eq_int ?_⟩
  rw [eg] at hxy ⊢
  dsimp only
  by_cases h : Int.gcd a m = 1
  · rw [h] at hxy ⊢
    rw [if_pos (by decide)]
    have r0 := Int.emod_nonneg x (show m ≠ 0 by omega)
    have r1 := Int.emod_lt_of_pos x (show 0 < m by omega)
    have key : (x % m * a) % m = 1 := by
      have e1 : (x % m * a) % m = (x * (a % m)) % m := by
        rw [Int.mul_emod (x % m) a, Int.emod_emod, Int.mul_emod x (a % m), Int.emod_emod]
      have e2 : x * (a % m) = 1 + (-y) * m := by rw [Int.neg_mul]; simp at hxy; omega
      rw [e1, e2, Int.add_mul_emod_self_right]
      exact Int.emod_eq_of_lt (by decide) (by omega)
    refine ⟨by show 0 < m; omega, keepK (q2 h _ ?_ r1 key)⟩
    by_cases z : x % m = 0
    · rw [z, Int.zero_mul, Int.zero_emod] at key
      cases key
    · omega
  · have h' : ¬ ((Int.gcd a m : Int) = 1) := by omega
    rw [decide_eq_false h', if_neg (by decide)]
    exact keepK (q1 h)
theorem natsD_app (a : List Nat) (b : Nat) : natsD a ++ [D.int (b : Int)] = natsD (a ++ [b]) := by simp [natsD]
theorem natsD_len (a : List Nat) : (natsD a).length = a.length := by simp [natsD]
theorem p_factors : ∀ ds μ Φ Θ, c_factors K A ds μ Φ Θ → t_factors K A (En0 Φ Θ) (startR n_factors ds) μ := by
  rintro ds μ Φ Θ ⟨N, rfl, h1, h2, q⟩
  simp only [t_factors, gSeq, gAsg, gN, gT, gsCons, gsNil, gVar, gC, gOp, gCons, gNil, gTupN, gLst, gRet, gRetN, gIfS, gIf, gTest, gTru, gNot, gAnd, gOr, gAndV, gOrV, gNotV, gPar, gAug, gCB, gUn, gCall, gNext, gDrop, gSub, gSl, gPart, gNoPart, gApp, gYes, gDisp, gPairs, IBI, IBC, negD, add_int, intD, absD, tru_non, tru_bl, tru_int, tru_tup, tru_lst, isiR, gRaise, gBrk, gCnt, startR, List.map_cons, List.map_nil, List.length_cons, List.length_nil, List.cons_append, List.nil_append, List.append_nil, List.set_cons_zero, List.set_cons_succ, List.getElem?_cons_zero, List.getElem?_cons_succ, List.replicate_succ, List.replicate_zero, Nat.reduceSub, Nat.reduceAdd, Nat.zero_add, Nat.add_zero]
  refine ⟨by decide, .ow fun p hp => ?_⟩
  refine ⟨fun m ρ' μ' => ∃ found d k, Nt.Fs N found d k ∧ ρ' = [some (.int (k : Nat)), some (.ptr p), some (.int (d : Nat))] ∧ μ' = updM μ p (.lst (natsD found)) ∧ 2 ^ found.length * k ≤ N ∧ d ≤ N + 2 ∧ m = k + 1 - d, ⟨_, [], 2, N, Nt.Fs.start h1, rfl, rfl, by simp, by omega, rfl⟩, ?_⟩
  rintro m ρ' μ' ⟨found, d, k, s, rfl, rfl, hpw, hdN, rfl⟩
  simp only [gSeq, gAsg, gN, gT, gsCons, gsNil, gVar, gC, gOp, gCons, gNil, gTupN, gLst, gRet, gRetN, gIfS, gIf, gTest, gTru, gNot, gAnd, gOr, gAndV, gOrV, gNotV, gPar, gAug, gCB, gUn, gCall, gNext, gDrop, gSub, gSl, gPart, gNoPart, gApp, gYes, gDisp, gPairs, IBI, IBC, negD, add_int, intD, absD, tru_non, tru_bl, tru_int, tru_tup, tru_lst, isiR, gRaise, gBrk, gCnt, startR, List.map_cons, List.map_nil, List.length_cons, List.length_nil, List.cons_append, List.nil_append, List.append_nil, List.set_cons_zero, List.set_cons_succ, List.getElem?_cons_zero, List.getElem?_cons_succ, List.replicate_succ, List.replicate_zero, Nat.reduceSub, Nat.reduceAdd, Nat.zero_add, Nat.add_zero]
  have d2 := s.d2
  have k1 := s.m1
  have dlt := Nt.nextD_lt d
  have dl : d.log2 < 9000 := lg_mono (m := 10 ^ 12 + 2) (by omega) (by decide) (by decide +kernel)
  have flen : found.length < 40 := by
    rcases Nat.lt_or_ge found.length 40 with z | z
    · exact z
    · have a1 : 2 ^ 40 ≤ 2 ^ found.length := Nat.pow_le_pow_right (by decide) z
      have a2 := Nat.mul_le_mul a1 k1
      have a3 : (2 : Nat) ^ 40 = 1099511627776 := by decide
      omega
  refine ⟨mulOk (n := d) (m := d) (by omega) (by omega) dl dl, ?_⟩
  have step : ∀ (found' : List Nat) (k' : Nat) (μ1 : Mu), d ≤ k → Nt.Fs N found' (Nt.nextD d) k' → k' ≤ k → 2 ^ found'.length * k' ≤ N → μ1 = updM μ p (.lst (natsD found')) → ∀ d' : Int, d' = (Nt.nextD d : Nat) →
      ∃ m', m' < k + 1 - d ∧ ∃ found d_1 k_1, Nt.Fs N found d_1 k_1 ∧ ([some (.int (k' : Nat)), some (.ptr p), some (.int d')] : Rho) = [some (.int (k_1 : Nat)), some (.ptr p), some (.int (d_1 : Nat))] ∧ μ1 = updM μ p (.lst (natsD found)) ∧ 2 ^ found.length * k_1 ≤ N ∧ d_1 ≤ N + 2 ∧ m' = k_1 + 1 - d_1 := by
    intro found' k' μ1 hdk f1 f2 f3 f4 d' f5
    refine ⟨_, ?_, found', Nt.nextD d, k', f1, by rw [f5], f4, f3, ?_, rfl⟩
    · omega
    · have : k ≤ N := Nat.le_of_dvd h1 s.dv
      unfold Nt.nextD; split <;> omega
  by_cases hdk : d * d ≤ k
  · have hle : (d : Int) * d ≤ k := by have := Int.ofNat_le.mpr hdk; simpa using this
    rw [if_pos (decide_eq_true hle)]
    have dk : d ≤ k := Nat.le_trans (Nat.le_mul_of_pos_left d (by omega)) hdk
    refine ⟨by show 0 < (d : Int); omega, eq_int ?_⟩
    dsimp only
    have em : ∀ z : Nat, ((z : Int) % (d : Int) = 0) ↔ d ∣ z := fun z => by
      rw [← Int.natCast_emod]
      exact ⟨fun h => Nat.dvd_of_mod_eq_zero (by omega), fun h => by rw [Nat.mod_eq_zero_of_dvd h]; rfl⟩
    by_cases hdv : d ∣ k
    · rw [if_pos (decide_eq_true ((em k).mpr hdv))]
      refine ⟨⟨_, updM_same⟩, _, updM_same, by rw [natsD_len]; exact Nat.lt_trans flen (by decide), ?_⟩
      refine ⟨fun m ρ' μ' => ∃ k', Nt.Gs N found d k k' ∧ ρ' = [some (.int (k' : Nat)), some (.ptr p), some (.int (d : Nat))] ∧ μ' = updM μ p (.lst (natsD (found ++ [d]))) ∧ k' = m, ⟨_, k, Nt.Gs.start s, rfl, by rw [updM_updM, natsD_app], rfl⟩, ?_⟩
      rintro m ρ' μ' ⟨k', g, rfl, rfl, rfl⟩
      simp only [gSeq, gAsg, gN, gT, gsCons, gsNil, gVar, gC, gOp, gCons, gNil, gTupN, gLst, gRet, gRetN, gIfS, gIf, gTest, gTru, gNot, gAnd, gOr, gAndV, gOrV, gNotV, gPar, gAug, gCB, gUn, gCall, gNext, gDrop, gSub, gSl, gPart, gNoPart, gApp, gYes, gDisp, gPairs, IBI, IBC, negD, add_int, intD, absD, tru_non, tru_bl, tru_int, tru_tup, tru_lst, isiR, gRaise, gBrk, gCnt, startR, List.map_cons, List.map_nil, List.length_cons, List.length_nil, List.cons_append, List.nil_append, List.append_nil, List.set_cons_zero, List.set_cons_succ, List.getElem?_cons_zero, List.getElem?_cons_succ, List.replicate_succ, List.replicate_zero, Nat.reduceSub, Nat.reduceAdd, Nat.zero_add, Nat.add_zero]
      refine ⟨by show 0 < (d : Int); omega, eq_int ?_⟩
      dsimp only
      by_cases hdv' : d ∣ k'
      · rw [if_pos (decide_eq_true ((em k').mpr hdv'))]
        obtain ⟨g', lt⟩ := Nt.Gs.step s g hdv'
        refine ⟨⟨by omega, by simpa using dl⟩, _, lt, _, g', by rw [Int.natCast_ediv], rfl, rfl⟩
      · rw [if_neg (by rw [decide_eq_true_eq, em]; exact hdv')]
        have st := s.take hdv g hdv'
        have hk' : 2 * k' ≤ k := by
          obtain ⟨c, hc⟩ := g.dv
          have c2 : 2 ≤ c := by
            rcases Nat.lt_or_ge c 2 with z | z
            · have : c = 0 ∨ c = 1 := by omega
              rcases this with rfl | rfl
              · simp at hc; omega
              · simp at hc; exact absurd (hc ▸ hdv) hdv'
            · exact z
          rw [hc, Nat.mul_comm 2]
          exact Nat.mul_le_mul_left k' c2
        have hp2 : 2 ^ (found ++ [d]).length * k' ≤ N := by
          rw [List.length_append, List.length_singleton, Nat.pow_succ, Nat.mul_assoc]
          exact Nat.le_trans (Nat.mul_le_mul_left _ hk') hpw
        refine eq_int ?_
        dsimp only
        by_cases e2 : d = 2
        · rw [if_pos (by simp [e2])]
          exact step _ k' _ dk st (by omega) hp2 rfl _ (by simp [Nt.nextD, e2])
        · rw [if_neg (by simp; omega)]
          exact step _ k' _ dk st (by omega) hp2 rfl _ (by simp [Nt.nextD, e2])
    · rw [if_neg (by rw [decide_eq_true_eq, em]; exact hdv)]
      have st := s.over hdv
      refine eq_int ?_
      dsimp only
      by_cases e2 : d = 2
      · rw [if_pos (by simp [e2])]
        exact step _ k _ dk st (Nat.le_refl _) hpw rfl _ (by simp [Nt.nextD, e2])
      · rw [if_neg (by simp; omega)]
        exact step _ k _ dk st (Nat.le_refl _) hpw rfl _ (by simp [Nt.nextD, e2])
  · have hle : ¬ ((d : Int) * d ≤ k) := fun z => hdk (Int.ofNat_le.mp (by simpa using z))
    rw [if_neg (by rw [decide_eq_true_eq]; exact hle)]
    have fin := s.last (by omega)
    by_cases hk : 1 < k
    · rw [if_pos (decide_eq_true (by omega))]
      rw [if_pos hk] at fin
      refine ⟨by decide, .fr (add_lst updM_same rfl (by rw [natsD_len]; simp; exact Nat.le_trans (by omega : found.length + 1 ≤ 41) (by decide)) (.fr (tup_q rfl ?_)))⟩
      rw [natsD_app]
      exact dropK1 hp (q _ fin)
    · rw [if_neg (by rw [decide_eq_true_eq]; omega)]
      rw [if_neg hk] at fin
      refine tup_q updM_same ?_
      exact dropK1 hp (q _ fin)
theorem p_primes : ∀ ds μ Φ Θ, c_primes K A ds μ Φ Θ → t_primes K A (En0 Φ Θ) (startR n_primes ds) μ := by
  rintro ds μ Φ Θ ⟨v, rfl, ⟨n, hn⟩, q⟩
  simp only [t_primes, gSeq, gAsg, gN, gT, gsCons, gsNil, gVar, gC, gOp, gCons, gNil, gTupN, gLst, gRet, gRetN, gIfS, gIf, gTest, gTru, gNot, gAnd, gOr, gAndV, gOrV, gNotV, gPar, gAug, gCB, gUn, gCall, gNext, gDrop, gSub, gSl, gPart, gNoPart, gApp, gYes, gDisp, gPairs, IBI, IBC, negD, add_int, intD, absD, tru_non, tru_bl, tru_int, tru_tup, tru_lst, isiR, gRaise, gBrk, gCnt, startR, List.map_cons, List.map_nil, List.length_cons, List.length_nil, List.cons_append, List.nil_append, List.append_nil, List.set_cons_zero, List.set_cons_succ, List.getElem?_cons_zero, List.getElem?_cons_succ, List.replicate_succ, List.replicate_zero, Nat.reduceSub, Nat.reduceAdd, Nat.zero_add, Nat.add_zero]
  refine ⟨v, 2, rfl, ⟨n, hn⟩, ?_⟩
  dsimp only
  rw [tru_bl]
  rcases q with ⟨N, rfl, n1, n2, q⟩ | ⟨no, q⟩
  · have e : wholeB (.int (N : Int)) 2 = true := decide_eq_true (by omega)
    rw [e, if_neg (by decide)]
    simp only [gSeq, gAsg, gN, gT, gsCons, gsNil, gVar, gC, gOp, gCons, gNil, gTupN, gLst, gRet, gRetN, gIfS, gIf, gTest, gTru, gNot, gAnd, gOr, gAndV, gOrV, gNotV, gPar, gAug, gCB, gUn, gCall, gNext, gDrop, gSub, gSl, gPart, gNoPart, gApp, gYes, gDisp, gPairs, IBI, IBC, negD, add_int, intD, absD, tru_non, tru_bl, tru_int, tru_tup, tru_lst, isiR, gRaise, gBrk, gCnt, startR, List.map_cons, List.map_nil, List.length_cons, List.length_nil, List.cons_append, List.nil_append, List.append_nil, List.set_cons_zero, List.set_cons_succ, List.getElem?_cons_zero, List.getElem?_cons_succ, List.replicate_succ, List.replicate_zero, Nat.reduceSub, Nat.reduceAdd, Nat.zero_add, Nat.add_zero]
    rw [if_neg (by rw [decide_eq_true_eq]; omega)]
    exact ⟨N, rfl, by omega, n2, fun ps h => keepK (q ps h)⟩
  · by_cases w : wholeB v 2 = true
    · rw [w, if_neg (by decide)]
      cases v with
      | int i =>
        have i2 : 2 ≤ i := of_decide_eq_true w
        simp only [gSeq, gAsg, gN, gT, gsCons, gsNil, gVar, gC, gOp, gCons, gNil, gTupN, gLst, gRet, gRetN, gIfS, gIf, gTest, gTru, gNot, gAnd, gOr, gAndV, gOrV, gNotV, gPar, gAug, gCB, gUn, gCall, gNext, gDrop, gSub, gSl, gPart, gNoPart, gApp, gYes, gDisp, gPairs, IBI, IBC, negD, add_int, intD, absD, tru_non, tru_bl, tru_int, tru_tup, tru_lst, isiR, gRaise, gBrk, gCnt, startR, List.map_cons, List.map_nil, List.length_cons, List.length_nil, List.cons_append, List.nil_append, List.append_nil, List.set_cons_zero, List.set_cons_succ, List.getElem?_cons_zero, List.getElem?_cons_succ, List.replicate_succ, List.replicate_zero, Nat.reduceSub, Nat.reduceAdd, Nat.zero_add, Nat.add_zero]
        rcases no i rfl with z | z
        · omega
        · rw [if_pos (decide_eq_true (by omega))]
          exact ⟨trivial, keepT q⟩
      | _ => cases w
    · have e : wholeB v 2 = false := by simpa using w
      rw [e, if_pos (by decide), if_pos trivial]
      exact ⟨trivial, keepT q⟩
theorem p__law_common : ∀ ds μ Φ Θ, c__law_common K A ds μ Φ Θ → t__law_common K A (En0 Φ Θ) (startR n__law_common ds) μ := by
  rintro ds μ Φ Θ ⟨a, b, rfl, q⟩
  simp only [t__law_common, gSeq, gAsg, gN, gT, gsCons, gsNil, gVar, gC, gOp, gCons, gNil, gTupN, gLst, gRet, gRetN, gIfS, gIf, gTest, gTru, gNot, gAnd, gOr, gAndV, gOrV, gNotV, gPar, gAug, gCB, gUn, gCall, gNext, gDrop, gSub, gSl, gPart, gNoPart, gApp, gYes, gDisp, gPairs, IBI, IBC, negD, add_int, intD, absD, tru_non, tru_bl, tru_int, tru_tup, tru_lst, isiR, gRaise, gBrk, gCnt, startR, List.map_cons, List.map_nil, List.length_cons, List.length_nil, List.cons_append, List.nil_append, List.append_nil, List.set_cons_zero, List.set_cons_succ, List.getElem?_cons_zero, List.getElem?_cons_succ, List.replicate_succ, List.replicate_zero, Nat.reduceSub, Nat.reduceAdd, Nat.zero_add, Nat.add_zero]
  refine ⟨fun m ρ' μ' => ∃ x y : Nat, Nat.gcd x y = Int.gcd a b ∧ ρ' = [some (.int (x : Nat)), some (.int (y : Nat))] ∧ μ' = μ ∧ y = m, ⟨_, a.natAbs, b.natAbs, rfl, ?_, rfl, rfl⟩, ?_⟩
  · have ea : (if a < 0 then -a else a) = (a.natAbs : Int) := by split <;> omega
    have eb : (if b < 0 then -b else b) = (b.natAbs : Int) := by split <;> omega
    rw [ea, eb]
  · rintro m ρ' μ' ⟨x, y, g, rfl, rfl, rfl⟩
    simp only [gSeq, gAsg, gN, gT, gsCons, gsNil, gVar, gC, gOp, gCons, gNil, gTupN, gLst, gRet, gRetN, gIfS, gIf, gTest, gTru, gNot, gAnd, gOr, gAndV, gOrV, gNotV, gPar, gAug, gCB, gUn, gCall, gNext, gDrop, gSub, gSl, gPart, gNoPart, gApp, gYes, gDisp, gPairs, IBI, IBC, negD, add_int, intD, absD, tru_non, tru_bl, tru_int, tru_tup, tru_lst, isiR, gRaise, gBrk, gCnt, startR, List.map_cons, List.map_nil, List.length_cons, List.length_nil, List.cons_append, List.nil_append, List.append_nil, List.set_cons_zero, List.set_cons_succ, List.getElem?_cons_zero, List.getElem?_cons_succ, List.replicate_succ, List.replicate_zero, Nat.reduceSub, Nat.reduceAdd, Nat.zero_add, Nat.add_zero]
    by_cases h : 0 < y
    · rw [if_pos (decide_eq_true (by omega))]
      refine ⟨by show 0 < (y : Int); omega, x % y, Nat.mod_lt _ h, y, x % y, ?_, by rw [Int.natCast_emod], trivial, rfl⟩
      rw [← g, Nat.gcd_comm y, ← Nat.gcd_rec, Nat.gcd_comm]
    · rw [if_neg (by rw [decide_eq_true_eq]; omega)]
      have e : y = 0 := by omega
      subst e
      rw [Nat.gcd_zero_right] at g
      rw [← g] at q
      exact keepK q
/-- what the classes of the text must say -/
structure Ex20 (K : PySem.W.Frag) (A : Cl) : Prop where
  exm : PySem.W.exmOne K (.ref (A "BadModulus")) (.ref (A "BadModulus")) = some true
  ed : ExcD K (A "BadModulus")
  kit : PySem.W.kitOne K (.ref (A "BadModulus")) (.ref (A "SumsError")) = some true
  nn : PySem.W.findIn K (.ref (A "BadModulus")) "number" = some none
theorem ex20_mk {K : PySem.W.Frag} {C S : Addr} (a : PySem.W.nsIn K mainGlobals "BadModulus" = some (some (.ref C))) (b : PySem.W.nsIn K mainGlobals "SumsError" = some (some (.ref S)))
    (h1 : PySem.W.findIn K (.ref C) "__getattribute__" = some (some (.builtin "BaseException.__getattribute__"))) (h2 : PySem.W.findIn K (.ref C) "__getattr__" = some none) (h3 : PySem.W.subIn K (.ref C) (.type "BaseException") = some true)
    (h4 : PySem.W.hasDictIn K C = true) (h5 : PySem.W.isClsIn K C = true) (h6 : PySem.W.findIn K (.ref C) "__class__" = some (some (.builtin "object.__class__"))) (h7 : PySem.W.specialIn K (.builtin "object.__class__") "__get__" = some (some (.builtin "getset_descriptor.__get__")))
    (h8 : PySem.W.takesIn K (.builtin "object.__class__") = some true) (h9 : PySem.W.mroIn K C (.type "object") = some true) (h10 : PySem.W.typeIn K (.ref C) = some (.type "type")) (h11 : PySem.W.subIn K (.ref C) (.ref C) = some true)
    (h12 : PySem.W.kitOne K (.ref C) (.ref S) = some true) (h13 : PySem.W.findIn K (.ref C) "number" = some none) : Ex20 K (clOf K) := by
  have e1 : clOf K "BadModulus" = C := clOf_at a
  have e2 : clOf K "SumsError" = S := clOf_at b
  exact ⟨by rw [e1]; exact PySem.W.exm_ref h3 h4 h10 h11, by rw [e1]; exact ⟨h1, h2, h3, h4, h5, h6, h7, h8, h9⟩, by rw [e1, e2]; exact h12, by rw [e1]; exact h13⟩
theorem p__law_refused (T : Ex20 K A) : ∀ ds μ Φ Θ, c__law_refused K A ds μ Φ Θ → t__law_refused K A (En0 Φ Θ) (startR n__law_refused ds) μ := by
  rintro ds μ Φ Θ ⟨v, rfl, hn, hv, sh, q⟩
  simp only [t__law_refused, gTry, gSeq, gAsg, gN, gT, gsCons, gsNil, gVar, gC, gOp, gCons, gNil, gTupN, gLst, gRet, gRetN, gIfS, gIf, gTest, gTru, gNot, gAnd, gOr, gAndV, gOrV, gNotV, gPar, gAug, gCB, gUn, gCall, gNext, gDrop, gSub, gSl, gPart, gNoPart, gApp, gYes, gDisp, gPairs, IBI, IBC, negD, add_int, intD, absD, tru_non, tru_bl, tru_int, tru_tup, tru_lst, isiR, gRaise, gBrk, gCnt, startR, List.map_cons, List.map_nil, List.length_cons, List.length_nil, List.cons_append, List.nil_append, List.append_nil, List.set_cons_zero, List.set_cons_succ, List.getElem?_cons_zero, List.getElem?_cons_succ, List.replicate_succ, List.replicate_zero, Nat.reduceSub, Nat.reduceAdd, Nat.zero_add, Nat.add_zero]
  refine ⟨v, rfl, hn, .inr ⟨hv, true, T.exm, fun _ a d => ?_, fun z => by cases z⟩⟩
  refine ⟨_, true, _, rfl, T.ed, T.kit, ?_⟩
  dsimp only
  rw [tru_bl, if_pos rfl]
  refine ⟨T.ed.xf, T.nn, ?_⟩
  simp only [gSeq, gAsg, gN, gT, gsCons, gsNil, gVar, gC, gOp, gCons, gNil, gTupN, gLst, gRet, gRetN, gIfS, gIf, gTest, gTru, gNot, gAnd, gOr, gAndV, gOrV, gNotV, gPar, gAug, gCB, gUn, gCall, gNext, gDrop, gSub, gSl, gPart, gNoPart, gApp, gYes, gDisp, gPairs, IBI, IBC, negD, add_int, intD, absD, tru_non, tru_bl, tru_int, tru_tup, tru_lst, isiR, gRaise, gBrk, gCnt, startR, List.map_cons, List.map_nil, List.length_cons, List.length_nil, List.cons_append, List.nil_append, List.append_nil, List.set_cons_zero, List.set_cons_succ, List.getElem?_cons_zero, List.getElem?_cons_succ, List.replicate_succ, List.replicate_zero, Nat.reduceSub, Nat.reduceAdd, Nat.zero_add, Nat.add_zero]
  refine ⟨_, v, rfl, rfl, v, rfl, sh, ?_⟩
  simp only [EnSu, gSeq, gAsg, gN, gT, gsCons, gsNil, gVar, gC, gOp, gCons, gNil, gTupN, gLst, gRet, gRetN, gIfS, gIf, gTest, gTru, gNot, gAnd, gOr, gAndV, gOrV, gNotV, gPar, gAug, gCB, gUn, gCall, gNext, gDrop, gSub, gSl, gPart, gNoPart, gApp, gYes, gDisp, gPairs, IBI, IBC, negD, add_int, intD, absD, tru_non, tru_bl, tru_int, tru_tup, tru_lst, isiR, gRaise, gBrk, gCnt, startR, List.map_cons, List.map_nil, List.length_cons, List.length_nil, List.cons_append, List.nil_append, List.append_nil, List.set_cons_zero, List.set_cons_succ, List.getElem?_cons_zero, List.getElem?_cons_succ, List.replicate_succ, List.replicate_zero, Nat.reduceSub, Nat.reduceAdd, Nat.zero_add, Nat.add_zero]
  exact keepK q
/-- what the trial of one prime gives -/
def divB (k : Int) : D → D
  | .int z => .bl (decide (k % z = 0))
  | _ => .non
theorem p__law_primes : ∀ ds μ Φ Θ, c__law_primes K A ds μ Φ Θ → t__law_primes K A (En0 Φ Θ) (startR n__law_primes ds) μ := by
  rintro ds μ Φ Θ ⟨N, rfl, h1, h2, q⟩
  simp only [t__law_primes, iRng2D, gSeq, gAsg, gN, gT, gsCons, gsNil, gVar, gC, gOp, gCons, gNil, gTupN, gLst, gRet, gRetN, gIfS, gIf, gTest, gTru, gNot, gAnd, gOr, gAndV, gOrV, gNotV, gPar, gAug, gCB, gUn, gCall, gNext, gDrop, gSub, gSl, gPart, gNoPart, gApp, gYes, gDisp, gPairs, IBI, IBC, negD, add_int, intD, absD, tru_non, tru_bl, tru_int, tru_tup, tru_lst, isiR, gRaise, gBrk, gCnt, startR, List.map_cons, List.map_nil, List.length_cons, List.length_nil, List.cons_append, List.nil_append, List.append_nil, List.set_cons_zero, List.set_cons_succ, List.getElem?_cons_zero, List.getElem?_cons_succ, List.replicate_succ, List.replicate_zero, Nat.reduceSub, Nat.reduceAdd, Nat.zero_add, Nat.add_zero]
  refine ⟨by decide, .ow fun p hp => ?_⟩
  refine ⟨⟨by decide, by decide⟩, ⟨by omega, by omega⟩, ?_⟩
  have e : ((N : Int) + 1 - 2).toNat = N - 1 := by omega
  rw [e]
  refine ⟨fun i ρ' μ' => ∃ ps, Nt.Upto N (i + 2) ps ∧ μ' = updM μ p (.lst (natsD ps)) ∧ ps.length ≤ i ∧ ∃ w, ρ' = [some (.int (N : Nat)), some (.ptr p), w, none], ⟨[], Nt.Upto.start N, rfl, Nat.le_refl _, _, rfl⟩, fun _ _ _ _ => trivial, ?_, ?_⟩
  · rintro i d ρ' μ' hd ⟨ps, u, rfl, hl, w, rfl⟩
    rw [rngL_get] at hd
    split at hd
    · rename_i hi
      cases hd
      have st := u.step (by omega) (by omega)
      simp only [gSeq, gAsg, gN, gT, gsCons, gsNil, gVar, gC, gOp, gCons, gNil, gTupN, gLst, gRet, gRetN, gIfS, gIf, gTest, gTru, gNot, gAnd, gOr, gAndV, gOrV, gNotV, gPar, gAug, gCB, gUn, gCall, gNext, gDrop, gSub, gSl, gPart, gNoPart, gApp, gYes, gDisp, gPairs, IBI, IBC, negD, add_int, intD, absD, tru_non, tru_bl, tru_int, tru_tup, tru_lst, isiR, gRaise, gBrk, gCnt, startR, List.map_cons, List.map_nil, List.length_cons, List.length_nil, List.cons_append, List.nil_append, List.append_nil, List.set_cons_zero, List.set_cons_succ, List.getElem?_cons_zero, List.getElem?_cons_succ, List.replicate_succ, List.replicate_zero, Nat.reduceSub, Nat.reduceAdd, Nat.zero_add, Nat.add_zero]
      refine ⟨by show (0 : Int) < 2 + i; omega, eq_int ?_⟩
      dsimp only
      have em : ((N : Int) % (2 + (i : Int)) = 0) ↔ i + 2 ∣ N := by
        have e1 : (2 + (i : Int)) = ((i + 2 : Nat) : Int) := by omega
        rw [e1, ← Int.natCast_emod]
        exact ⟨fun h => Nat.dvd_of_mod_eq_zero (by omega), fun h => by rw [Nat.mod_eq_zero_of_dvd h]; rfl⟩
      by_cases hdv : i + 2 ∣ N
      · rw [if_pos (decide_eq_true (em.mpr hdv))]
        have pos : ∀ q ∈ ps, 0 < q := fun q hq => by have := ((u.2 q).mp hq).1.1; omega
        refine comp_seq (d := .ptr p) (μ1 := updM μ p (.lst (natsD ps))) (l := natsD ps) (fun _ => true) (divB (2 + (i : Int))) (fun Ψ h => h) updM_same (by rw [natsD_len]; exact Nat.le_trans (by omega : ps.length ≤ 1000) (by decide)) ?_ ?_
        · intro d hd μ' Ψ N' hy _
          obtain ⟨q, hq, rfl⟩ := List.mem_map.mp hd
          simp only [wipeR, gSeq, gAsg, gN, gT, gsCons, gsNil, gVar, gC, gOp, gCons, gNil, gTupN, gLst, gRet, gRetN, gIfS, gIf, gTest, gTru, gNot, gAnd, gOr, gAndV, gOrV, gNotV, gPar, gAug, gCB, gUn, gCall, gNext, gDrop, gSub, gSl, gPart, gNoPart, gApp, gYes, gDisp, gPairs, IBI, IBC, negD, add_int, intD, absD, tru_non, tru_bl, tru_int, tru_tup, tru_lst, isiR, gRaise, gBrk, gCnt, startR, List.map_cons, List.map_nil, List.length_cons, List.length_nil, List.cons_append, List.nil_append, List.append_nil, List.set_cons_zero, List.set_cons_succ, List.getElem?_cons_zero, List.getElem?_cons_succ, List.replicate_succ, List.replicate_zero, Nat.reduceSub, Nat.reduceAdd, Nat.zero_add, Nat.add_zero]
          rw [if_pos trivial]
          refine ⟨by show 0 < (q : Int); have := pos q hq; omega, eq_int ?_⟩
          exact hy rfl
        · rw [filter_yes]
          have eb : (natsD ps).map (divB (2 + (i : Int))) = (ps.map fun (q : Nat) => decide ((2 + (i : Int)) % (q : Int) = 0)).map D.bl := by
            unfold natsD
            rw [List.map_map, List.map_map]
            rfl
          rw [eb]
          refine .fr (any_fr ?_)
          rw [tru_bl]
          have ev : (∀ q ∈ ps, ¬ q ∣ i + 2) ↔ (!((ps.map fun (q : Nat) => decide ((2 + (i : Int)) % (q : Int) = 0)).any id)) = true := by
            rw [Bool.not_eq_true', List.any_eq_false]
            have em2 : ∀ q : Nat, ((2 + (i : Int)) % (q : Int) = 0) ↔ q ∣ i + 2 := fun q => by
              have e1 : (2 + (i : Int)) = ((i + 2 : Nat) : Int) := by omega
              rw [e1, ← Int.natCast_emod]
              exact ⟨fun h => Nat.dvd_of_mod_eq_zero (by omega), fun h => by rw [Nat.mod_eq_zero_of_dvd h]; rfl⟩
            constructor
            · intro h x hx
              obtain ⟨q, hq, rfl⟩ := List.mem_map.mp hx
              rw [id, decide_eq_true_eq, em2]
              exact h q hq
            · intro h q hq hd
              exact h _ (List.mem_map.mpr ⟨q, hq, rfl⟩) (by rw [id, decide_eq_true_eq, em2]; exact hd)
          by_cases hev : ∀ q ∈ ps, ¬ q ∣ i + 2
          · rw [if_pos (ev.mp hev)]
            rw [if_pos ⟨hdv, hev⟩] at st
            refine ⟨⟨_, updM_same⟩, _, updM_same, by rw [natsD_len]; exact Nat.lt_of_le_of_lt (by omega : ps.length ≤ 1000) (by decide), ps ++ [i + 2], st, ?_, by simp; omega, _, rfl⟩
            have e2 : (2 + (i : Int)) = ((i + 2 : Nat) : Int) := by omega
            rw [updM_updM, e2, natsD_app]
          · rw [if_neg (fun z => hev (ev.mpr z))]
            rw [if_neg (fun z => hev z.2)] at st
            exact ⟨ps, st, rfl, by omega, _, rfl⟩
      · rw [if_neg (by rw [decide_eq_true_eq, em]; exact hdv)]
        rw [if_neg (fun z => hdv z.1)] at st
        simp only [Bool.false_eq_true, if_false]
        exact ⟨ps, st, rfl, by omega, _, rfl⟩
    · cases hd
  · rintro ρ' μ' ⟨ps, u, rfl, hl, w, rfl⟩
    have len : (rngL 2 (N - 1)).length = N - 1 := by simp [rngL]
    rw [len] at u
    simp only [gSeq, gAsg, gN, gT, gsCons, gsNil, gVar, gC, gOp, gCons, gNil, gTupN, gLst, gRet, gRetN, gIfS, gIf, gTest, gTru, gNot, gAnd, gOr, gAndV, gOrV, gNotV, gPar, gAug, gCB, gUn, gCall, gNext, gDrop, gSub, gSl, gPart, gNoPart, gApp, gYes, gDisp, gPairs, IBI, IBC, negD, add_int, intD, absD, tru_non, tru_bl, tru_int, tru_tup, tru_lst, isiR, gRaise, gBrk, gCnt, startR, List.map_cons, List.map_nil, List.length_cons, List.length_nil, List.cons_append, List.nil_append, List.append_nil, List.set_cons_zero, List.set_cons_succ, List.getElem?_cons_zero, List.getElem?_cons_succ, List.replicate_succ, List.replicate_zero, Nat.reduceSub, Nat.reduceAdd, Nat.zero_add, Nat.add_zero]
    refine tup_q updM_same ?_
    exact dropK1 hp (q _ (u.last (by omega) (by omega)))
end GL

/-! Pa: the pen, plain -/
namespace GL
open PySem GD
open L2 (CMulW CDivW CPow Key)
variable {K : PySem.W.Frag} {A : Cl}
theorem p__law_pen_of : ∀ ds μ Φ Θ, c__law_pen_of K A ds μ Φ Θ → t__law_pen_of K A (En0 Φ Θ) (startR n__law_pen_of ds) μ := by
  rintro ds μ Φ Θ ⟨ns, rfl, hl, q⟩
  simp only [t__law_pen_of, gSeq, gAsg, gN, gT, gsCons, gsNil, gVar, gC, gOp, gCons, gNil, gTupN, gLst, gRet, gRetN, gIfS, gIf, gTest, gTru, gNot, gAnd, gOr, gAndV, gOrV, gNotV, gPar, gAug, gCB, gUn, gCall, gNext, gDrop, gSub, gSl, gPart, gNoPart, gApp, gYes, gDisp, gPairs, IBI, IBC, negD, add_int, intD, absD, tru_non, tru_bl, tru_int, tru_tup, tru_lst, isiR, gRaise, gBrk, gCnt, startR, List.map_cons, List.map_nil, List.length_cons, List.length_nil, List.cons_append, List.nil_append, List.append_nil, List.set_cons_zero, List.set_cons_succ, List.getElem?_cons_zero, List.getElem?_cons_succ, List.replicate_succ, List.replicate_zero, Nat.reduceSub, Nat.reduceAdd, Nat.zero_add, Nat.add_zero]
  intro p hp
  refine ⟨_, rfl, .fr (list_q rfl (.fr ⟨updM_same, ?_⟩))⟩
  rw [updM_updM]
  have e : cutD (ns.map D.int) none (some 63) = (ns.take 63).map D.int := by
    unfold cutD
    simp only [HT.sIx]
    rw [List.drop_zero, List.map_take]
    rw [if_neg (by decide)]
    by_cases h : ns.length ≤ 63
    · rw [List.take_of_length_le (by simp; omega), List.take_of_length_le (by simp; omega)]
    · congr 1
      simp
      omega
  rw [e]
  exact keepK (q p (ns.take 63) hp (by simp; omega))
theorem dv_cells (cs : List Int) (i l : Int) : dval [((.inr "cells" : Key), D.lst (cs.map D.int)), (.inr "next", .int i), (.inr "left", .int l)] (.inr "cells") = some (.lst (cs.map D.int)) := rfl
theorem p__law_draw : ∀ ds μ Φ Θ, c__law_draw K A ds μ Φ Θ → t__law_draw K A (En0 Φ Θ) (startR n__law_draw ds) μ := by
  rintro ds μ Φ Θ ⟨p, n, B, rfl, ⟨cs, i, l, hp, hc, hi, hiB, hl⟩, ⟨hn, hn2⟩, hB, q⟩
  simp only [t__law_draw, gSeq, gAsg, gN, gT, gsCons, gsNil, gVar, gC, gOp, gCons, gNil, gTupN, gLst, gRet, gRetN, gIfS, gIf, gTest, gTru, gNot, gAnd, gOr, gAndV, gOrV, gNotV, gPar, gAug, gCB, gUn, gCall, gNext, gDrop, gSub, gSl, gPart, gNoPart, gApp, gYes, gDisp, gPairs, IBI, IBC, negD, add_int, intD, absD, tru_non, tru_bl, tru_int, tru_tup, tru_lst, isiR, gRaise, gBrk, gCnt, startR, List.map_cons, List.map_nil, List.length_cons, List.length_nil, List.cons_append, List.nil_append, List.append_nil, List.set_cons_zero, List.set_cons_succ, List.getElem?_cons_zero, List.getElem?_cons_succ, List.replicate_succ, List.replicate_zero, Nat.reduceSub, Nat.reduceAdd, Nat.zero_add, Nat.add_zero]
  refine ix_key (d := .int l) hp rfl ?_
  simp only [gSeq, gAsg, gN, gT, gsCons, gsNil, gVar, gC, gOp, gCons, gNil, gTupN, gLst, gRet, gRetN, gIfS, gIf, gTest, gTru, gNot, gAnd, gOr, gAndV, gOrV, gNotV, gPar, gAug, gCB, gUn, gCall, gNext, gDrop, gSub, gSl, gPart, gNoPart, gApp, gYes, gDisp, gPairs, IBI, IBC, negD, add_int, intD, absD, tru_non, tru_bl, tru_int, tru_tup, tru_lst, isiR, gRaise, gBrk, gCnt, startR, List.map_cons, List.map_nil, List.length_cons, List.length_nil, List.cons_append, List.nil_append, List.append_nil, List.set_cons_zero, List.set_cons_succ, List.getElem?_cons_zero, List.getElem?_cons_succ, List.replicate_succ, List.replicate_zero, Nat.reduceSub, Nat.reduceAdd, Nat.zero_add, Nat.add_zero]
  have m0 := fun z : Int => Int.emod_nonneg z (show n ≠ 0 by omega)
  have m1 := fun z : Int => Int.emod_lt_of_pos z hn
  by_cases h0 : 0 < l
  · rw [if_pos (decide_eq_true h0)]
    refine ix_key (d := .int l) hp rfl ?_
    dsimp only
    refine ⟨hn, ix_key (d := .int l) hp rfl ?_⟩
    simp only [gSeq, gAsg, gN, gT, gsCons, gsNil, gVar, gC, gOp, gCons, gNil, gTupN, gLst, gRet, gRetN, gIfS, gIf, gTest, gTru, gNot, gAnd, gOr, gAndV, gOrV, gNotV, gPar, gAug, gCB, gUn, gCall, gNext, gDrop, gSub, gSl, gPart, gNoPart, gApp, gYes, gDisp, gPairs, IBI, IBC, negD, add_int, intD, absD, tru_non, tru_bl, tru_int, tru_tup, tru_lst, isiR, gRaise, gBrk, gCnt, startR, List.map_cons, List.map_nil, List.length_cons, List.length_nil, List.cons_append, List.nil_append, List.append_nil, List.set_cons_zero, List.set_cons_succ, List.getElem?_cons_zero, List.getElem?_cons_succ, List.replicate_succ, List.replicate_zero, Nat.reduceSub, Nat.reduceAdd, Nat.zero_add, Nat.add_zero]
    refine ⟨⟨hn, hn2⟩, set_key hp (by show 3 < LIM; decide) (keepK ?_)⟩
    exact q (l % n) cs i (l / n) (m0 _) (m1 _) hc hi (by omega) (Int.ediv_nonneg hl (by omega))
  · rw [if_neg (by rw [decide_eq_true_eq]; exact h0)]
    refine ix_key (d := .int i) hp rfl (ix_key (d := .lst (cs.map D.int)) hp rfl (len_q (l := cs.map D.int) rfl ?_))
    simp only [gSeq, gAsg, gN, gT, gsCons, gsNil, gVar, gC, gOp, gCons, gNil, gTupN, gLst, gRet, gRetN, gIfS, gIf, gTest, gTru, gNot, gAnd, gOr, gAndV, gOrV, gNotV, gPar, gAug, gCB, gUn, gCall, gNext, gDrop, gSub, gSl, gPart, gNoPart, gApp, gYes, gDisp, gPairs, IBI, IBC, negD, add_int, intD, absD, tru_non, tru_bl, tru_int, tru_tup, tru_lst, isiR, gRaise, gBrk, gCnt, startR, List.map_cons, List.map_nil, List.length_cons, List.length_nil, List.cons_append, List.nil_append, List.append_nil, List.set_cons_zero, List.set_cons_succ, List.getElem?_cons_zero, List.getElem?_cons_succ, List.replicate_succ, List.replicate_zero, Nat.reduceSub, Nat.reduceAdd, Nat.zero_add, Nat.add_zero]
    refine set_key hp (by show 3 < LIM; decide) (eq_int ?_)
    have hp2 : updM μ p (penO cs (i + 1) l) p = some (penO cs (i + 1) l) := updM_same
    dsimp only
    rw [List.length_map]
    by_cases hs : cs.length = 0
    · rw [if_pos (decide_eq_true (by omega))]
      refine ⟨mulOk (n := 10 ^ 40) (m := 10 ^ 40) (by omega) (by omega) (by decide +kernel) (by decide +kernel), hn, keepK ?_⟩
      exact q _ cs (i + 1) l (m0 _) (m1 _) hc (by omega) (by omega) hl
    · rw [if_neg (by rw [decide_eq_true_eq]; omega)]
      refine ix_key (d := .lst (cs.map D.int)) hp2 rfl ?_
      have r0 := Int.emod_nonneg i (show (cs.length : Int) ≠ 0 by omega)
      have r1 := Int.emod_lt_of_pos i (show 0 < (cs.length : Int) by omega)
      have hlt : (i % (cs.length : Int)).toNat < cs.length := by omega
      refine ⟨by show 0 < (cs.length : Int); omega, ix_q (l := cs.map D.int) (d := .int (cs[(i % (cs.length : Int)).toNat])) rfl ?_ ?_⟩
      · unfold L2.atI L2.ixN
        rw [if_pos r0, if_pos (by simpa using r1)]
        simp [List.getElem?_eq_getElem hlt]
      · generalize cs[(i % (cs.length : Int)).toNat] = c
        simp only [gSeq, gAsg, gN, gT, gsCons, gsNil, gVar, gC, gOp, gCons, gNil, gTupN, gLst, gRet, gRetN, gIfS, gIf, gTest, gTru, gNot, gAnd, gOr, gAndV, gOrV, gNotV, gPar, gAug, gCB, gUn, gCall, gNext, gDrop, gSub, gSl, gPart, gNoPart, gApp, gYes, gDisp, gPairs, IBI, IBC, negD, add_int, intD, absD, tru_non, tru_bl, tru_int, tru_tup, tru_lst, isiR, gRaise, gBrk, gCnt, startR, List.map_cons, List.map_nil, List.length_cons, List.length_nil, List.cons_append, List.nil_append, List.append_nil, List.set_cons_zero, List.set_cons_succ, List.getElem?_cons_zero, List.getElem?_cons_succ, List.replicate_succ, List.replicate_zero, Nat.reduceSub, Nat.reduceAdd, Nat.zero_add, Nat.add_zero]
        have S : ∀ a b : Int, a.natAbs ≤ 10 ^ 40 → b.natAbs ≤ 10 ^ 40 → CMulW a b := fun a b ha hb => mulOk ha hb (by decide +kernel) (by decide +kernel)
        have cp : CPow 10 18 := ⟨by decide, by decide, by decide⟩
        by_cases hix : i < (cs.length : Int)
        · rw [if_pos (decide_eq_true hix)]
          refine ⟨cp, ?_⟩
          by_cases big : (10 : Int) ^ Int.toNat 18 ≤ (if c < 0 then -c else c)
          · rw [if_pos (decide_eq_true big)]
            refine ⟨cp, ⟨hn, hn2⟩, set_key hp2 (by show 3 < LIM; decide) ⟨cp, hn, keepK ?_⟩⟩
            rw [updM_updM]
            exact q _ cs (i + 1) _ (m0 _) (m1 _) hc (by omega) (by omega) (Int.ediv_nonneg (by omega) (by omega))
          · rw [if_neg (by rw [decide_eq_true_eq]; exact big)]
            generalize hy1 : c % 4294967197 = y1
            have b1 : 0 ≤ y1 ∧ y1 < 4294967197 := by rw [← hy1]; exact ⟨Int.emod_nonneg _ (by decide), Int.emod_lt_of_pos _ (by decide)⟩
            generalize hy2 : (y1 * 52711 + 20353 * i * i + 1531 * i + 11) % 4294967189 = y2
            have b2 : 0 ≤ y2 ∧ y2 < 4294967189 := by rw [← hy2]; exact ⟨Int.emod_nonneg _ (by decide), Int.emod_lt_of_pos _ (by decide)⟩
            generalize hy3 : (y2 * y2 + 68903 * y2 + 23 * i + 7) % 4294967161 = y3
            have b3 : 0 ≤ y3 ∧ y3 < 4294967161 := by rw [← hy3]; exact ⟨Int.emod_nonneg _ (by decide), Int.emod_lt_of_pos _ (by decide)⟩
            exact ⟨by show (0 : Int) < 4294967197; decide, S _ _ (by omega) (by omega), S _ _ (by omega) (by omega), S _ _ (by omega) (by omega), S _ _ (by omega) (by omega), by show (0 : Int) < 4294967189; decide, S _ _ (by omega) (by omega), S _ _ (by omega) (by omega), S _ _ (by omega) (by omega), by show (0 : Int) < 4294967161; decide, S _ _ (by omega) (by omega), by show (0 : Int) < 4294967143; decide, ⟨by decide, by decide +kernel⟩, hn, keepK (q _ cs (i + 1) l (m0 _) (m1 _) hc (by omega) (by omega) hl)⟩
        · rw [if_neg (by rw [decide_eq_true_eq]; exact hix)]
          generalize hy1 : c % 4294967197 = y1
          have b1 : 0 ≤ y1 ∧ y1 < 4294967197 := by rw [← hy1]; exact ⟨Int.emod_nonneg _ (by decide), Int.emod_lt_of_pos _ (by decide)⟩
          generalize hy2 : (y1 * 52711 + 20353 * i * i + 1531 * i + 11) % 4294967189 = y2
          have b2 : 0 ≤ y2 ∧ y2 < 4294967189 := by rw [← hy2]; exact ⟨Int.emod_nonneg _ (by decide), Int.emod_lt_of_pos _ (by decide)⟩
          generalize hy3 : (y2 * y2 + 68903 * y2 + 23 * i + 7) % 4294967161 = y3
          have b3 : 0 ≤ y3 ∧ y3 < 4294967161 := by rw [← hy3]; exact ⟨Int.emod_nonneg _ (by decide), Int.emod_lt_of_pos _ (by decide)⟩
          exact ⟨by show (0 : Int) < 4294967197; decide, S _ _ (by omega) (by omega), S _ _ (by omega) (by omega), S _ _ (by omega) (by omega), S _ _ (by omega) (by omega), by show (0 : Int) < 4294967189; decide, S _ _ (by omega) (by omega), S _ _ (by omega) (by omega), S _ _ (by omega) (by omega), by show (0 : Int) < 4294967161; decide, S _ _ (by omega) (by omega), by show (0 : Int) < 4294967143; decide, ⟨by decide, by decide +kernel⟩, hn, keepK (q _ cs (i + 1) l (m0 _) (m1 _) hc (by omega) (by omega) hl)⟩
theorem p__law_pick : ∀ ds μ Φ Θ, c__law_pick K A ds μ Φ Θ → t__law_pick K A (En0 Φ Θ) (startR n__law_pick ds) μ := by
  rintro ds μ Φ Θ ⟨p, d, xs, B, rfl, hp, hd, ne, nn, hl, hB, q⟩
  simp only [t__law_pick, gSeq, gAsg, gN, gT, gsCons, gsNil, gVar, gC, gOp, gCons, gNil, gTupN, gLst, gRet, gRetN, gIfS, gIf, gTest, gTru, gNot, gAnd, gOr, gAndV, gOrV, gNotV, gPar, gAug, gCB, gUn, gCall, gNext, gDrop, gSub, gSl, gPart, gNoPart, gApp, gYes, gDisp, gPairs, IBI, IBC, negD, add_int, intD, absD, tru_non, tru_bl, tru_int, tru_tup, tru_lst, isiR, gRaise, gBrk, gCnt, startR, List.map_cons, List.map_nil, List.length_cons, List.length_nil, List.cons_append, List.nil_append, List.append_nil, List.set_cons_zero, List.set_cons_succ, List.getElem?_cons_zero, List.getElem?_cons_succ, List.replicate_succ, List.replicate_zero, Nat.reduceSub, Nat.reduceAdd, Nat.zero_add, Nat.add_zero]
  refine len_q hd ?_
  have h1 : 1 ≤ xs.length := by
    cases xs with
    | nil => exact absurd rfl nn
    | cons _ _ => simp
  have hL : LIM = 16000000 := rfl
  refine ⟨p, (xs.length : Int), B, rfl, hp, ⟨by omega, lg_mono (m := 16000000) (by omega) (by decide) (by decide +kernel)⟩, hB, fun x cs i l x0 x1 c1 c2 c3 c4 => ?_⟩
  have hx : x.toNat < xs.length := by omega
  refine ix_q (l := xs) (d := xs[x.toNat]) ?_ ?_ (keepK (q _ cs i l (List.getElem_mem hx) c1 c2 c3 c4))
  · cases d with
    | ptr r =>
      have hr : μ r = some (.lst xs) := hd
      show updM μ p _ r = _
      rw [updM_ne (fun z => ne (by rw [z]))]
      exact hr
    | _ => exact hd
  · unfold L2.atI L2.ixN
    rw [if_pos x0, if_pos (by omega)]
    simp [List.getElem?_eq_getElem hx]
/-- the pen at p over what else is owned, after at most B draws -/
def PM (μ0 : Mu) (p : Addr) (B : Nat) (μ : Mu) : Prop := ∃ (cs : List Int) (i l : Int), μ = updM μ0 p (penO cs i l) ∧ cs.length ≤ 63 ∧ 0 ≤ i ∧ i ≤ B ∧ 0 ≤ l
theorem PM.mono {μ0 μ : Mu} {p : Addr} {B C : Nat} (h : PM μ0 p B μ) (hb : B ≤ C) : PM μ0 p C μ := by
  obtain ⟨cs, i, l, a, b, c, d, e⟩ := h
  exact ⟨cs, i, l, a, b, c, by omega, e⟩
theorem draw_at {μ0 μ : Mu} {p : Addr} {B : Nat} {n : Int} {Φ : Kd} {Θ : Th} (h : PM μ0 p B μ) (hn : Sz n) (hB : B ≤ 1000000) (q : ∀ x μ', 0 ≤ x → x < n → PM μ0 p (B + 1) μ' → Φ (.int x) μ') : c__law_draw K A [.ptr p, .int n] μ Φ Θ := by
  obtain ⟨cs, i, l, rfl, b, c, d, e⟩ := h
  refine ⟨p, n, B, rfl, ⟨cs, i, l, updM_same, b, c, d, e⟩, hn, hB, fun x cs' i' l' x0 x1 b' c' d' e' => ?_⟩
  rw [updM_updM]
  exact q x _ x0 x1 ⟨cs', i', l', rfl, b', c', d', e'⟩
theorem pick_at {μ0 μ : Mu} {p : Addr} {B : Nat} {xs : List D} {Φ : Kd} {Θ : Th} (h : PM μ0 p B μ) (hx : xs ≠ []) (hl : xs.length ≤ LIM) (hB : B ≤ 1000000) (q : ∀ x μ', x ∈ xs → PM μ0 p (B + 1) μ' → Φ x μ') : c__law_pick K A [.ptr p, .lst xs] μ Φ Θ := by
  obtain ⟨cs, i, l, rfl, b, c, d, e⟩ := h
  refine ⟨p, .lst xs, xs, B, rfl, ⟨cs, i, l, updM_same, b, c, d, e⟩, rfl, (fun z => by cases z), hx, hl, hB, fun x cs' i' l' x0 b' c' d' e' => ?_⟩
  rw [updM_updM]
  exact q x _ x0 ⟨cs', i', l', rfl, b', c', d', e'⟩
/-- a small size -/
theorem sz {n : Int} (h1 : 0 < n) (h2 : n ≤ 10 ^ 40) : Sz n := ⟨h1, lg_mono (m := 10 ^ 40) (by omega) (by decide) (by decide +kernel)⟩
theorem mulS {a b : Int} (ha : a.natAbs ≤ 10 ^ 200) (hb : b.natAbs ≤ 10 ^ 200) : CMulW a b := mulOk ha hb (by decide +kernel) (by decide +kernel)
end GL

/-! Pl20: the law of residues, plain -/
namespace GL
open PySem PySem.Spec GD
open L2 (CMulW CDivW CPow Key)
variable {K : PySem.W.Frag} {A : Cl}
theorem natsD_int (ps : List Nat) : natsD ps = (ps.map fun (p : Nat) => (p : Int)).map D.int := by
  unfold natsD
  rw [List.map_map]
  rfl
theorem ne_nats {μ : Mu} {Φ : Kd} {ps : List Nat} (q : Φ (.bl false) μ) : neD (.tup (natsD ps)) (.tup (natsD ps)) μ Φ := by
  rw [natsD_int]
  refine ne_tup ?_
  rw [decide_eq_true rfl]
  exact q
/-- primes(n), n in range -/
theorem primes_at {n : Int} {μ : Mu} {Φ : Kd} {Θ : Th} (h1 : 2 ≤ n) (h2 : n ≤ 10 ^ 12) (q : ∀ ps, Nt.IsPF n.toNat ps → Φ (.tup (natsD ps)) μ) : c_primes K A [.int n] μ Φ Θ :=
  ⟨.int n, rfl, ⟨"int", rfl⟩, .inl ⟨n.toNat, by rw [Int.toNat_of_nonneg (by omega)], by omega, by omega, q⟩⟩
theorem primes_same {n : Int} {μ : Mu} {Φ : Kd} {Θ : Th} (h1 : 2 ≤ n) (h2 : n ≤ 1000) (q : Φ (.bl false) μ) : c_primes K A [.int n] μ (fun d1 μ1 => c__law_primes K A [.int n] μ1 (fun d2 μ2 => neD d1 d2 μ2 Φ) Θ) Θ :=
  primes_at h1 (by omega) fun ps hps => ⟨n.toNat, by rw [Int.toNat_of_nonneg (by omega)], by omega, by omega, fun qs hqs => by
    rw [hps.uniq hqs]
    exact ne_nats q⟩
/-- primes(n) against what they are -/
theorem primes_are {n : Int} {μ : Mu} {Φ : Kd} {Θ : Th} {ps : List Nat} (h1 : 2 ≤ n) (h2 : n ≤ 10 ^ 12) (hp : Nt.IsPF n.toNat ps) (q : Φ (.bl false) μ) : c_primes K A [.int n] μ (fun d1 μ1 => neD d1 (.tup (natsD ps)) μ1 Φ) Θ :=
  primes_at h1 h2 fun qs hqs => by
    rw [hqs.uniq hp]
    exact ne_nats q
/-- what primes refuses -/
def odds : List D := [.int 1, .int 0, .int (-6), .bl true, .non, .str "6", .lst [.int 6], .int (10 ^ Int.toNat 12 + 1), .int (10 ^ Int.toNat 30)]
theorem odd_pm (d : D) (hd : d ∈ odds) (μ : Mu) : toPm μ d = toP d := by
  simp only [odds, List.mem_cons, List.not_mem_nil, or_false] at hd
  rcases hd with rfl | rfl | rfl | rfl | rfl | rfl | rfl | rfl | rfl <;> rfl
theorem odd_ok (d : D) (hd : d ∈ odds) (μ : Mu) : (∃ n, tyName μ d = some n) ∧ (∀ N : Int, d = .int N → N < 2 ∨ 10 ^ 12 < N) ∧ ShowOk (toPm μ d) := by
  rw [odd_pm d hd μ]
  simp only [odds, List.mem_cons, List.not_mem_nil, or_false] at hd
  rcases hd with rfl | rfl | rfl | rfl | rfl | rfl | rfl | rfl | rfl
  · exact ⟨⟨_, rfl⟩, fun N e => by cases e; decide, by decide +kernel, by decide +kernel, by decide +kernel, by decide +kernel, by decide +kernel⟩
  · exact ⟨⟨_, rfl⟩, fun N e => by cases e; decide, by decide +kernel, by decide +kernel, by decide +kernel, by decide +kernel, by decide +kernel⟩
  · exact ⟨⟨_, rfl⟩, fun N e => by cases e; decide, by decide +kernel, by decide +kernel, by decide +kernel, by decide +kernel, by decide +kernel⟩
  · exact ⟨⟨_, rfl⟩, (fun N e => by cases e), by decide +kernel, by decide +kernel, by decide +kernel, by decide +kernel, by decide +kernel⟩
  · exact ⟨⟨_, rfl⟩, (fun N e => by cases e), by decide +kernel, by decide +kernel, by decide +kernel, by decide +kernel, by decide +kernel⟩
  · exact ⟨⟨_, rfl⟩, (fun N e => by cases e), by decide +kernel, by decide +kernel, by decide +kernel, by decide +kernel, by decide +kernel⟩
  · exact ⟨⟨_, rfl⟩, (fun N e => by cases e), by decide +kernel, by decide +kernel, by decide +kernel, by decide +kernel, by decide +kernel⟩
  · exact ⟨⟨_, rfl⟩, fun N e => by cases e; decide, by decide +kernel, by decide +kernel, by decide +kernel, by decide +kernel, by decide +kernel⟩
  · exact ⟨⟨_, rfl⟩, fun N e => by cases e; decide, by decide +kernel, by decide +kernel, by decide +kernel, by decide +kernel, by decide +kernel⟩
theorem odd_str (d : D) (hd : d ∈ odds) (μ : Mu) : PySem.SeqAt.shaped (.str (toPm μ d).shown) = true := by
  rw [odd_pm d hd μ]
  simp only [odds, List.mem_cons, List.not_mem_nil, or_false] at hd
  rcases hd with rfl | rfl | rfl | rfl | rfl | rfl | rfl | rfl | rfl <;> decide +kernel
theorem p_law : ∀ ds μ Φ Θ, c_law K A ds μ Φ Θ → t_law K A (En0 Φ Θ) (startR n_law ds) μ := by
  rintro ds μ Φ Θ ⟨ns, rfl, rfl, hl, rfl⟩
  simp only [t_law, gSeq, gAsg, gN, gT, gsCons, gsNil, gVar, gC, gOp, gCons, gNil, gTupN, gLst, gRet, gRetN, gIfS, gIf, gTest, gTru, gNot, gAnd, gOr, gAndV, gOrV, gNotV, gPar, gAug, gCB, gUn, gCall, gNext, gDrop, gSub, gSl, gPart, gNoPart, gApp, gYes, gDisp, gPairs, IBI, IBC, negD, add_int, intD, absD, tru_non, tru_bl, tru_int, tru_tup, tru_lst, isiR, gRaise, gBrk, gCnt, startR, List.map_cons, List.map_nil, List.length_cons, List.length_nil, List.cons_append, List.nil_append, List.append_nil, List.set_cons_zero, List.set_cons_succ, List.getElem?_cons_zero, List.getElem?_cons_succ, List.replicate_succ, List.replicate_zero, Nat.reduceSub, Nat.reduceAdd, Nat.zero_add, Nat.add_zero]
  refine ⟨ns, rfl, Nat.le_trans hl (by decide), fun p cs _ hcs => ?_⟩
  have hp0 : PM (fun _ => none) p 0 (updM (fun _ => none) p (penO cs 0 0)) := ⟨cs, 0, 0, rfl, hcs, by decide, by decide, by decide⟩
  generalize updM (fun _ => none) p (penO cs 0 0) = μ0 at hp0
  simp only [iRng1D, gSeq, gAsg, gN, gT, gsCons, gsNil, gVar, gC, gOp, gCons, gNil, gTupN, gLst, gRet, gRetN, gIfS, gIf, gTest, gTru, gNot, gAnd, gOr, gAndV, gOrV, gNotV, gPar, gAug, gCB, gUn, gCall, gNext, gDrop, gSub, gSl, gPart, gNoPart, gApp, gYes, gDisp, gPairs, IBI, IBC, negD, add_int, intD, absD, tru_non, tru_bl, tru_int, tru_tup, tru_lst, isiR, gRaise, gBrk, gCnt, startR, List.map_cons, List.map_nil, List.length_cons, List.length_nil, List.cons_append, List.nil_append, List.append_nil, List.set_cons_zero, List.set_cons_succ, List.getElem?_cons_zero, List.getElem?_cons_succ, List.replicate_succ, List.replicate_zero, Nat.reduceSub, Nat.reduceAdd, Nat.zero_add, Nat.add_zero]
  refine ⟨⟨by decide, by decide⟩, ?_⟩
  refine ⟨fun i ρ' μ' => PM (fun _ => none) p (10 * i) μ' ∧ ∃ w2 w3 w4 w5 w6 w7 w8, ρ' = [some (.rdl (ns.map D.int)), some (.ptr p), w2, w3, w4, w5, w6, w7, w8, none, none, none, none], ⟨hp0, _, _, _, _, _, _, _, rfl⟩, fun _ _ _ _ => trivial, ?_, ?_⟩
  · rintro i d ρ' μ' hd ⟨hp, w2, w3, w4, w5, w6, w7, w8, rfl⟩
    rw [rngL_get] at hd
    split at hd
    · rename_i hi
      have hi : i < 12 := hi
      cases hd
      simp only [gSeq, gAsg, gN, gT, gsCons, gsNil, gVar, gC, gOp, gCons, gNil, gTupN, gLst, gRet, gRetN, gIfS, gIf, gTest, gTru, gNot, gAnd, gOr, gAndV, gOrV, gNotV, gPar, gAug, gCB, gUn, gCall, gNext, gDrop, gSub, gSl, gPart, gNoPart, gApp, gYes, gDisp, gPairs, IBI, IBC, negD, add_int, intD, absD, tru_non, tru_bl, tru_int, tru_tup, tru_lst, isiR, gRaise, gBrk, gCnt, startR, List.map_cons, List.map_nil, List.length_cons, List.length_nil, List.cons_append, List.nil_append, List.append_nil, List.set_cons_zero, List.set_cons_succ, List.getElem?_cons_zero, List.getElem?_cons_succ, List.replicate_succ, List.replicate_zero, Nat.reduceSub, Nat.reduceAdd, Nat.zero_add, Nat.add_zero]
      refine draw_at hp (sz (by decide) (by decide)) (by omega) fun x μ1 x0 x1 hp => ?_
      simp only [gSeq, gAsg, gN, gT, gsCons, gsNil, gVar, gC, gOp, gCons, gNil, gTupN, gLst, gRet, gRetN, gIfS, gIf, gTest, gTru, gNot, gAnd, gOr, gAndV, gOrV, gNotV, gPar, gAug, gCB, gUn, gCall, gNext, gDrop, gSub, gSl, gPart, gNoPart, gApp, gYes, gDisp, gPairs, IBI, IBC, negD, add_int, intD, absD, tru_non, tru_bl, tru_int, tru_tup, tru_lst, isiR, gRaise, gBrk, gCnt, startR, List.map_cons, List.map_nil, List.length_cons, List.length_nil, List.cons_append, List.nil_append, List.append_nil, List.set_cons_zero, List.set_cons_succ, List.getElem?_cons_zero, List.getElem?_cons_succ, List.replicate_succ, List.replicate_zero, Nat.reduceSub, Nat.reduceAdd, Nat.zero_add, Nat.add_zero, Int.reduceToNat, Int.reducePow, Int.reduceSub, Int.reduceAdd, gChain]
      refine ⟨⟨by decide, by decide, by decide⟩, ⟨by decide, by decide, by decide⟩, ⟨by decide, by decide, by decide⟩, ⟨by decide, by decide, by decide⟩, mulS (by omega) (by decide), by decide, .fr ⟨mulS (by decide) (by omega), by decide, .fr (add_lst rfl rfl (by show 8 ≤ LIM; decide) (.fr ?_))⟩⟩
      refine pick_at hp (by simp) (by show 8 ≤ LIM; decide) (by omega) fun m μ2 hm hp => ?_
      obtain ⟨m, rfl, m2, m3⟩ : ∃ z, m = .int z ∧ 2 ≤ z ∧ z ≤ 10 ^ 40 := by
        simp only [List.cons_append, List.nil_append, List.mem_cons, List.not_mem_nil, or_false] at hm
        rcases hm with rfl | rfl | rfl | rfl | rfl | rfl | rfl | rfl <;> exact ⟨_, rfl, by omega, by omega⟩
      refine draw_at hp (sz (by omega) m3) (by omega) fun y μ3 y0 y1 hp => ?_
      refine draw_at hp (sz (by decide) (by decide)) (by omega) fun k μ4 k0 k1 hp => ?_
      simp only [gSeq, gAsg, gN, gT, gsCons, gsNil, gVar, gC, gOp, gCons, gNil, gTupN, gLst, gRet, gRetN, gIfS, gIf, gTest, gTru, gNot, gAnd, gOr, gAndV, gOrV, gNotV, gPar, gAug, gCB, gUn, gCall, gNext, gDrop, gSub, gSl, gPart, gNoPart, gApp, gYes, gDisp, gPairs, IBI, IBC, negD, add_int, intD, absD, tru_non, tru_bl, tru_int, tru_tup, tru_lst, isiR, gRaise, gBrk, gCnt, startR, List.map_cons, List.map_nil, List.length_cons, List.length_nil, List.cons_append, List.nil_append, List.append_nil, List.set_cons_zero, List.set_cons_succ, List.getElem?_cons_zero, List.getElem?_cons_succ, List.replicate_succ, List.replicate_zero, Nat.reduceSub, Nat.reduceAdd, Nat.zero_add, Nat.add_zero]
      have kk : (k - 1).natAbs ≤ 1 := by omega
      have mk : (m * (k - 1)).natAbs ≤ 10 ^ 40 := by
        rw [Int.natAbs_mul]
        exact Nat.le_trans (Nat.mul_le_mul_left _ kk) (by omega)
      refine ⟨mulS (by omega) (by omega), by decide, .fr ?_⟩
      generalize hn1 : y + m * (k - 1) = n1
      have n1b : n1.natAbs ≤ 10 ^ 41 := by omega
      refine pick_at hp (by simp) (by show 4 ≤ LIM; decide) (by omega) fun z μ5 hz hp => ?_
      obtain ⟨z, rfl, z2, z3⟩ : ∃ u, z = .int u ∧ 1 ≤ u ∧ u ≤ 50 := by
        simp only [List.mem_cons, List.not_mem_nil, or_false] at hz
        rcases hz with rfl | rfl | rfl | rfl <;> exact ⟨_, rfl, by omega, by omega⟩
      simp only [gSeq, gAsg, gN, gT, gsCons, gsNil, gVar, gC, gOp, gCons, gNil, gTupN, gLst, gRet, gRetN, gIfS, gIf, gTest, gTru, gNot, gAnd, gOr, gAndV, gOrV, gNotV, gPar, gAug, gCB, gUn, gCall, gNext, gDrop, gSub, gSl, gPart, gNoPart, gApp, gYes, gDisp, gPairs, IBI, IBC, negD, add_int, intD, absD, tru_non, tru_bl, tru_int, tru_tup, tru_lst, isiR, gRaise, gBrk, gCnt, startR, List.map_cons, List.map_nil, List.length_cons, List.length_nil, List.cons_append, List.nil_append, List.append_nil, List.set_cons_zero, List.set_cons_succ, List.getElem?_cons_zero, List.getElem?_cons_succ, List.replicate_succ, List.replicate_zero, Nat.reduceSub, Nat.reduceAdd, Nat.zero_add, Nat.add_zero]
      have nz : (n1 * z).natAbs ≤ 10 ^ 43 := by
        rw [Int.natAbs_mul]
        exact Nat.le_trans (Nat.mul_le_mul n1b (show z.natAbs ≤ 50 by omega)) (by decide)
      refine ⟨mulS (by omega) (by omega), ?_⟩
      generalize n1 * z = n2 at nz
      refine ⟨n2, m, rfl, m2, (sz (by omega) m3).2, fun hg => ⟨_, _, rfl, ?_⟩, fun hg r r1 r2 hr => ⟨_, _, rfl, ?_⟩⟩
      · dsimp only [isD, isNon]
        refine ne_int ?_
        rw [decide_eq_false (fun z => hg (by omega))]
        refine ne_blF rfl ?_
        dsimp only
        rw [ifF]
        dsimp only [isntD]
        rw [if_neg (show ¬ ((!isNon D.non) = true) by decide)]
        refine primes_same (by omega) (by omega) ?_
        dsimp only
        first | rw [ifF] | rw [ifNT] | rw [if_neg (by decide)]
        refine primes_at (by omega) (by omega) fun ps _ => ⟨trivial, "tuple", rfl, ?_⟩
        first | rw [ifF] | rw [ifNT] | rw [if_neg (by decide)]
        exact ⟨hp.mono (by omega), _, _, _, _, _, _, _, rfl⟩
      · dsimp only [isD, isNon]
        rw [hg]
        refine ne_int ?_
        rw [decide_eq_true (by decide)]
        refine ne_blF rfl ?_
        dsimp only
        rw [ifF]
        dsimp only [isntD, isNon]
        first | rw [ifT] | rw [ifNF] | rw [if_pos (by decide)]
        refine ⟨trivial, "int", rfl, ?_⟩
        first | rw [ifF] | rw [ifNT] | rw [if_neg (by decide)]
        simp only [gSeq, gAsg, gN, gT, gsCons, gsNil, gVar, gC, gOp, gCons, gNil, gTupN, gLst, gRet, gRetN, gIfS, gIf, gTest, gTru, gNot, gAnd, gOr, gAndV, gOrV, gNotV, gPar, gAug, gCB, gUn, gCall, gNext, gDrop, gSub, gSl, gPart, gNoPart, gApp, gYes, gDisp, gPairs, IBI, IBC, negD, add_int, intD, absD, tru_non, tru_bl, tru_int, tru_tup, tru_lst, isiR, gRaise, gBrk, gCnt, startR, List.map_cons, List.map_nil, List.length_cons, List.length_nil, List.cons_append, List.nil_append, List.append_nil, List.set_cons_zero, List.set_cons_succ, List.getElem?_cons_zero, List.getElem?_cons_succ, List.replicate_succ, List.replicate_zero, Nat.reduceSub, Nat.reduceAdd, Nat.zero_add, Nat.add_zero]
        rw [if_pos (decide_eq_true r1), decide_eq_true r2, ifNT]
        refine ⟨mulS (by omega) (by omega), by show 0 < m; omega, ne_int ?_⟩
        rw [hr, decide_eq_true rfl]
        dsimp only
        first | rw [ifF] | rw [ifNT] | rw [if_neg (by decide)]
        refine primes_same (by omega) (by omega) ?_
        dsimp only
        first | rw [ifF] | rw [ifNT] | rw [if_neg (by decide)]
        refine primes_at (by omega) (by omega) fun ps _ => ⟨trivial, "tuple", rfl, ?_⟩
        first | rw [ifF] | rw [ifNT] | rw [if_neg (by decide)]
        exact ⟨hp.mono (by omega), _, _, _, _, _, _, _, rfl⟩
    · cases hd
  · rintro ρ' μ' ⟨hp, w2, w3, w4, w5, w6, w7, w8, rfl⟩
    have hp : PM (fun _ => none) p 200 μ' := hp.mono (by decide)
    simp only [gSeq, gAsg, gN, gT, gsCons, gsNil, gVar, gC, gOp, gCons, gNil, gTupN, gLst, gRet, gRetN, gIfS, gIf, gTest, gTru, gNot, gAnd, gOr, gAndV, gOrV, gNotV, gPar, gAug, gCB, gUn, gCall, gNext, gDrop, gSub, gSl, gPart, gNoPart, gApp, gYes, gDisp, gPairs, IBI, IBC, negD, add_int, intD, absD, tru_non, tru_bl, tru_int, tru_tup, tru_lst, isiR, gRaise, gBrk, gCnt, startR, List.map_cons, List.map_nil, List.length_cons, List.length_nil, List.cons_append, List.nil_append, List.append_nil, List.set_cons_zero, List.set_cons_succ, List.getElem?_cons_zero, List.getElem?_cons_succ, List.replicate_succ, List.replicate_zero, Nat.reduceSub, Nat.reduceAdd, Nat.zero_add, Nat.add_zero]
    refine ⟨by decide, .fr (pick_at hp (by simp) (by decide) (by decide) fun a μ1 ha hp => ⟨by decide, .fr (pick_at hp (by simp) (by decide) (by decide) fun b μ2 hb hp => draw_at hp (sz (by decide) (by decide)) (by decide) fun k μ3 k0 k1 hp => ?_)⟩)⟩
    obtain ⟨a, rfl, ap, al⟩ : ∃ u : Nat, a = .int (u : Int) ∧ Nt.PrimeN u ∧ u ≤ 257 := by
      simp only [List.mem_cons, List.not_mem_nil, or_false] at ha
      rcases ha with rfl | rfl | rfl | rfl | rfl
      · exact ⟨2, rfl, Nt.prime_of_trial (b := 2) (by decide) (by decide) (by decide +kernel), by decide⟩
      · exact ⟨3, rfl, Nt.prime_of_trial (b := 2) (by decide) (by decide) (by decide +kernel), by decide⟩
      · exact ⟨5, rfl, Nt.prime_of_trial (b := 3) (by decide) (by decide) (by decide +kernel), by decide⟩
      · exact ⟨17, rfl, Nt.prime_of_trial (b := 5) (by decide) (by decide) (by decide +kernel), by decide⟩
      · exact ⟨257, rfl, Nt.prime_of_trial (b := 17) (by decide) (by decide) (by decide +kernel), by decide⟩
    obtain ⟨b, rfl, bp, bl⟩ : ∃ u : Nat, b = .int (u : Int) ∧ Nt.PrimeN u ∧ u ≤ 999983 := by
      simp only [List.mem_cons, List.not_mem_nil, or_false] at hb
      rcases hb with rfl | rfl | rfl | rfl | rfl
      · exact ⟨3, rfl, Nt.prime_of_trial (b := 2) (by decide) (by decide) (by decide +kernel), by decide⟩
      · exact ⟨7, rfl, Nt.prime_of_trial (b := 3) (by decide) (by decide) (by decide +kernel), by decide⟩
      · exact ⟨101, rfl, Nt.prime_of_trial (b := 11) (by decide) (by decide) (by decide +kernel), by decide⟩
      · exact ⟨65537, rfl, Nt.p65537, by decide⟩
      · exact ⟨999983, rfl, Nt.p999983, by decide⟩
    simp only [gSeq, gAsg, gN, gT, gsCons, gsNil, gVar, gC, gOp, gCons, gNil, gTupN, gLst, gRet, gRetN, gIfS, gIf, gTest, gTru, gNot, gAnd, gOr, gAndV, gOrV, gNotV, gPar, gAug, gCB, gUn, gCall, gNext, gDrop, gSub, gSl, gPart, gNoPart, gApp, gYes, gDisp, gPairs, IBI, IBC, negD, add_int, intD, absD, tru_non, tru_bl, tru_int, tru_tup, tru_lst, isiR, gRaise, gBrk, gCnt, startR, List.map_cons, List.map_nil, List.length_cons, List.length_nil, List.cons_append, List.nil_append, List.append_nil, List.set_cons_zero, List.set_cons_succ, List.getElem?_cons_zero, List.getElem?_cons_succ, List.replicate_succ, List.replicate_zero, Nat.reduceSub, Nat.reduceAdd, Nat.zero_add, Nat.add_zero]
    have aa : a * a ≤ 257 * 257 := Nat.mul_le_mul al al
    have ab : a * b ≤ 257 * 999983 := Nat.mul_le_mul al bl
    have aab : a * a * b ≤ 257 * 257 * 999983 := Nat.mul_le_mul aa bl
    have aaa : a * a * a ≤ 257 * 257 * 257 := Nat.mul_le_mul aa al
    have a2 := ap.1
    have b2 := bp.1
    have aaI : ((a : Int) * a) = ((a * a : Nat) : Int) := by rw [Int.natCast_mul]
    have aa4 : 4 ≤ a * a := Nat.mul_le_mul a2 a2
    refine ⟨mulS (by omega) (by omega), mulS (by omega) (by omega), by rw [aaI]; exact mulS (by omega) (by omega), mulS (by omega) (by omega), mulS (by omega) (by omega), by rw [aaI]; exact mulS (by omega) (by omega), by decide, .fr ?_⟩
    obtain ⟨N, L, hN, N2, N12, hNL, hL⟩ : ∃ (N : Nat) (L : List Int), L2.atI [D.int ((a : Int) * b), D.int ((a : Int) * a * b), D.int ((a : Int) * a), D.int ((a : Int) * a * a)] k = some (.int (N : Int)) ∧ 2 ≤ N ∧ N ≤ 10 ^ 12 ∧
        (∀ q : Nat, Nt.PrimeN q ∧ q ∣ N ↔ (q : Int) ∈ L) ∧ L = if k < 2 then [(a : Int), (b : Int)] else [(a : Int)] := by
      have kk : k = 0 ∨ k = 1 ∨ k = 2 ∨ k = 3 := by omega
      have ia : ∀ q : Nat, (q : Int) ∈ [(a : Int)] ↔ q = a := fun q => by simp only [List.mem_singleton]; omega
      have iab : ∀ q : Nat, (q : Int) ∈ [(a : Int), (b : Int)] ↔ q = a ∨ q = b := fun q => by simp only [List.mem_cons, List.not_mem_nil, or_false]; omega
      rcases kk with rfl | rfl | rfl | rfl
      · refine ⟨a * b, _, by rw [Int.natCast_mul]; rfl, by have := Nat.mul_le_mul a2 b2; omega, by omega, fun q => ?_, rfl⟩
        rw [if_pos (by decide), iab]
        constructor
        · rintro ⟨hq, h⟩
          rcases Nt.euclid hq h with h | h
          · exact .inl (Nt.prime_dvd_prime hq ap h)
          · exact .inr (Nt.prime_dvd_prime hq bp h)
        · rintro (rfl | rfl)
          · exact ⟨ap, Nat.dvd_mul_right _ _⟩
          · exact ⟨bp, Nat.dvd_mul_left _ _⟩
      · refine ⟨a * a * b, _, by rw [Int.natCast_mul, Int.natCast_mul]; rfl, by have := Nat.mul_le_mul aa4 b2; omega, by omega, fun q => ?_, rfl⟩
        rw [if_pos (by decide), iab]
        constructor
        · rintro ⟨hq, h⟩
          rcases Nt.euclid hq h with h | h
          · rcases Nt.euclid hq h with h | h <;> exact .inl (Nt.prime_dvd_prime hq ap h)
          · exact .inr (Nt.prime_dvd_prime hq bp h)
        · rintro (rfl | rfl)
          · exact ⟨ap, Nat.dvd_trans (Nat.dvd_mul_right _ _) (Nat.dvd_mul_right _ _)⟩
          · exact ⟨bp, Nat.dvd_mul_left _ _⟩
      · refine ⟨a * a, _, by rw [Int.natCast_mul]; rfl, by omega, by omega, fun q => ?_, rfl⟩
        rw [if_neg (by decide), ia]
        constructor
        · rintro ⟨hq, h⟩
          rcases Nt.euclid hq h with h | h <;> exact Nt.prime_dvd_prime hq ap h
        · rintro rfl
          exact ⟨ap, Nat.dvd_mul_right _ _⟩
      · refine ⟨a * a * a, _, by rw [Int.natCast_mul, Int.natCast_mul]; rfl, by have := Nat.mul_le_mul aa4 a2; omega, by omega, fun q => ?_, rfl⟩
        rw [if_neg (by decide), ia]
        constructor
        · rintro ⟨hq, h⟩
          rcases Nt.euclid hq h with h | h
          · rcases Nt.euclid hq h with h | h <;> exact Nt.prime_dvd_prime hq ap h
          · exact Nt.prime_dvd_prime hq ap h
        · rintro rfl
          exact ⟨ap, Nat.dvd_mul_left _ _⟩
    refine ix_q (l := [D.int ((a : Int) * b), D.int ((a : Int) * a * b), D.int ((a : Int) * a), D.int ((a : Int) * a * a)]) rfl hN ?_
    refine primes_at (by omega) (by omega) fun ps hps => ?_
    rw [Int.toNat_natCast] at hps
    have key : ∀ (Φ : Kd), (∀ ms : List Int, ms.Pairwise (· < ·) → (∀ z, z ∈ ms ↔ z ∈ L) → Φ (.lst (ms.map D.int)) μ3) → gSortSet (gIf (gTest (gOp ltD (gVar 11) (gC (.int 2)))) (gLst (gCons (gVar 9) (gCons (gVar 10) gNil))) (gLst (gCons (gVar 9) gNil)))
        [some (.rdl (ns.map D.int)), some (.ptr p), w2, w3, w4, w5, some (.int (N : Int)), w7, w8, some (.int (a : Int)), some (.int (b : Int)), some (.int k), none] μ3 (DropT Θ) Φ := by
      intro Φ h
      simp only [gSortSet, gSeq, gAsg, gN, gT, gsCons, gsNil, gVar, gC, gOp, gCons, gNil, gTupN, gLst, gRet, gRetN, gIfS, gIf, gTest, gTru, gNot, gAnd, gOr, gAndV, gOrV, gNotV, gPar, gAug, gCB, gUn, gCall, gNext, gDrop, gSub, gSl, gPart, gNoPart, gApp, gYes, gDisp, gPairs, IBI, IBC, negD, add_int, intD, absD, tru_non, tru_bl, tru_int, tru_tup, tru_lst, isiR, gRaise, gBrk, gCnt, startR, List.map_cons, List.map_nil, List.length_cons, List.length_nil, List.cons_append, List.nil_append, List.append_nil, List.set_cons_zero, List.set_cons_succ, List.getElem?_cons_zero, List.getElem?_cons_succ, List.replicate_succ, List.replicate_zero, Nat.reduceSub, Nat.reduceAdd, Nat.zero_add, Nat.add_zero]
      by_cases k2 : k < 2
      · rw [if_pos (decide_eq_true k2)]
        rw [if_pos k2] at hL
        exact ⟨by decide, .fr ⟨[(a : Int), (b : Int)], rfl, by simp, fun ms h1 h2 => .fr (h ms h1 (by rw [hL]; exact h2))⟩⟩
      · rw [if_neg (by rw [decide_eq_true_eq]; exact k2)]
        rw [if_neg k2] at hL
        exact ⟨by decide, .fr ⟨[(a : Int)], rfl, by simp, fun ms h1 h2 => .fr (h ms h1 (by rw [hL]; exact h2))⟩⟩
    refine key _ fun ms h1 h2 => tup_q rfl ?_
    have me : ms = ps.map fun (p : Nat) => (p : Int) := by
      refine pwI_eq h1 ?_ fun z => ?_
      · rw [List.pairwise_map]
        exact hps.1.imp fun h => by omega
      · rw [h2, List.mem_map]
        constructor
        · intro hz
          have hz' : ∃ u : Nat, z = (u : Int) := by
            rw [hL] at hz
            split at hz
            · simp only [List.mem_cons, List.not_mem_nil, or_false] at hz
              rcases hz with rfl | rfl
              · exact ⟨a, rfl⟩
              · exact ⟨b, rfl⟩
            · rw [List.mem_singleton] at hz
              exact ⟨a, hz⟩
          obtain ⟨u, rfl⟩ := hz'
          exact ⟨u, (hps.2 u).mpr ((hNL u).mpr hz), rfl⟩
        · rintro ⟨u, hu, rfl⟩
          exact (hNL u).mp ((hps.2 u).mp hu)
    rw [me, ← natsD_int]
    refine ne_nats ?_
    dsimp only
    rw [ifF]
    refine ⟨mulS (by decide) (by decide), primes_at (by decide) (by decide) fun q1 hq1 => ⟨by decide, ?_⟩⟩
    have e1 : q1 = [999979, 999983] := hq1.uniq ⟨by decide, fun q => by
      have e : ((999983 : Int) * 999979).toNat = 999983 * 999979 := by decide
      rw [e]
      simp only [List.mem_cons, List.not_mem_nil, or_false]
      constructor
      · rintro (rfl | rfl)
        · exact ⟨Nt.p999979, Nat.dvd_mul_left _ _⟩
        · exact ⟨Nt.p999983, Nat.dvd_mul_right _ _⟩
      · rintro ⟨hq, h⟩
        rcases Nt.euclid hq h with h | h
        · exact .inr (Nt.prime_dvd_prime hq Nt.p999983 h)
        · exact .inl (Nt.prime_dvd_prime hq Nt.p999979 h)⟩
    rw [e1]
    refine ne_nats (ps := [999979, 999983]) ?_
    dsimp only
    rw [ifF]
    have two : Nt.PrimeN 2 := Nt.prime_of_trial (b := 2) (by decide) (by decide) (by decide +kernel)
    have five : Nt.PrimeN 5 := Nt.prime_of_trial (b := 3) (by decide) (by decide) (by decide +kernel)
    refine ⟨⟨by decide, by decide, by decide⟩, primes_at (by decide) (by decide) fun q2 hq2 => ⟨by decide, ?_⟩⟩
    have e2 : q2 = [2, 5] := hq2.uniq ⟨by decide, fun q => by
      have e : ((10 : Int) ^ Int.toNat 12).toNat = 10 ^ 12 := by decide
      rw [e]
      simp only [List.mem_cons, List.not_mem_nil, or_false]
      constructor
      · rintro (rfl | rfl)
        · exact ⟨two, by decide⟩
        · exact ⟨five, by decide⟩
      · rintro ⟨hq, h⟩
        have h' : q ∣ 2 * 5 := Nt.prime_pow hq h
        rcases Nt.euclid hq h' with h | h
        · exact .inl (Nt.prime_dvd_prime hq two h)
        · exact .inr (Nt.prime_dvd_prime hq five h)⟩
    rw [e2]
    refine ne_nats (ps := [2, 5]) ?_
    dsimp only
    rw [ifF]
    refine ⟨⟨by decide, by decide, by decide⟩, primes_at (by decide) (by decide) fun q3 hq3 => ⟨by decide, ?_⟩⟩
    have e3 : q3 = [2] := hq3.uniq ⟨by decide, fun q => by
      have e : ((2 : Int) ^ Int.toNat 39).toNat = 2 ^ 39 := by decide
      rw [e]
      simp only [List.mem_cons, List.not_mem_nil, or_false]
      constructor
      · rintro rfl
        exact ⟨two, by decide⟩
      · rintro ⟨hq, h⟩
        exact Nt.prime_dvd_prime hq two (Nt.prime_pow hq h)⟩
    rw [e3]
    refine ne_nats (ps := [2]) ?_
    dsimp only
    rw [ifF]
    have c12 : CPow 10 12 := ⟨by decide, by decide, by decide⟩
    have c30 : CPow 10 30 := ⟨by decide, by decide, by decide⟩
    refine comp_seq (d := .lst odds) (μ1 := μ3) (l := odds) (fun _ => true) (fun _ => .bl false) (fun Ψ h => ?_) rfl (by decide) ?_ ?_
    · simp only [gSeq, gAsg, gN, gT, gsCons, gsNil, gVar, gC, gOp, gCons, gNil, gTupN, gLst, gRet, gRetN, gIfS, gIf, gTest, gTru, gNot, gAnd, gOr, gAndV, gOrV, gNotV, gPar, gAug, gCB, gUn, gCall, gNext, gDrop, gSub, gSl, gPart, gNoPart, gApp, gYes, gDisp, gPairs, IBI, IBC, negD, add_int, intD, absD, tru_non, tru_bl, tru_int, tru_tup, tru_lst, isiR, gRaise, gBrk, gCnt, startR, List.map_cons, List.map_nil, List.length_cons, List.length_nil, List.cons_append, List.nil_append, List.append_nil, List.set_cons_zero, List.set_cons_succ, List.getElem?_cons_zero, List.getElem?_cons_succ, List.replicate_succ, List.replicate_zero, Nat.reduceSub, Nat.reduceAdd, Nat.zero_add, Nat.add_zero]
      exact ⟨by decide, .fr ⟨c12, c30, by decide, .fr h⟩⟩
    · intro d hd μ' Ψ N' hy _
      simp only [wipeR, gSeq, gAsg, gN, gT, gsCons, gsNil, gVar, gC, gOp, gCons, gNil, gTupN, gLst, gRet, gRetN, gIfS, gIf, gTest, gTru, gNot, gAnd, gOr, gAndV, gOrV, gNotV, gPar, gAug, gCB, gUn, gCall, gNext, gDrop, gSub, gSl, gPart, gNoPart, gApp, gYes, gDisp, gPairs, IBI, IBC, negD, add_int, intD, absD, tru_non, tru_bl, tru_int, tru_tup, tru_lst, isiR, gRaise, gBrk, gCnt, startR, List.map_cons, List.map_nil, List.length_cons, List.length_nil, List.cons_append, List.nil_append, List.append_nil, List.set_cons_zero, List.set_cons_succ, List.getElem?_cons_zero, List.getElem?_cons_succ, List.replicate_succ, List.replicate_zero, Nat.reduceSub, Nat.reduceAdd, Nat.zero_add, Nat.add_zero]
      rw [if_pos trivial]
      obtain ⟨t1, t2, sh⟩ := odd_ok d hd μ'
      exact ⟨d, rfl, t1, t2, sh, d, rfl, sh, ne_strF (odd_str d hd μ') (hy rfl)⟩
    · rw [filter_yes]
      refine .fr (any_fr (bs := odds.map fun _ => false) ?_)
      exact keepK rfl
end GL

namespace GL
open PySem PySem.Spec PyProof.Rows L2 GD
theorem all_mk {l : PySem.W.OpenLaw} {w : World} {K : PySem.W.Frag} {h : Heap} {mg : Str → Option Value} {fa : Addr} (X : K.In h) (G : h.Ns mainGlobals mg) (hfa : mg "law" = some (.ref fa))
    (D_is_whole : DefIn K "is_whole" "is_whole" s_is_whole)
    (D_divisor_of : DefIn K "divisor_of" "divisor_of" s_divisor_of)
    (D_factors : DefIn K "factors" "factors" s_factors)
    (D__law_pen_of : DefIn K "_law_pen_of" "_law_pen_of" s__law_pen_of)
    (D__law_draw : DefIn K "_law_draw" "_law_draw" s__law_draw)
    (D__law_common : DefIn K "_law_common" "_law_common" s__law_common)
    (D__law_primes : DefIn K "_law_primes" "_law_primes" s__law_primes)
    (D_inverse : DefIn K "inverse" "inverse" s_inverse)
    (D_primes : DefIn K "primes" "primes" s_primes)
    (D__law_pick : DefIn K "_law_pick" "_law_pick" s__law_pick)
    (D__law_refused : DefIn K "_law_refused" "_law_refused" s__law_refused)
    (D_law : DefIn K "law" "law" s_law)
    (n_abs : PySem.W.nsIn K mainGlobals "abs" = some none)
    (n_any : PySem.W.nsIn K mainGlobals "any" = some none)
    (n_bool : PySem.W.nsIn K mainGlobals "bool" = some none)
    (n_int : PySem.W.nsIn K mainGlobals "int" = some none)
    (n_isinstance : PySem.W.nsIn K mainGlobals "isinstance" = some none)
    (n_len : PySem.W.nsIn K mainGlobals "len" = some none)
    (n_list : PySem.W.nsIn K mainGlobals "list" = some none)
    (n_range : PySem.W.nsIn K mainGlobals "range" = some none)
    (n_repr : PySem.W.nsIn K mainGlobals "repr" = some none)
    (n_set : PySem.W.nsIn K mainGlobals "set" = some none)
    (n_sorted : PySem.W.nsIn K mainGlobals "sorted" = some none)
    (n_tuple : PySem.W.nsIn K mainGlobals "tuple" = some none)
    (m_MOST_MODULUS : NumIn K "MOST_MODULUS" 1000000000000)
    (C_BadModulus : ClsIn K "BadModulus")
    (C_SumsError : ClsIn K "SumsError")
    (E_BadModulus : ErrIn l.prog K "BadModulus" [("number", "number")])
    (x_ex : Ex20 K (clOf K))
    : ∃ (fd : FuncData) (cn : Con), (∀ (s : Shared) (u : Value), BindsTo s fd ⟨[u], []⟩ [("_law_script", u)]) ∧ Goal 63 cn ∧ ∀ base : Heap, K.In base → base.Ns mainGlobals mg → FnG l.prog w K mg base 4 fa fd ["_law_script"] (spD K cn) := by
  have B : Bl (clOf K) mg := ⟨PySem.W.mg_none_of X G n_abs, PySem.W.mg_none_of X G n_any, PySem.W.mg_none_of X G n_bool, PySem.W.mg_none_of X G n_int, PySem.W.mg_none_of X G n_isinstance, PySem.W.mg_none_of X G n_len, PySem.W.mg_none_of X G n_list, PySem.W.mg_none_of X G n_range, PySem.W.mg_none_of X G n_repr, PySem.W.mg_none_of X G n_set, PySem.W.mg_none_of X G n_sorted, PySem.W.mg_none_of X G n_tuple, (by obtain ⟨C, hC⟩ := C_BadModulus; rw [clOf_at hC]; exact PySem.W.mg_of X G hC), (by obtain ⟨C, hC⟩ := C_SumsError; rw [clOf_at hC]; exact PySem.W.mg_of X G hC), (by obtain ⟨u, hu, r⟩ := m_MOST_MODULUS; exact ⟨u, PySem.W.mg_of X G hu, r⟩)⟩
  have T_BadModulus : ErrC l.prog K mg "BadModulus" (clOf K "BadModulus") [("number", "number")] := by
    obtain ⟨C, hC, hE⟩ := E_BadModulus
    rw [clOf_at hC]
    exact hE mg (PySem.W.mg_of X G hC)
  obtain ⟨f, oc, od, kV, doc, pm, an, cdv, ct, osl, a, lk, c, kp⟩ := id D_law
  have e := hfa.symm.trans (PySem.W.mg_of X G a)
  cases e
  refine ⟨PySem.W.fnOf "law" "law" (defArgs s_law) (defBody s_law) (defScope s_law) .none kV doc pm an cdv ct, c_law K (clOf K), fun s u => .of_eq rfl, fun ns hl hb => ⟨ns, rfl, rfl, hl, rfl⟩, fun base hb hg => ?_⟩
  have F_is_whole : FnAt l.prog w K mg base 1 "is_whole" ["value", "least"] (c_is_whole K (clOf K)) := ok_is_whole (clOf K) B D_is_whole hb hg (fun ds μ Φ Θ h => by repeat (first | (obtain ⟨rfl, _⟩ := h; rfl) | (obtain ⟨_, h⟩ := h))) p_is_whole
  have F_divisor_of : FnAt l.prog w K mg base 1 "divisor_of" ["one", "other"] (c_divisor_of K (clOf K)) := ok_divisor_of (clOf K) B D_divisor_of hb hg (fun ds μ Φ Θ h => by repeat (first | (obtain ⟨rfl, _⟩ := h; rfl) | (obtain ⟨_, h⟩ := h))) p_divisor_of
  have F_factors : FnAt l.prog w K mg base 1 "factors" ["number"] (c_factors K (clOf K)) := ok_factors (clOf K) B D_factors hb hg (fun ds μ Φ Θ h => by repeat (first | (obtain ⟨rfl, _⟩ := h; rfl) | (obtain ⟨_, h⟩ := h))) p_factors
  have F__law_pen_of : FnAt l.prog w K mg base 1 "_law_pen_of" ["_law_script"] (c__law_pen_of K (clOf K)) := ok__law_pen_of (clOf K) B D__law_pen_of hb hg (fun ds μ Φ Θ h => by repeat (first | (obtain ⟨rfl, _⟩ := h; rfl) | (obtain ⟨_, h⟩ := h))) p__law_pen_of
  have F__law_draw : FnAt l.prog w K mg base 1 "_law_draw" ["_law_pen", "_law_many"] (c__law_draw K (clOf K)) := ok__law_draw (clOf K) B D__law_draw hb hg (fun ds μ Φ Θ h => by repeat (first | (obtain ⟨rfl, _⟩ := h; rfl) | (obtain ⟨_, h⟩ := h))) p__law_draw
  have F__law_common : FnAt l.prog w K mg base 1 "_law_common" ["_law_one", "_law_other"] (c__law_common K (clOf K)) := ok__law_common (clOf K) B D__law_common hb hg (fun ds μ Φ Θ h => by repeat (first | (obtain ⟨rfl, _⟩ := h; rfl) | (obtain ⟨_, h⟩ := h))) p__law_common
  have F__law_primes : FnAt l.prog w K mg base 1 "_law_primes" ["_law_number"] (c__law_primes K (clOf K)) := ok__law_primes (clOf K) B D__law_primes hb hg (fun ds μ Φ Θ h => by repeat (first | (obtain ⟨rfl, _⟩ := h; rfl) | (obtain ⟨_, h⟩ := h))) p__law_primes
  have F_inverse : FnAt l.prog w K mg base 2 "inverse" ["number", "modulus"] (c_inverse K (clOf K)) := ok_inverse (clOf K) B F_divisor_of D_inverse hb hg (fun ds μ Φ Θ h => by repeat (first | (obtain ⟨rfl, _⟩ := h; rfl) | (obtain ⟨_, h⟩ := h))) p_inverse
  have F_primes : FnAt l.prog w K mg base 2 "primes" ["number"] (c_primes K (clOf K)) := ok_primes (clOf K) B F_is_whole F_factors T_BadModulus D_primes hb hg (fun ds μ Φ Θ h => by repeat (first | (obtain ⟨rfl, _⟩ := h; rfl) | (obtain ⟨_, h⟩ := h))) p_primes
  have F__law_pick : FnAt l.prog w K mg base 2 "_law_pick" ["_law_pen", "_law_items"] (c__law_pick K (clOf K)) := ok__law_pick (clOf K) B F__law_draw D__law_pick hb hg (fun ds μ Φ Θ h => by repeat (first | (obtain ⟨rfl, _⟩ := h; rfl) | (obtain ⟨_, h⟩ := h))) p__law_pick
  have F__law_refused : FnAtG l.prog w K mg base 3 "_law_refused" ["_law_value"] (c__law_refused K (clOf K)) := ok__law_refused (clOf K) B F_primes D__law_refused hb hg (fun ds μ Φ Θ h => by repeat (first | (obtain ⟨rfl, _⟩ := h; rfl) | (obtain ⟨_, h⟩ := h))) (p__law_refused x_ex)
  exact okG (fun_mk lk c kp) sc_law (fun ds μ Φ Θ h => by repeat (first | (obtain ⟨rfl, _⟩ := h; rfl) | (obtain ⟨_, h⟩ := h))) (d_law (clOf K) B F__law_pen_of F__law_draw F__law_pick F__law_common F_inverse F_primes F__law_primes F__law_refused) p_law
end GL
open PySem PySem.W PyProof.Rows GL GD
set_option maxRecDepth 100000 in
set_option maxHeartbeats 0 in
theorem PySem.Challenge.cw_guardsums_k20_residues_holds : PySem.Challenge.rw_guardsums_k20_residues.Holds := by
  w_on; o_law; k_head; (case hw => w_witness2)
  k_fill
  refine GD.walkG (l := PySem.Challenge.rw_guardsums_k20_residues) (n := 63) (k := 4) (x := "_law_script") rfl (by decide) rfl ⟨rfl, by decide, by decide⟩ (fun w h Y => PySem.W.kIn_of Y) ?F
  case F =>
    intro w mg fa h KX G hmg
    refine' GL.all_mk KX G hmg ?D_is_whole ?D_divisor_of ?D_factors ?D__law_pen_of ?D__law_draw ?D__law_common ?D__law_primes ?D_inverse ?D_primes ?D__law_pick ?D__law_refused ?D_law ?n_abs ?n_any ?n_bool ?n_int ?n_isinstance ?n_len ?n_list ?n_range ?n_repr ?n_set ?n_sorted ?n_tuple ?m_MOST_MODULUS ?C_BadModulus ?C_SumsError ?E_BadModulus ?x_ex
    case D_is_whole => (refine' defIn_mk ?a ?b ?c ?d; (case a => k_is); (case b => k_is); (case c => k_is); (case d => k_is))
    case D_divisor_of => (refine' defIn_mk ?a ?b ?c ?d; (case a => k_is); (case b => k_is); (case c => k_is); (case d => k_is))
    case D_factors => (refine' defIn_mk ?a ?b ?c ?d; (case a => k_is); (case b => k_is); (case c => k_is); (case d => k_is))
    case D__law_pen_of => (refine' defIn_mk ?a ?b ?c ?d; (case a => k_is); (case b => k_is); (case c => k_is); (case d => k_is))
    case D__law_draw => (refine' defIn_mk ?a ?b ?c ?d; (case a => k_is); (case b => k_is); (case c => k_is); (case d => k_is))
    case D__law_common => (refine' defIn_mk ?a ?b ?c ?d; (case a => k_is); (case b => k_is); (case c => k_is); (case d => k_is))
    case D__law_primes => (refine' defIn_mk ?a ?b ?c ?d; (case a => k_is); (case b => k_is); (case c => k_is); (case d => k_is))
    case D_inverse => (refine' defIn_mk ?a ?b ?c ?d; (case a => k_is); (case b => k_is); (case c => k_is); (case d => k_is))
    case D_primes => (refine' defIn_mk ?a ?b ?c ?d; (case a => k_is); (case b => k_is); (case c => k_is); (case d => k_is))
    case D__law_pick => (refine' defIn_mk ?a ?b ?c ?d; (case a => k_is); (case b => k_is); (case c => k_is); (case d => k_is))
    case D__law_refused => (refine' defIn_mk ?a ?b ?c ?d; (case a => k_is); (case b => k_is); (case c => k_is); (case d => k_is))
    case D_law => (refine' defIn_mk ?a ?b ?c ?d; (case a => k_is); (case b => k_is); (case c => k_is); (case d => k_is))
    case n_abs => k_is
    case n_any => k_is
    case n_bool => k_is
    case n_int => k_is
    case n_isinstance => k_is
    case n_len => k_is
    case n_list => k_is
    case n_range => k_is
    case n_repr => k_is
    case n_set => k_is
    case n_sorted => k_is
    case n_tuple => k_is
    case m_MOST_MODULUS => (refine' numIn_mk ?a; case a => k_is)
    case C_BadModulus => (refine' clsIn_mk ?a; case a => k_is)
    case C_SumsError => (refine' clsIn_mk ?a; case a => k_is)
    case E_BadModulus =>
      refine' errIn_mk (L2.inClass (GL.topS 2) 0) ?a ?cls ?sa ?exC ?vE ?tyC ?kC ?no ?i1 ?i2 ?e1 ?e2 ?e3 ?i3 ?i4 ?i5 ?i6 ?i7 ?i8 ?i9 ?i10 ?i11 ?i12 ?rb ?nd ?i13 ?i14 ?i15 ?i16 ?i17 ?i18 ?i19 ?i20 ?i21 ?i22 ?i23 ?i24
      case a => k_is
      case cls => k_is
      case sa => k_is
      case exC => k_is
      case vE => k_is
      case tyC => k_is
      case kC => k_is
      case no => (intro p hp; (rcases List.mem_cons.mp hp with rfl | hp); k_is; cases hp)
      case i1 => k_is
      case i2 => k_is
      case e1 => exact rfl
      case e2 => exact rfl
      case e3 => exact rfl
      case i3 => k_is
      case i4 => k_is
      case i5 => k_is
      case i6 => exact rfl
      case i7 => exact rfl
      case i8 => k_is
      case i9 => ks_is
      case i10 => k_is
      case i11 => k_is
      case i12 => exact rfl
      case rb => decide +kernel
      case nd => decide
      case i13 => exact rfl
      case i14 => exact rfl
      case i15 => decide
      case i16 => exact rfl
      case i17 => decide +kernel
      case i18 => decide +kernel
      case i19 => decide +kernel
      case i20 => decide +kernel
      case i21 => decide +kernel
      case i22 => (intro us hl; match us, hl with | [_, _], _ => rfl)
      case i23 => decide +kernel
      case i24 => (intro env; exact rfl)
    case x_ex =>
      refine' ex20_mk ?a ?b ?h1 ?h2 ?h3 ?h4 ?h5 ?h6 ?h7 ?h8 ?h9 ?h10 ?h11 ?h12 ?h13
      case a => k_is
      case b => k_is
      case h1 => k_is
      case h2 => k_is
      case h3 => k_is
      case h4 => k_is
      case h5 => k_is
      case h6 => k_is
      case h7 => k_is
      case h8 => k_is
      case h9 => k_is
      case h10 => k_is
      case h11 => k_is
      case h12 => kit_is
      case h13 => k_is
