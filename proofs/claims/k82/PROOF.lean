import PyProof.Rows.All
import Wide.All
import OpenK.AllK
import Wide.FinOn
import HandS.ForMost
import HandS.ForExc
import HandS.Wide
import HandS.IsInst
import HandS.Deep
import HandS.Zip
import HandS.Rev
import HandS.Conv
import HandS.TupMul
import PyProof.StrOps2
import KE.GoesComp
import KE.GoesRaise
import HandS.Walk
import HandS.WordsExc
import HandS.ExcIs
import HandS.Defaults
import PySem.Challenge.RW_slopeverdict_k82_texts_of_numbers_and_qu
section
set_option Elab.async false
set_option linter.all false
set_option maxRecDepth 100000
set_option maxHeartbeats 1000000
/-! V3a: plain data over the abstract heap. -/
namespace V3
open PySem PySem.Spec PyProof.Rows L2

/-- plain data -/
inductive D where
  | non | bl (b : Bool) | int (i : Int) | str (s : Str) | lst (ds : List D) | tup (ds : List D) | fz (ds : List D)
  deriving Inhabited

/-- a slot's content: unset, fixed data, an own list -/
inductive Sl where
  | un | im (d : D) | ow (ds : List D)
  deriving Inhabited
abbrev Ev := List Sl

inductive Rs (α : Type) where
  | ok (a : α) (ρ : Ev)
  | exc (n : Str) (ρ : Ev)
  | bad

def TSt (K : PySem.W.Frag) (a : Addr) (xs : List V) : Prop :=
  ∃ (o : Obj) (its : Array Value) (n : Nat), K.lookup a = some o ∧ o.cls = .type "tuple" ∧ o.data = .seq its n ∧ its.size ≤ sizeLine ∧ Vals xs its.toList
def LAt (O : Addr → Prop) (H : Hp) (a : Addr) (xs : List V) : Prop := ¬ O a ∧ H a = some (.lst xs)
def LSt (K : PySem.W.Frag) (a : Addr) (xs : List V) : Prop :=
  ∃ (o : Obj) (its : Array Value) (n : Nat), K.lookup a = some o ∧ o.cls = .type "list" ∧ o.dict = none ∧ o.data = .seq its n ∧ its.size ≤ sizeLine ∧ Vals xs its.toList
/-- a list that nobody writes -/
def FAt (K : PySem.W.Frag) (O : Addr → Prop) (H : Hp) (a : Addr) (xs : List V) : Prop := (¬ O a ∧ ∃ o, H a = some (.frz o (.lst xs))) ∨ LSt K a xs
def TAt (K : PySem.W.Frag) (O : Addr → Prop) (H : Hp) (a : Addr) (xs : List V) : Prop := (¬ O a ∧ H a = some (.tup xs)) ∨ TSt K a xs

mutual
/-- data as it lies in the heap, off the addresses of O -/
inductive Rep (K : PySem.W.Frag) (O : Addr → Prop) (H : Hp) : D → V → Prop
  | non : Rep K O H .non .non
  | bl (b : Bool) : Rep K O H (.bl b) (.bl b)
  | int (i : Int) : Rep K O H (.int i) (.int i)
  | str (x : Str) : Rep K O H (.str x) (.str x)
  | lst {a : Addr} {xs : List V} {ds : List D} : LAt O H a xs → RepA K O H ds xs → Rep K O H (.lst ds) (.ref a)
  | fz {a : Addr} {xs : List V} {ds : List D} : FAt K O H a xs → RepA K O H ds xs → Rep K O H (.fz ds) (.ref a)
  | tup {a : Addr} {xs : List V} {ds : List D} : TAt K O H a xs → RepA K O H ds xs → Rep K O H (.tup ds) (.ref a)
inductive RepA (K : PySem.W.Frag) (O : Addr → Prop) (H : Hp) : List D → List V → Prop
  | nil : RepA K O H [] []
  | cons {d : D} {ds : List D} {v : V} {vs : List V} : Rep K O H d v → RepA K O H ds vs → RepA K O H (d :: ds) (v :: vs)
end

/-- all but L stands -/
def Chg (L : Addr → Prop) (H H' : Hp) : Prop := ∀ a o, H a = some o → ¬ L a → H' a = some o
abbrev Ext (H H' : Hp) : Prop := ∀ a o, H a = some o → H' a = some o
theorem Chg.refl {L : Addr → Prop} {H : Hp} : Chg L H H := fun _ _ e _ => e
theorem Chg.trans {L : Addr → Prop} {H H1 H2 : Hp} (a : Chg L H H1) (b : Chg L H1 H2) : Chg L H H2 := fun c o e n => b c o (a c o e n) n
theorem Chg.of {L : Addr → Prop} {H H' : Hp} (e : Ext H H') : Chg L H H' := fun a o h _ => e a o h
theorem Chg.sub {L L' : Addr → Prop} {H H' : Hp} (c : Chg L H H') (h : ∀ a, L a → L' a) : Chg L' H H' := fun a o e n => c a o e fun z => n (h a z)
theorem ext_upd {H : Hp} {p : Addr} {o : HO} (h : H p = none) : Ext H (upd H p o) := fun b x e => by
  rw [upd_ne (ne_of_none e h)]; exact e
theorem Ext.trans {H H1 H2 : Hp} (a : Ext H H1) (b : Ext H1 H2) : Ext H H2 := fun c o e => b c o (a c o e)

section
variable {K : PySem.W.Frag} {O O' L : Addr → Prop} {H H' : Hp} {a : Addr} {xs : List V}
theorem LAt.mono (h : LAt O H a xs) (c : Chg L H H') (hl : ∀ a, L a → O a) : LAt O H' a xs := ⟨h.1, c a _ h.2 fun z => h.1 (hl a z)⟩
theorem FAt.mono (h : FAt K O H a xs) (c : Chg L H H') (hl : ∀ a, L a → O a) : FAt K O H' a xs := h.imp (fun h => ⟨h.1, let ⟨o, e⟩ := h.2; ⟨o, c a _ e fun z => h.1 (hl a z)⟩⟩) id
theorem TAt.mono (h : TAt K O H a xs) (c : Chg L H H') (hl : ∀ a, L a → O a) : TAt K O H' a xs := by
  rcases h with ⟨n, h⟩ | h
  · exact .inl ⟨n, c a _ h fun z => n (hl a z)⟩
  · exact .inr h
theorem LAt.avoid (h : LAt O H a xs) (c : ∀ a, O' a → O a ∨ H a = none) : LAt O' H a xs :=
  ⟨fun z => (c a z).elim h.1 fun e => (by rw [h.2] at e; cases e), h.2⟩
theorem FAt.avoid (h : FAt K O H a xs) (c : ∀ a, O' a → O a ∨ H a = none) : FAt K O' H a xs :=
  h.imp (fun h => ⟨fun z => (c a z).elim h.1 fun e => (by obtain ⟨o, q⟩ := h.2; rw [q] at e; cases e), h.2⟩) id
theorem TAt.avoid (h : TAt K O H a xs) (c : ∀ a, O' a → O a ∨ H a = none) : TAt K O' H a xs := by
  rcases h with ⟨n, h⟩ | h
  · exact .inl ⟨fun z => (c a z).elim n fun e => (by rw [h] at e; cases e), h⟩
  · exact .inr h
theorem LAt.sq (h : LAt O H a xs) : SqL K H a xs := .inl (.inl h.2)
theorem FAt.sq (h : FAt K O H a xs) : SqL K H a xs := h.elim (fun h => .inl (.inr h.2)) .inr
theorem TAt.sq (h : TAt K O H a xs) : SqT K H a xs := by
  rcases h with ⟨_, h⟩ | h
  · exact .inl (.inl h)
  · exact .inr h
mutual
theorem Rep.mono (c : Chg L H H') (hl : ∀ a, L a → O a) : ∀ {d : D} {v : V}, Rep K O H d v → Rep K O H' d v
  | _, _, .non => .non
  | _, _, .bl b => .bl b
  | _, _, .int i => .int i
  | _, _, .str x => .str x
  | _, _, .lst h r => .lst (h.mono c hl) (RepA.mono c hl r)
  | _, _, .fz h r => .fz (h.mono c hl) (RepA.mono c hl r)
  | _, _, .tup h r => .tup (h.mono c hl) (RepA.mono c hl r)
theorem RepA.mono (c : Chg L H H') (hl : ∀ a, L a → O a) : ∀ {ds : List D} {vs : List V}, RepA K O H ds vs → RepA K O H' ds vs
  | _, _, .nil => .nil
  | _, _, .cons h r => .cons (Rep.mono c hl h) (RepA.mono c hl r)
end
mutual
theorem Rep.avoid (c : ∀ a, O' a → O a ∨ H a = none) : ∀ {d : D} {v : V}, Rep K O H d v → Rep K O' H d v
  | _, _, .non => .non
  | _, _, .bl b => .bl b
  | _, _, .int i => .int i
  | _, _, .str x => .str x
  | _, _, .lst h r => .lst (h.avoid c) (RepA.avoid c r)
  | _, _, .fz h r => .fz (h.avoid c) (RepA.avoid c r)
  | _, _, .tup h r => .tup (h.avoid c) (RepA.avoid c r)
theorem RepA.avoid (c : ∀ a, O' a → O a ∨ H a = none) : ∀ {ds : List D} {vs : List V}, RepA K O H ds vs → RepA K O' H ds vs
  | _, _, .nil => .nil
  | _, _, .cons h r => .cons (Rep.avoid c h) (RepA.avoid c r)
end
theorem Rep.ext {d : D} {v : V} (e : Ext H H') (r : Rep K O H d v) : Rep K O H' d v := Rep.mono (L := fun _ => False) (Chg.of e) (fun _ z => z.elim) r
theorem RepA.ext {ds : List D} {vs : List V} (e : Ext H H') (r : RepA K O H ds vs) : RepA K O H' ds vs := RepA.mono (L := fun _ => False) (Chg.of e) (fun _ z => z.elim) r

/-- no lists within -/
def D.lf : D → Bool
  | .lst _ => false
  | .fz _ => false
  | .tup ds => lfA ds
  | _ => true
where lfA : List D → Bool
  | [] => true
  | d :: ds => d.lf && lfA ds
mutual
theorem Rep.lf (c : ∀ a, O' a → ∃ vs, H a = some (.lst vs)) : ∀ {d : D} {v : V}, d.lf = true → Rep K O H d v → Rep K O' H d v
  | _, _, _, .non => .non
  | _, _, _, .bl b => .bl b
  | _, _, _, .int i => .int i
  | _, _, _, .str x => .str x
  | _, _, z, .lst h r => by cases z
  | _, _, z, .fz h r => by cases z
  | _, _, z, .tup h r => by
    refine .tup ?_ (RepA.lf c z r)
    rcases h with ⟨n, h⟩ | h
    · refine .inl ⟨fun q => ?_, h⟩
      obtain ⟨vs, e⟩ := c _ q
      rw [h] at e; cases e
    · exact .inr h
theorem RepA.lf (c : ∀ a, O' a → ∃ vs, H a = some (.lst vs)) : ∀ {ds : List D} {vs : List V}, D.lf.lfA ds = true → RepA K O H ds vs → RepA K O' H ds vs
  | _, _, _, .nil => .nil
  | _, _, z, .cons h r => by
    have z2 : (_ && _) = true := z
    rw [Bool.and_eq_true] at z2
    exact .cons (Rep.lf c z2.1 h) (RepA.lf c z2.2 r)
end
theorem RepA.length : ∀ {ds : List D} {vs : List V}, RepA K O H ds vs → ds.length = vs.length
  | _, _, .nil => rfl
  | _, _, .cons _ r => by rw [List.length_cons, List.length_cons, RepA.length r]
theorem RepA.get : ∀ {ds : List D} {vs : List V} {i : Nat} {d : D}, RepA K O H ds vs → ds[i]? = some d → ∃ v, vs[i]? = some v ∧ Rep K O H d v
  | _, _, _, _, .nil, e => by simp at e
  | _, _, 0, _, .cons h _, e => by simp at e; subst e; exact ⟨_, rfl, h⟩
  | _, _, i + 1, _, .cons _ r, e => by
    obtain ⟨v, h1, h2⟩ := RepA.get (i := i) r (by simpa using e)
    exact ⟨v, by simpa using h1, h2⟩
theorem RepA.getV : ∀ {ds : List D} {vs : List V} {i : Nat} {v : V}, RepA K O H ds vs → vs[i]? = some v → ∃ d, ds[i]? = some d ∧ Rep K O H d v
  | _, _, _, _, .nil, e => by simp at e
  | _, _, 0, _, .cons h _, e => by simp at e; subst e; exact ⟨_, rfl, h⟩
  | _, _, i + 1, _, .cons _ r, e => by
    obtain ⟨v, h1, h2⟩ := RepA.getV (i := i) r (by simpa using e)
    exact ⟨v, by simpa using h1, h2⟩
theorem RepA.append : ∀ {ds es : List D} {vs ws : List V}, RepA K O H ds vs → RepA K O H es ws → RepA K O H (ds ++ es) (vs ++ ws)
  | _, _, _, _, .nil, s => s
  | _, _, _, _, .cons h r, s => .cons h (RepA.append r s)
theorem RepA.take : ∀ {ds : List D} {vs : List V} (n : Nat), RepA K O H ds vs → RepA K O H (ds.take n) (vs.take n)
  | _, _, 0, _ => .nil
  | _, _, _ + 1, .nil => .nil
  | _, _, n + 1, .cons h r => .cons h (RepA.take n r)
theorem RepA.drop : ∀ {ds : List D} {vs : List V} (n : Nat), RepA K O H ds vs → RepA K O H (ds.drop n) (vs.drop n)
  | _, _, 0, r => r
  | _, _, _ + 1, .nil => .nil
  | _, _, n + 1, .cons _ r => RepA.drop n r
theorem RepA.set : ∀ {ds : List D} {vs : List V} {d : D} {v : V} (i : Nat), Rep K O H d v → RepA K O H ds vs → RepA K O H (ds.set i d) (vs.set i v)
  | _, _, _, _, _, _, .nil => .nil
  | _, _, _, _, 0, h, .cons _ r => .cons h r
  | _, _, _, _, i + 1, h, .cons q r => .cons q (RepA.set i h r)
theorem RepA.reverse : ∀ {ds : List D} {vs : List V}, RepA K O H ds vs → RepA K O H ds.reverse vs.reverse
  | _, _, .nil => .nil
  | _, _, .cons h r => by
    rw [List.reverse_cons, List.reverse_cons]
    exact (RepA.reverse r).append (.cons h .nil)
theorem RepA.replicate {d : D} {v : V} (h : Rep K O H d v) : ∀ n : Nat, RepA K O H (List.replicate n d) (List.replicate n v)
  | 0 => .nil
  | n + 1 => .cons h (RepA.replicate h n)
theorem RepA.flatRep {ds : List D} {vs : List V} (h : RepA K O H ds vs) : ∀ n : Nat, RepA K O H (List.replicate n ds).flatten (List.replicate n vs).flatten
  | 0 => .nil
  | n + 1 => by
    rw [List.replicate_succ, List.replicate_succ, List.flatten_cons, List.flatten_cons]
    exact h.append (RepA.flatRep h n)
end

/-! ### slots -/
def SlOk (K : PySem.W.Frag) (O : Addr → Prop) (H : Hp) : Sl → Option V → Prop
  | .un, _ => True
  | .im d, o => ∃ v, o = some v ∧ Rep K O H d v
  | .ow ds, o => ∃ p vs, o = some (.ref p) ∧ O p ∧ H p = some (.lst vs) ∧ RepA K O H ds vs
def OwnAt (ρ : Ev) (σ : L2.St) (i : Nat) (p : Addr) : Prop := (∃ ds, ρ[i]? = some (Sl.ow ds)) ∧ σ[i]? = some (some (.ref p))
def Own (ρ : Ev) (σ : L2.St) (p : Addr) : Prop := ∃ i, OwnAt ρ σ i p
/-- the def's ground: the written part, the names, what is wished of errors, the heap at the entry, the addresses to keep off, the lists that were lent -/
structure Bd where
  K : PySem.W.Frag
  mg : Str → Option Value
  W : WX
  H0 : Hp
  O0 : Addr → Prop
  lent : Nat → Addr → Prop
  n : Nat
  fr : Bool
structure Stx (B : Bd) (O : Addr → Prop) (ρ : Ev) (σ : L2.St) (H : Hp) : Prop where
  len : ρ.length = σ.length
  ok : ∀ (i : Nat) (s : Sl), ρ[i]? = some s → ∃ o, σ[i]? = some o ∧ SlOk B.K O H s o
  inj : ∀ i j p, OwnAt ρ σ i p → OwnAt ρ σ j p → i = j
  trk : ∀ a, O a → ∃ vs, H a = some (.lst vs)
  keep : Chg (fun a => ∃ i, B.lent i a) B.H0 H
  own : ∀ p, Own ρ σ p → (∃ i, B.lent i p) ∨ B.H0 p = none
  sup : ∀ a, B.O0 a → O a
  lent : ∀ i p, B.lent i p → OwnAt ρ σ i p
  lentN : ∀ i p, B.lent i p → i < B.n
  o0 : ∀ a, B.O0 a → ∃ o, B.H0 a = some o

/-- the same places are own lists -/
def Shp (ρ ρ' : Ev) : Prop := ρ'.length = ρ.length ∧ ∀ i : Nat, (∃ ds, ρ[i]? = some (Sl.ow ds)) ↔ (∃ ds, ρ'[i]? = some (Sl.ow ds))
theorem Shp.refl {ρ : Ev} : Shp ρ ρ := ⟨rfl, fun _ => Iff.rfl⟩
theorem Shp.trans {ρ ρ1 ρ2 : Ev} (a : Shp ρ ρ1) (b : Shp ρ1 ρ2) : Shp ρ ρ2 := ⟨b.1.trans a.1, fun i => (a.2 i).trans (b.2 i)⟩
theorem Shp.own {ρ ρ' : Ev} {σ : L2.St} (h : Shp ρ ρ') {p : Addr} : Own ρ σ p ↔ Own ρ' σ p :=
  ⟨fun ⟨i, a, b⟩ => ⟨i, (h.2 i).mp a, b⟩, fun ⟨i, a, b⟩ => ⟨i, (h.2 i).mpr a, b⟩⟩
/-- behind an expression -/
structure Ps (B : Bd) (O : Addr → Prop) (ρ : Ev) (σ : L2.St) (H : Hp) (ρ' : Ev) (H' : Hp) : Prop where
  st : Stx B O ρ' σ H'
  shp : Shp ρ ρ'
  chg : Chg (Own ρ σ) H H'
section
variable {B : Bd} {O : Addr → Prop} {ρ ρ1 ρ2 : Ev} {σ : L2.St} {H H1 H2 : Hp}
theorem Stx.ownO (S : Stx B O ρ σ H) : ∀ p, Own ρ σ p → O p := fun p ⟨i, ⟨ds, e⟩, e2⟩ => by
  obtain ⟨o, h1, q, vs, h2, h3, _⟩ := S.ok i _ e
  rw [e2] at h1; cases h1; cases h2
  exact h3
theorem Ps.refl (S : Stx B O ρ σ H) : Ps B O ρ σ H ρ H := ⟨S, Shp.refl, Chg.refl⟩
theorem Ps.trans (a : Ps B O ρ σ H ρ1 H1) (b : Ps B O ρ1 σ H1 ρ2 H2) : Ps B O ρ σ H ρ2 H2 :=
  ⟨b.st, a.shp.trans b.shp, a.chg.trans (b.chg.sub fun _ z => a.shp.own.mpr z)⟩
theorem Stx.ext (S : Stx B O ρ σ H) (e : Ext H H1) : Stx B O ρ σ H1 where
  len := S.len
  ok := fun i s h => by
    obtain ⟨o, h1, h2⟩ := S.ok i s h
    refine ⟨o, h1, ?_⟩
    cases s with
    | un => trivial
    | im d => obtain ⟨v, z, r⟩ := h2; exact ⟨v, z, r.ext e⟩
    | ow ds => obtain ⟨p, vs, z1, z2, z3, z4⟩ := h2; exact ⟨p, vs, z1, z2, e _ _ z3, z4.ext e⟩
  inj := S.inj
  trk := fun a z => let ⟨vs, q⟩ := S.trk a z; ⟨vs, e a _ q⟩
  keep := fun a o h n => e a o (S.keep a o h n)
  own := S.own
  sup := S.sup
  lent := S.lent
  lentN := S.lentN
  o0 := S.o0
theorem Ps.ext (S : Stx B O ρ σ H) (e : Ext H H1) : Ps B O ρ σ H ρ H1 := ⟨S.ext e, Shp.refl, Chg.of e⟩
theorem Ps.rep (P : Ps B O ρ σ H ρ1 H1) (S : Stx B O ρ σ H) {d : D} {v : V} (r : Rep B.K O H d v) : Rep B.K O H1 d v := r.mono P.chg S.ownO
theorem Ps.repA (P : Ps B O ρ σ H ρ1 H1) (S : Stx B O ρ σ H) {d : List D} {v : List V} (r : RepA B.K O H d v) : RepA B.K O H1 d v := r.mono P.chg S.ownO
end

/-! ### outcomes -/
def Out {α : Type} (B : Bd) (O : Addr → Prop) (ρ : Ev) (σ : L2.St) (H : Hp) (r : Rs α) (Q : α → Ev → Hp → Prop) : Prop :=
  match r with
  | .ok a ρ' => ∀ H', Ps B O ρ σ H ρ' H' → Q a ρ' H'
  | .exc n ρ' => ∀ H' C, Ps B O ρ σ H ρ' H' → B.mg n = some (.ref C) → B.W (.ref C) none σ H'
  | .bad => False
abbrev Cm (α : Type) := Ev → Rs α
def ret {α : Type} (a : α) : Cm α := fun ρ => .ok a ρ
def bnd {α β : Type} (f : Cm α) (g : α → Cm β) : Cm β := fun ρ => match f ρ with
  | .ok a ρ' => g a ρ'
  | .exc n ρ' => .exc n ρ'
  | .bad => .bad
def lift {α : Type} (o : Option α) : Cm α := fun ρ => match o with
  | some a => .ok a ρ
  | none => .bad
section
variable {α β : Type} {B : Bd} {O : Addr → Prop} {ρ ρ1 : Ev} {σ : L2.St} {H H1 : Hp}
theorem Out.imp {r : Rs α} {Q Q' : α → Ev → Hp → Prop} (h : Out B O ρ σ H r Q) (q : ∀ a ρ' H', Ps B O ρ σ H ρ' H' → Q a ρ' H' → Q' a ρ' H') : Out B O ρ σ H r Q' := by
  cases r with
  | ok a ρ' => exact fun H' P => q a ρ' H' P (h H' P)
  | exc n ρ' => exact h
  | bad => exact h
theorem Out.from {r : Rs α} {Q : α → Ev → Hp → Prop} (h : Out B O ρ σ H r Q) (P : Ps B O ρ σ H ρ1 H1) : Out B O ρ1 σ H1 r Q := by
  cases r with
  | ok a ρ' => exact fun H' P' => h H' (P.trans P')
  | exc n ρ' => exact fun H' C P' e => h H' C (P.trans P') e
  | bad => exact h
theorem Out.bind {f : Cm α} {g : α → Cm β} {Q : β → Ev → Hp → Prop} (h : Out B O ρ σ H (bnd f g ρ) Q) :
    Out B O ρ σ H (f ρ) fun a ρ1 H1 => Out B O ρ1 σ H1 (g a ρ1) Q := by
  unfold bnd at h
  cases e : f ρ with
  | ok a ρ1 =>
    rw [e] at h
    exact fun H1 P => h.from P
  | exc n ρ1 => rw [e] at h; exact h
  | bad => rw [e] at h; exact h
theorem Out.ret {a : α} {Q : α → Ev → Hp → Prop} (S : Stx B O ρ σ H) (h : Out B O ρ σ H (V3.ret a ρ) Q) : Q a ρ H := h H (Ps.refl S)
theorem Out.lift {o : Option α} {Q : α → Ev → Hp → Prop} (h : Out B O ρ σ H (V3.lift o ρ) Q) : ∃ a, o = some a ∧ ∀ H', Ps B O ρ σ H ρ H' → Q a ρ H' := by
  cases o with
  | none => exact h.elim
  | some a => exact ⟨a, rfl, fun H' P => h H' P⟩
end

/-! ### readings of expressions, tests, argument lists -/
def tV (B : Bd) (f : Cm D) : TE := fun σ H Q => ∃ ρ O, Stx B O ρ σ H ∧ Out B O ρ σ H (f ρ) fun d ρ' H' => ∀ v, Rep B.K O H' d v → Q v H'
def tT (B : Bd) (f : Cm Bool) : TT := fun σ H Q => ∃ ρ O, Stx B O ρ σ H ∧ Out B O ρ σ H (f ρ) fun b ρ' H' => Q b H'
/-- a weaker reading -/
theorem pe_imp {X : Cx} {e : Expr} {t t' : TE} (h : PE X e t) (i : ∀ σ H Q, t' σ H Q → t σ H Q) : PE X e t' := ⟨fun pins s σ H Q I z => h.run pins s σ H Q I (i σ H Q z)⟩
theorem pt_imp {X : Cx} {e : Expr} {t t' : TT} (h : PT X e t) (i : ∀ σ H Q, t' σ H Q → t σ H Q) : PT X e t' := ⟨fun pins s σ H Q I z => h.run pins s σ H Q I (i σ H Q z)⟩
theorem pw_imp {X : Cx} {e : Expr} {t t' : TT} (h : PW X e t) (i : ∀ σ H Q, t' σ H Q → t σ H Q) : PW X e t' := ⟨fun wh pins s σ H Q I z => h.run wh pins s σ H Q I (i σ H Q z)⟩
theorem pa_imp {X : Cx} {es : List Expr} {t t' : TA} (h : PA X es t) (i : ∀ σ H Q, t' σ H Q → t σ H Q) : PA X es t' := ⟨fun pos pins s σ H Q I z => h.run pos pins s σ H Q I (i σ H Q z)⟩
theorem ps_imp {X : Cx} {e : Stmt} {t t' : TS} (h : PS X e t) (i : ∀ D σ H, t' D σ H → t D σ H) : PS X e t' := ⟨fun pins s σ H D I z => h.run pins s σ H D I (i D σ H z)⟩
theorem pss_imp {X : Cx} {e : List Stmt} {t t' : TS} (h : PSs X e t) (i : ∀ D σ H, t' D σ H → t D σ H) : PSs X e t' := ⟨fun pins s σ H D I z => h.run pins s σ H D I (i D σ H z)⟩
end V3
end

section
set_option Elab.async false
set_option linter.all false
set_option maxRecDepth 100000
set_option maxHeartbeats 1000000
/-! V3b: operators by data. -/
namespace V3
open PySem PySem.Spec PyProof.Rows L2

/-! ### data operators -/
def mulOk (i j : Int) : Bool := decide (i.natAbs.log2 + j.natAbs.log2 < 134000000)
theorem mulOk.ok {i j : Int} (h : mulOk i j = true) : IntMulOk i j := by
  have b : ∀ x : Int, Builtin.Int.intBits x ≤ x.natAbs.log2 + 1 := fun x => by
    unfold Builtin.Int.intBits
    split <;> omega
  have h1 := b i
  have h2 := b j
  have h3 : i.natAbs.log2 + j.natAbs.log2 < 134000000 := of_decide_eq_true h
  have e : bitsLine = 134217728 := by decide
  unfold IntMulOk
  intro z
  rw [Bool.and_eq_true] at z
  have z2 := z.2
  unfold Builtin.Int.intTooBig at z2
  have z3 := of_decide_eq_true z2
  rw [e] at z3
  omega
def fdivOk (i j : Int) : Bool := decide (j ≠ 0) && !Builtin.divisionGoesByPylong i j
def addD : D → D → Option D
  | .int i, .int j => some (.int (i + j))
  | .str x, .str y => if x.length + y.length ≤ sizeLine then some (.str (x ++ y)) else none
  | .tup xs, .tup ys => if xs.length + ys.length ≤ sizeLine then some (.tup (xs ++ ys)) else none
  | .lst xs, .lst ys => if xs.length + ys.length ≤ sizeLine then some (.lst (xs ++ ys)) else none
  | _, _ => none
def subD : D → D → Option D
  | .int i, .int j => some (.int (i - j))
  | _, _ => none
def repS (x : Str) (k : Nat) : Str := ⟨(List.replicate k x.cps).foldl (· ++ ·) #[]⟩
def mulD : D → D → Option D
  | .int i, .int j => if mulOk i j = true then some (.int (i * j)) else none
  | .tup xs, .int k => if -1000 ≤ k ∧ k ≤ 1000 ∧ xs.length ≤ 1000 then some (.tup (List.replicate k.toNat xs).flatten) else none
  | .lst xs, .int k => if -1000000 ≤ k ∧ k ≤ 1000000 ∧ xs.length * k.toNat ≤ sizeLine then some (.lst (List.replicate k.toNat xs).flatten) else none
  | .str x, .int k => if 0 ≤ k ∧ k ≤ 1 then some (.str (if k = 0 then Str.empty else x)) else none
  | _, _ => none
def fdivD : D → D → Option D
  | .int i, .int j => if fdivOk i j = true then some (.int (i.fdiv j)) else none
  | _, _ => none
def modD : D → D → Option D
  | .int i, .int j => if j ≠ 0 then some (.int (i.fmod j)) else none
  | _, _ => none
def powD : D → D → Option D
  | .int i, .int j => if 0 ≤ j ∧ j ≤ 1000000 ∧ i.natAbs < 2 ^ 64 then some (.int (i ^ j.toNat)) else none
  | _, _ => none
def negD : D → Option D
  | .int i => some (.int (-i))
  | _ => none
def notD : D → Option D
  | .bl b => some (.bl (!b))
  | _ => none
def cmpI (p : Int → Int → Bool) : D → D → Option D
  | .int i, .int j => some (.bl (p i j))
  | _, _ => none
mutual
def D.py : D → Option PyData
  | .non => some .none
  | .bl b => some (.bool b)
  | .int i => some (.int i)
  | .str s => some (.str s)
  | .lst ds => (D.pyA ds).map .list
  | .tup ds => (D.pyA ds).map .tuple
  | .fz _ => none
def D.pyA : List D → Option (List PyData)
  | [] => some []
  | d :: ds => match D.py d, D.pyA ds with
    | some p, some ps => some (p :: ps)
    | _, _ => none
end
def eqD (d e : D) : Option D := match d.py, e.py with
  | some p, some q => if SeqAt.shaped p = true ∧ SeqAt.shaped q = true then some (.bl (PyData.eqv p q)) else none
  | _, _ => none
def neD (d e : D) : Option D := match d.py, e.py with
  | some p, some q => if SeqAt.shaped p = true ∧ SeqAt.shaped q = true then some (.bl (!PyData.eqv p q)) else none
  | _, _ => none
def isNone : D → Bool
  | .non => true
  | _ => false
def isND (d e : D) : Option D := if isNone e then some (.bl (isNone d)) else none
def isNotND (d e : D) : Option D := if isNone e then some (.bl (!isNone d)) else none
def inD : D → D → Option D
  | .str x, .str y => match x.cps.toList with
    | [c] => some (.bl (decide (c ∈ y.cps.toList)))
    | _ => none
  | d, .lst ds => match d.py, D.pyA ds with
    | some p, some qs => if SeqAt.shaped p = true ∧ SeqAt.shaped (.list qs) = true then some (.bl (qs.any fun z => PyData.eqv z p)) else none
    | _, _ => none
  | _, _ => none
def notInD (d e : D) : Option D := (inD d e).bind notD
def ixD : D → D → Option D
  | .lst ds, .int i => atI ds i
  | .fz ds, .int i => atI ds i
  | .tup ds, .int i => atI ds i
  | .str z, .int i => if z.length ≤ sizeLine then (atI z.cps.toList i).map fun c => .str ⟨#[c]⟩ else none
  | _, _ => none

/-- an operator's rule does what the data operator says -/
def Prim2 (K : PySem.W.Frag) (r : R2) (g : D → D → Option D) : Prop :=
  ∀ (O : Addr → Prop) (H : Hp) (d e z : D) (x y : V) (Q : VK), Rep K O H d x → Rep K O H e y → g d e = some z → (∀ a, O a → ∃ o, H a = some o) → (∀ v H', Ext H H' → Rep K O H' z v → Q v H') → r x y H Q
def Prim1 (K : PySem.W.Frag) (r : V → Hp → VK → Prop) (g : D → Option D) : Prop :=
  ∀ (O : Addr → Prop) (H : Hp) (d z : D) (x : V) (Q : VK), Rep K O H d x → g d = some z → (∀ a, O a → ∃ o, H a = some o) → (∀ v H', Ext H H' → Rep K O H' z v → Q v H') → r x H Q
def PrimA (K : PySem.W.Frag) (r : List V → Hp → VK → Prop) (g : List D → Option D) : Prop :=
  ∀ (O : Addr → Prop) (H : Hp) (ds : List D) (z : D) (xs : List V) (Q : VK), RepA K O H ds xs → g ds = some z → (∀ a, O a → ∃ o, H a = some o) → (∀ v H', Ext H H' → Rep K O H' z v → Q v H') → r xs H Q

theorem Ext.rfl' {H : Hp} : Ext H H := fun _ _ h => h
section
variable {K : PySem.W.Frag} {O : Addr → Prop} {H : Hp}
theorem newL {ds : List D} {xs : List V} {p : Addr} (r : RepA K O H ds xs) (t : ∀ a, O a → ∃ o, H a = some o) (hp : H p = none) : Rep K O (upd H p (.lst xs)) (.lst ds) (.ref p) :=
  .lst ⟨fun z => (by obtain ⟨o, e⟩ := t p z; rw [hp] at e; cases e), upd_same⟩ (r.ext (ext_upd hp))
theorem newT {ds : List D} {xs : List V} {p : Addr} (r : RepA K O H ds xs) (t : ∀ a, O a → ∃ o, H a = some o) (hp : H p = none) : Rep K O (upd H p (.tup xs)) (.tup ds) (.ref p) :=
  .tup (.inl ⟨fun z => (by obtain ⟨o, e⟩ := t p z; rw [hp] at e; cases e), upd_same⟩) (r.ext (ext_upd hp))
mutual
theorem Rep.dp : ∀ {d : D} {v : V} {p : PyData}, Rep K O H d v → d.py = some p → Dp K H v p
  | _, _, _, .non, e => by cases e; exact .non
  | _, _, _, .bl b, e => by cases e; exact .bl b
  | _, _, _, .int i, e => by cases e; exact .int i
  | _, _, _, .str x, e => by cases e; exact .str x
  | .lst ds, _, p, .lst h r, e => by
    simp only [D.py] at e
    cases q : D.pyA ds with
    | none => rw [q] at e; cases e
    | some ps =>
      rw [q] at e
      cases e
      exact .lst h.sq (RepA.dp r q)
  | .tup ds, _, p, .tup h r, e => by
    simp only [D.py] at e
    cases q : D.pyA ds with
    | none => rw [q] at e; cases e
    | some ps =>
      rw [q] at e
      cases e
      exact .tup h.sq (RepA.dp r q)
  | _, _, _, .fz _ _, e => by cases e
theorem RepA.dp : ∀ {ds : List D} {vs : List V} {ps : List PyData}, RepA K O H ds vs → D.pyA ds = some ps → DpAll K H vs ps
  | _, _, _, .nil, e => by cases e; exact .nil
  | d :: ds, _, ps, .cons h r, e => by
    simp only [D.pyA] at e
    cases q1 : D.py d with
    | none => rw [q1] at e; cases e
    | some p =>
      cases q2 : D.pyA ds with
      | none => rw [q1, q2] at e; cases e
      | some qs =>
        rw [q1, q2] at e
        cases e
        exact .cons (Rep.dp h q1) (RepA.dp r q2)
end
theorem RepA.atI {ds : List D} {xs : List V} {i : Int} {z : D} (r : RepA K O H ds xs) (e : L2.atI ds i = some z) : ∃ v, L2.atI xs i = some v ∧ Rep K O H z v := by
  unfold L2.atI at e ⊢
  rw [← r.length]
  cases q : ixN ds.length i with
  | none => rw [q] at e; cases e
  | some j =>
    rw [q] at e
    exact r.get e
end


section
variable {X : Cx}
/-! ### rules that lack -/
def rCatT0 (K : PySem.W.Frag) : R2 := fun x y H Q => ∃ a b ys, x = .ref a ∧ y = .ref b ∧ SqT K H a [] ∧ SqT K H b ys ∧ Q (.ref b) H
theorem op_catT0 : OpR X (binaryOp .Add) (rCatT0 X.K) := by
  intro pins s σ H x y v u Q I rx ry h
  obtain ⟨a, b, ys, rfl, rfl, ha, hb, q⟩ := h
  cases rx
  cases ry
  obtain ⟨its, r1, ⟨⟨cls, dd, data, sl⟩, ho, hc, n, hd⟩, _⟩ := I.tuple ha
  obtain ⟨its2, r2, ⟨⟨cls2, dd2, data2, sl2⟩, ho2, hc2, n2, hd2⟩, _⟩ := I.tuple hb
  simp only at hc hd hc2 hd2
  subst hc hd hc2 hd2
  cases r1
  exact concat_meets ⟨_, ho, rfl⟩ ⟨_, ho2, rfl⟩ noFill_tuple_add seq_tuple_add PySem.F.slot_tuple_add PySem.F.entry_tuple_add (PySem.F.args_tuple_add_2 _ _)
    (tuple_addW0 a b _ its2.toArray n n2 dd dd2 sl sl2 (by simp)) ⟨ho, ho2, ⟨.ref b, H, I, rfl, q⟩⟩
theorem tuple_mul_same (l : Addr) (items : Array Value) (n : Nat) (dd : Option Addr) (sl : Array (Option Value)) (x : Int) (u : Tok) (c0 : (decide (x < -(2 ^ 63)) || decide (x ≥ 2 ^ 63)) = false) (c1 : (items.isEmpty || x == 1) = true) :
    Meets (Builtin.«tuple.__mul__» ⟨[.ref l, .int x u], []⟩) (fun _ R s => s.heap.get? l = some { cls := .type "tuple", dict := dd, data := .seq items n, slots := sl } ∧ R (.ok (.ret (Value.ref l))) { s with heap := s.heap, toks := s.toks }) :=
  .of_wp fun prog w A R s h => by
    obtain ⟨hp, g, d, tk, os⟩ := s
    obtain ⟨hl, h⟩ := h
    have f1 := AutoSeq1.idx_int
    wp_walk using wpAny_loadPart' hl
    repeat (first
      | (refine wpAny_ite_false (decide_eq_false (by rw [c0]; exact Bool.false_ne_true)) ?_; wp_walk using wpAny_loadPart' hl)
      | (refine wpAny_ite_true (decide_eq_true c1) ?_; wp_walk using wpAny_loadPart' hl))
    exact ⟨_, rfl, h⟩
theorem tuple_mul_none (l : Addr) (items : Array Value) (n : Nat) (dd : Option Addr) (sl : Array (Option Value)) (x : Int) (u : Tok) (c0 : (decide (x < -(2 ^ 63)) || decide (x ≥ 2 ^ 63)) = false) (c1 : (items.isEmpty || x == 1) = false) (c2 : (decide (x ≤ 0) || items.isEmpty) = true) :
    Meets (Builtin.«tuple.__mul__» ⟨[.ref l, .int x u], []⟩) (fun _ R s => s.heap.get? l = some { cls := .type "tuple", dict := dd, data := .seq items n, slots := sl } ∧
      R (.ok (.ret (Value.ref s.heap.objs.size))) { s with heap := s.heap.push { cls := Value.type "tuple", data := Data.seq #[] }, toks := s.toks }) :=
  .of_wp fun prog w A R s h => by
    obtain ⟨hp, g, d, tk, os⟩ := s
    obtain ⟨hl, h⟩ := h
    have f1 := AutoSeq1.idx_int
    wp_walk using wpAny_loadPart' hl
    repeat (first
      | (refine wpAny_ite_false (decide_eq_false (by rw [c0]; exact Bool.false_ne_true)) ?_; wp_walk using wpAny_loadPart' hl)
      | (refine wpAny_ite_false (decide_eq_false (by rw [c1]; exact Bool.false_ne_true)) ?_; wp_walk using wpAny_loadPart' hl)
      | (refine wpAny_ite_true (decide_eq_true c2) ?_; wp_walk using wpAny_loadPart' hl))
    exact ⟨_, rfl, h⟩
def rRepT1 (K : PySem.W.Frag) : R2 := fun x y H Q => ∃ l k xs, x = .ref l ∧ y = .int k ∧ SqT K H l xs ∧ -1000 ≤ k ∧ k ≤ 1000 ∧ (xs = [] ∨ k ≤ 1) ∧
  ((xs = [] ∨ k = 1) → Q (.ref l) H) ∧ (xs ≠ [] → k ≤ 0 → ∀ p, H p = none → Q (.ref p) (upd H p (.tup [])))
theorem op_repT1 : OpR X (binaryOp .Mult) (rRepT1 X.K) := by
  intro pins s σ H x y v u Q I rx ry h
  obtain ⟨l, k, xs, rfl, rfl, hT, h1, h2, hk, q1, q2⟩ := h
  cases rx
  obtain ⟨t, rfl⟩ := ry
  obtain ⟨its, r, ⟨⟨cls, dd, data, sl⟩, ho, hc, n, hd⟩, hs⟩ := I.tuple hT
  simp only at hc hd
  subst hc hd
  have c0 : (decide (k < -(2 ^ 63)) || decide (k ≥ 2 ^ 63)) = false := by
    rw [decide_eq_false (by omega), decide_eq_false (by omega)] <;> rfl
  have hie : its.toArray.isEmpty = xs.isEmpty := by
    cases r <;> rfl
  refine wpAny_binaryOp_repeat_ref (T := "tuple") (U := "int") (by decide) ⟨_, ho, rfl⟩ (fun s' => typeIs_int s' k t) noFill_tuple_mul F.fills_int_mul F.slot_int_rmul repeat_tuple F.slot_int_index.lookup
    (call_meets F.slot_int_rmul (typeIs_int s k t) F.entry_int_rmul (F.args_int_rmul_2 _ _) (int_rmul_tuple k t l its.toArray n dd sl)
      ⟨ho, rfl, ⟨_, ho, rfl⟩, ?_⟩)
  by_cases he : xs = [] ∨ k = 1
  · have c1 : (its.toArray.isEmpty || k == 1) = true := by
      rw [hie]
      rcases he with e | e
      · subst e; rfl
      · subst e; simp
    exact call_meets F.slot_tuple_mul ⟨_, ho, rfl⟩ F.entry_tuple_mul (F.args_tuple_mul_2 _ _) (tuple_mul_same l its.toArray n dd sl k t c0 c1) ⟨ho, ⟨.ref l, H, I, rfl, q1 he⟩⟩
  · have hne : xs ≠ [] := fun e => he (.inl e)
    have hk0 : k ≤ 0 := by
      rcases hk with e | e
      · exact absurd e hne
      · have : k ≠ 1 := fun e => he (.inr e)
        omega
    have hx : xs.isEmpty = false := by
      cases xs with
      | nil => exact absurd rfl hne
      | cons _ _ => rfl
    have c1 : (its.toArray.isEmpty || k == 1) = false := by
      rw [hie, hx, Bool.false_or]
      exact beq_eq_false_iff_ne.mpr (by omega)
    have c2 : (decide (k ≤ 0) || its.toArray.isEmpty) = true := by rw [decide_eq_true hk0]; rfl
    refine call_meets F.slot_tuple_mul ⟨_, ho, rfl⟩ F.entry_tuple_mul (F.args_tuple_mul_2 _ _) (tuple_mul_none l its.toArray n dd sl k t c0 c1 c2) ⟨ho, ?_⟩
    refine ⟨.ref s.heap.objs.size, _, I.laid (t' := s.toks) (o := .tup []) (fun b ob q => Heap.get?_push_of_some _ q) (Nat.le_refl _) ?_, rfl, q2 hne hk0 _ (I.hok.fresh (Nat.le_refl _))⟩
    exact ⟨Nat.zero_le _, [], .nil, IsTup.new _ _⟩
/-- a text taken once or not at all -/
def rRepS : R2 := fun x y H Q => ∃ z k, x = .str z ∧ y = .int k ∧ 0 ≤ k ∧ k ≤ 1 ∧ Q (.str (if k = 0 then Str.empty else z)) H
theorem op_repS : OpR X (binaryOp .Mult) rRepS := by
  intro pins s σ H x y v u Q I rx ry h
  obtain ⟨z, k, rfl, rfl, h0, h1, q⟩ := h
  obtain ⟨t, rfl⟩ := rx
  obtain ⟨t', rfl⟩ := ry
  have hk : k = 0 ∨ k = 1 := by omega
  refine PySem.P.mul_str (by rw [decide_eq_false (by omega), decide_eq_false (by omega)]; rfl) (fun a b => ?_) (fun a b => ?_) ?_
  · rcases hk with rfl | rfl
    · omega
    · simp at b
  · rcases hk with rfl | rfl
    · omega
    · simp at b
  · rcases hk with rfl | rfl
    · rw [if_pos (by omega)]
      rw [if_pos rfl] at q
      exact ⟨by decide, ⟨.str Str.empty, H, I.tok _, ⟨_, rfl⟩, q⟩⟩
    · rw [if_neg (by omega), if_pos (show ((1 : Int) == 1 || z.length == 0) = true by simp)]
      rw [if_neg (by omega)] at q
      exact ⟨.str z, H, I, ⟨_, rfl⟩, q⟩
theorem op_mulV : OpR X (binaryOp .Mult) (rI (fun i j => mulOk i j = true) fun i j => .int (i * j)) := opI fun _ _ _ _ _ _ _ hc q => mul_int q (mulOk.ok hc)
theorem op_fdivV : OpR X (binaryOp .FloorDiv) (rI (fun i j => fdivOk i j = true) fun i j => .int (i.fdiv j)) := opI fun i j _ _ _ _ _ hc q => by
  have h0 : (decide (j ≠ 0) && !Builtin.divisionGoesByPylong i j) = true := hc
  rw [Bool.and_eq_true] at h0
  exact floordiv_int (of_decide_eq_true h0.1) q (.inl (by simpa using h0.2))
end

/-! ### the data operators' rules -/
section
variable {X : Cx} {K : PySem.W.Frag}
theorem prim_or2 {r r' : R2} {g : D → D → Option D} (h : ∀ (O : Addr → Prop) (H : Hp) (d e z : D) (x y : V) (Q : VK), Rep K O H d x → Rep K O H e y → g d e = some z → (∀ a, O a → ∃ o, H a = some o) → (∀ v H', Ext H H' → Rep K O H' z v → Q v H') → r x y H Q ∨ r' x y H Q) :
    Prim2 K (fun x y H Q => r x y H Q ∨ r' x y H Q) g := h
def rAddV (K : PySem.W.Frag) : R2 := fun x y H Q => (rI0 (fun i j => .int (i + j)) x y H Q ∨ (∃ i j, x = .str i ∧ y = .str j ∧ i.length + j.length ≤ sizeLine ∧ Q (.str (i ++ j)) H)) ∨ (rCatT K x y H Q ∨ rCatT0 K x y H Q) ∨ rCat x y H Q
theorem op_addV : OpR X (binaryOp .Add) (rAddV X.K) := (op_add.or op_add_str).or ((op_catT.or op_catT0).or op_cat)
theorem prim_add : Prim2 K (rAddV K) addD := by
  intro O H d e z x y Q rx ry hg t hq
  cases rx with
  | non => cases hg
  | bl b => cases hg
  | fz _ _ => cases ry <;> cases hg
  | int i =>
    cases ry with
    | int j => cases hg; exact .inl (.inl ⟨i, j, rfl, rfl, hq _ _ Ext.rfl' (.int _)⟩)
    | _ => cases hg
  | str i =>
    cases ry with
    | str j =>
      simp only [addD] at hg
      split at hg
      · rename_i hl
        cases hg
        exact .inl (.inr ⟨i, j, rfl, rfl, hl, hq _ _ Ext.rfl' (.str _)⟩)
      · cases hg
    | _ => cases hg
  | lst h1 r1 =>
    cases ry with
    | lst h2 r2 =>
      simp only [addD] at hg
      split at hg
      · rename_i hl
        cases hg
        exact .inr (.inr ⟨_, _, _, _, rfl, rfl, h1.2, h2.2, by rw [← r1.length, ← r2.length]; exact hl, fun p hp => hq _ _ (ext_upd hp) (newL (r1.append r2) t hp)⟩)
      · cases hg
    | _ => cases hg
  | tup h1 r1 =>
    cases ry with
    | tup h2 r2 =>
      rename_i a xs ds b ys es
      simp only [addD] at hg
      split at hg
      · rename_i hl
        cases hg
        by_cases hx : xs = []
        · subst hx
          cases r1
          exact .inr (.inl (.inr ⟨_, _, _, rfl, rfl, h1.sq, h2.sq, hq _ _ Ext.rfl' (.tup h2 r2)⟩))
        · refine .inr (.inl (.inl ⟨_, _, _, _, rfl, rfl, h1.sq, h2.sq, hx, by rw [← r1.length, ← r2.length]; exact hl, fun hy => ?_, fun hy p hp => hq _ _ (ext_upd hp) (newT (r1.append r2) t hp)⟩))
          subst hy
          cases r2
          rw [List.append_nil] at hq
          exact hq _ _ Ext.rfl' (.tup h1 r1)
      · cases hg
    | _ => cases hg
theorem prim_sub : Prim2 K (rI0 fun i j => .int (i - j)) subD := by
  intro O H d e z x y Q rx ry hg t hq
  cases rx <;> cases ry <;> first | cases hg; done | skip
  rename_i i j
  cases hg
  exact ⟨i, j, rfl, rfl, hq _ _ Ext.rfl' (.int _)⟩
def rMulV (K : PySem.W.Frag) : R2 := fun x y H Q => (rI (fun i j => mulOk i j = true) (fun i j => .int (i * j)) x y H Q ∨ rRepS x y H Q) ∨ (rRepT K x y H Q ∨ rRepT1 K x y H Q) ∨ rRep x y H Q
theorem op_mulAll : OpR X (binaryOp .Mult) (rMulV X.K) := (op_mulV.or op_repS).or ((op_repT.or op_repT1).or op_rep)
theorem prim_mul : Prim2 K (rMulV K) mulD := by
  intro O H d e z x y Q rx ry hg t hq
  cases rx with
  | non => cases hg
  | bl b => cases hg
  | fz _ _ => cases ry <;> cases hg
  | int i =>
    cases ry with
    | int j =>
      simp only [mulD] at hg
      split at hg
      · rename_i hl
        cases hg; exact .inl (.inl ⟨i, j, rfl, rfl, hl, hq _ _ Ext.rfl' (.int _)⟩)
      · cases hg
    | _ => cases hg
  | str i =>
    cases ry with
    | int k =>
      simp only [mulD] at hg
      split at hg
      · rename_i hl
        cases hg
        exact .inl (.inr ⟨i, k, rfl, rfl, hl.1, hl.2, hq _ _ Ext.rfl' (.str _)⟩)
      · cases hg
    | _ => cases hg
  | lst h1 r1 =>
    cases ry with
    | int k =>
      simp only [mulD] at hg
      split at hg
      · rename_i hl
        cases hg
        exact .inr (.inr ⟨_, k, _, rfl, rfl, h1.2, by omega, by omega, by rw [← r1.length]; exact hl.2.2, fun p hp => hq _ _ (ext_upd hp) (newL (r1.flatRep _) t hp)⟩)
      · cases hg
    | _ => cases hg
  | tup h1 r1 =>
    cases ry with
    | int k =>
      rename_i a xs ds
      simp only [mulD] at hg
      split at hg
      · rename_i hl
        cases hg
        by_cases hk : xs = [] ∨ k ≤ 1
        · refine .inr (.inl (.inr ⟨_, k, _, rfl, rfl, h1.sq, hl.1, hl.2.1, hk, fun he => ?_, fun hx hk0 p hp => ?_⟩))
          · have e : (List.replicate k.toNat ds).flatten = ds := by
              rcases he with e | e
              · subst e
                cases r1
                simp
              · subst e
                simp
            rw [e] at hq
            exact hq _ _ Ext.rfl' (.tup h1 r1)
          · have e : k.toNat = 0 := by omega
            rw [e] at hq
            exact hq _ _ (ext_upd hp) (newT .nil t hp)
        · have h2 : xs ≠ [] := fun e => hk (.inl e)
          have h3 : ¬ k ≤ 1 := fun e => hk (.inr e)
          exact .inr (.inl (.inl ⟨_, k, _, rfl, rfl, h1.sq, h2, by omega, hl.2.1, by rw [← r1.length]; exact hl.2.2, fun p hp => hq _ _ (ext_upd hp) (newT (r1.flatRep _) t hp)⟩))
      · cases hg
    | _ => cases hg
theorem prim_fdiv : Prim2 K (rI (fun i j => fdivOk i j = true) fun i j => .int (i.fdiv j)) fdivD := by
  intro O H d e z x y Q rx ry hg t hq
  cases rx <;> cases ry <;> first | cases hg; done | skip
  rename_i i j
  simp only [fdivD] at hg
  split at hg
  · rename_i hl
    cases hg
    exact ⟨i, j, rfl, rfl, hl, hq _ _ Ext.rfl' (.int _)⟩
  · cases hg
theorem prim_mod : Prim2 K (rI (fun _ j => j ≠ 0) fun i j => .int (i.fmod j)) modD := by
  intro O H d e z x y Q rx ry hg t hq
  cases rx <;> cases ry <;> first | cases hg; done | skip
  rename_i i j
  simp only [modD] at hg
  split at hg
  · rename_i hl
    cases hg
    exact ⟨i, j, rfl, rfl, hl, hq _ _ Ext.rfl' (.int _)⟩
  · cases hg
theorem prim_pow : Prim2 K (rI CPow fun i j => .int (i ^ j.toNat)) powD := by
  intro O H d e z x y Q rx ry hg t hq
  cases rx <;> cases ry <;> first | cases hg; done | skip
  rename_i i j
  simp only [powD] at hg
  split at hg
  · rename_i hl
    cases hg
    exact ⟨i, j, rfl, rfl, hl, hq _ _ Ext.rfl' (.int _)⟩
  · cases hg
theorem prim_cmpI {p : Int → Int → Bool} : Prim2 K (rI0 fun i j => .bl (p i j)) (cmpI p) := by
  intro O H d e z x y Q rx ry hg t hq
  cases rx <;> cases ry <;> first | cases hg; done | skip
  rename_i i j
  cases hg
  exact ⟨i, j, rfl, rfl, hq _ _ Ext.rfl' (.bl _)⟩
theorem prim_eq : Prim2 K (rEqD K) eqD := by
  intro O H d e z x y Q rx ry hg t hq
  unfold eqD at hg
  split at hg
  · rename_i p q hp hq'
    split at hg
    · rename_i hs
      cases hg
      exact ⟨p, q, rx.dp hp, ry.dp hq', hs.1, hs.2, hq _ _ Ext.rfl' (.bl _)⟩
    · cases hg
  · cases hg
theorem prim_ne : Prim2 K (rNeD K) neD := by
  intro O H d e z x y Q rx ry hg t hq
  unfold neD at hg
  split at hg
  · rename_i p q hp hq'
    split at hg
    · rename_i hs
      cases hg
      exact ⟨p, q, rx.dp hp, ry.dp hq', hs.1, hs.2, hq _ _ Ext.rfl' (.bl _)⟩
    · cases hg
  · cases hg
theorem isNone_rep {O : Addr → Prop} {H : Hp} {d : D} {x : V} (r : Rep K O H d x) : decide (x = .non) = isNone d := by
  cases r <;> first | rfl | exact decide_eq_false (fun q => nomatch q)
theorem prim_isN : Prim2 K (fun x y H Q => y = .non ∧ Q (.bl (decide (x = .non))) H) isND := by
  intro O H d e z x y Q rx ry hg t hq
  unfold isND at hg
  split at hg
  · rename_i he
    cases hg
    cases ry <;> first | cases he; done | skip
    refine ⟨rfl, ?_⟩
    rw [isNone_rep rx]
    exact hq _ _ Ext.rfl' (.bl _)
  · cases hg
theorem prim_isNotN : Prim2 K (fun x y H Q => y = .non ∧ Q (.bl (!decide (x = .non))) H) isNotND := by
  intro O H d e z x y Q rx ry hg t hq
  unfold isNotND at hg
  split at hg
  · rename_i he
    cases hg
    cases ry <;> first | cases he; done | skip
    refine ⟨rfl, ?_⟩
    rw [isNone_rep rx]
    exact hq _ _ Ext.rfl' (.bl _)
  · cases hg
end
end V3
end

section
set_option Elab.async false
set_option linter.all false
set_option maxRecDepth 100000
set_option maxHeartbeats 1000000
/-! V3c: expressions. -/
namespace V3
open PySem PySem.Spec PyProof.Rows L2

/-! ### more data operators -/
def tyD : D → String
  | .non => "NoneType"
  | .bl _ => "bool"
  | .int _ => "int"
  | .str _ => "str"
  | .lst _ => "list"
  | .fz _ => "list"
  | .tup _ => "tuple"
def isiD (T : String) (d : D) : Option D := (kitB (tyD d) T).map .bl
def absD : List D → Option D
  | [.int i] => some (.int (if i < 0 then -i else i))
  | _ => none
def maxD : List D → Option D
  | [.int i, .int j] => some (.int (if j > i then j else i))
  | _ => none
def minD : List D → Option D
  | [.int i, .int j] => some (.int (if j < i then j else i))
  | _ => none
def lenD : List D → Option D
  | [.str z] => if z.length ≤ sizeLine then some (.int z.length) else none
  | [.lst ds] => some (.int ds.length)
  | [.fz ds] => some (.int ds.length)
  | [.tup ds] => some (.int ds.length)
  | _ => none
def tupleD : List D → Option D
  | [.lst ds] => some (.tup ds)
  | [.fz ds] => some (.tup ds)
  | [.tup ds] => some (.tup ds)
  | _ => none
def listD : List D → Option D
  | [.lst ds] => some (.lst ds)
  | [.fz ds] => some (.lst ds)
  | [.tup ds] => some (.lst ds)
  | _ => none
def intD : List D → Option D
  | [.int i] => some (.int i)
  | [.bl b] => some (.int (if b then 1 else 0))
  | [.str a] => if a.length ≤ 640 then (PySem.intText? a).map .int else none
  | _ => none
def strD : List D → Option D
  | [.int i] => if i.natAbs.log2 < 1920 then some (.str (toString i)) else none
  | _ => none
def blsOf : List D → Option (List Bool)
  | [] => some []
  | .bl b :: r => (blsOf r).map (b :: ·)
  | _ :: _ => none
def intsOf : List D → Option (List Int)
  | [] => some []
  | .int b :: r => (intsOf r).map (b :: ·)
  | _ :: _ => none
def strsOf : List D → Option (List Str)
  | [] => some []
  | .str b :: r => (strsOf r).map (b :: ·)
  | _ :: _ => none
def allD : List D → Option D
  | [.lst ds] => (blsOf ds).map fun bs => .bl (bs.all id)
  | _ => none
def sumD : List D → Option D
  | [.lst ds] => (intsOf ds).map fun bs => .int bs.sum
  | _ => none
def splitD : D → D → Option D
  | .str a, .str b => if (b.length == 0) = false ∧ a.length + 2 ≤ sizeLine then some (.lst ((Txt.split a b).map .str)) else none
  | _, _ => none
def partD : D → D → Option D
  | .str a, .str b => if (b.length == 0) = false ∧ a.length ≤ sizeLine then some (.tup [.str (Txt.partition a b).1, .str (Txt.partition a b).2.1, .str (Txt.partition a b).2.2]) else none
  | _, _ => none
def joinD : D → D → Option D
  | .str a, .lst ds => (strsOf ds).bind fun ys => if (ys.map (·.length)).sum + ys.length * a.length ≤ 16777216 then some (.str (Txt.join a ys)) else none
  | _, _ => none
def sIx := @HT.sIx
def cutD (ds : List D) (lo hi : Option Int) : List D := (ds.drop (HT.sIx ds.length 0 lo)).take (HT.sIx ds.length ds.length hi - HT.sIx ds.length 0 lo)
def slD : D → Option Int → Option Int → Option D
  | .lst ds, lo, hi => some (.lst (cutD ds lo hi))
  | .fz ds, lo, hi => some (.lst (cutD ds lo hi))
  | .str z, lo, hi => if z.length ≤ sizeLine then some (.str (cutS z lo hi)) else none
  | .tup ds, lo, hi => if HT.sIx ds.length 0 lo = 0 ∧ HT.sIx ds.length ds.length hi = ds.length then none else some (.tup (cutD ds lo hi))
  | _, _, _ => none
def truD : D → Option Bool
  | .non => some false
  | .bl b => some b
  | .int i => some (i != 0)
  | .str y => if y.length ≤ sizeLine then some ((y.length : Int) != 0) else none
  | .lst ds => some !ds.isEmpty
  | .fz ds => some !ds.isEmpty
  | .tup ds => some !ds.isEmpty

section
variable {K : PySem.W.Frag} {O : Addr → Prop} {H : Hp}
theorem RepA.cut {ds : List D} {xs : List V} (r : RepA K O H ds xs) (lo hi : Option Int) : RepA K O H (cutD ds lo hi) (cutV xs lo hi) := by
  unfold cutD cutV
  rw [r.length]
  exact (r.drop _).take _
theorem repStrs : ∀ ys : List Str, RepA K O H (ys.map D.str) (ys.map V.str)
  | [] => .nil
  | y :: r => .cons (.str y) (repStrs r)
theorem RepA.bls : ∀ {ds : List D} {xs : List V} {bs : List Bool}, RepA K O H ds xs → blsOf ds = some bs → xs = bs.map V.bl
  | _, _, _, .nil, e => by cases e; rfl
  | .bl b :: ds, _, bs, .cons (.bl _) r, e => by
    simp only [blsOf] at e
    cases q : blsOf ds with
    | none => rw [q] at e; cases e
    | some cs => rw [q] at e; cases e; rw [RepA.bls r q]; rfl
  | .non :: _, _, _, _, e => by cases e
  | .int _ :: _, _, _, _, e => by cases e
  | .str _ :: _, _, _, _, e => by cases e
  | .lst _ :: _, _, _, _, e => by cases e
  | .tup _ :: _, _, _, _, e => by cases e
  | .fz _ :: _, _, _, _, e => by cases e
theorem RepA.ints : ∀ {ds : List D} {xs : List V} {bs : List Int}, RepA K O H ds xs → intsOf ds = some bs → xs = bs.map V.int
  | _, _, _, .nil, e => by cases e; rfl
  | .int b :: ds, _, bs, .cons (.int _) r, e => by
    simp only [intsOf] at e
    cases q : intsOf ds with
    | none => rw [q] at e; cases e
    | some cs => rw [q] at e; cases e; rw [RepA.ints r q]; rfl
  | .non :: _, _, _, _, e => by cases e
  | .bl _ :: _, _, _, _, e => by cases e
  | .str _ :: _, _, _, _, e => by cases e
  | .lst _ :: _, _, _, _, e => by cases e
  | .tup _ :: _, _, _, _, e => by cases e
  | .fz _ :: _, _, _, _, e => by cases e
theorem RepA.strs : ∀ {ds : List D} {xs : List V} {bs : List Str}, RepA K O H ds xs → strsOf ds = some bs → xs = bs.map V.str
  | _, _, _, .nil, e => by cases e; rfl
  | .str b :: ds, _, bs, .cons (.str _) r, e => by
    simp only [strsOf] at e
    cases q : strsOf ds with
    | none => rw [q] at e; cases e
    | some cs => rw [q] at e; cases e; rw [RepA.strs r q]; rfl
  | .non :: _, _, _, _, e => by cases e
  | .bl _ :: _, _, _, _, e => by cases e
  | .int _ :: _, _, _, _, e => by cases e
  | .lst _ :: _, _, _, _, e => by cases e
  | .tup _ :: _, _, _, _, e => by cases e
  | .fz _ :: _, _, _, _, e => by cases e
theorem Rep.ty {d : D} {x : V} (r : Rep K O H d x) : TyX K H x (.type (tyD d)) := by
  cases r with
  | non => exact .base .non
  | bl b => exact .base (.bl b)
  | int i => exact .base (.int i)
  | str s => exact .base (.str s)
  | lst h _ => exact .base (.lst h.2)
  | fz h _ =>
    rcases h with ⟨_, o, e⟩ | ⟨o, its, n, e, c, _⟩
    · exact .base (.frz e)
    · exact .kList e c
  | tup h _ =>
    rcases h with ⟨_, h⟩ | ⟨o, its, n, e, c, _⟩
    · exact .base (.tup h)
    · exact .kTuple e c
end

section
variable {K : PySem.W.Frag} {X : Cx}
def rIxAll (K : PySem.W.Frag) : R2 := fun x y H Q => (rIxL K x y H Q ∨ rIxT K x y H Q) ∨ rIxS x y H Q
theorem ix_all : IxR X (rIxAll X.K) := (ix_list.or ix_tup).or ix_str
theorem prim_ix : Prim2 K (rIxAll K) ixD := by
  intro O H d e z x y Q rx ry hg t hq
  cases rx with
  | non => cases hg
  | bl b => cases hg
  | int b => cases hg
  | str s =>
    cases ry with
    | int i =>
      simp only [ixD] at hg
      split at hg
      · rename_i hl
        cases q : L2.atI s.cps.toList i with
        | none => rw [q] at hg; cases hg
        | some c => rw [q] at hg; cases hg; exact .inr ⟨s, i, c, rfl, rfl, hl, q, hq _ _ Ext.rfl' (.str _)⟩
      · cases hg
    | _ => cases hg
  | lst h r =>
    cases ry with
    | int i =>
      obtain ⟨v, e1, e2⟩ := r.atI (show L2.atI _ i = some z from hg)
      exact .inl (.inl ⟨_, _, i, v, rfl, rfl, h.sq, e1, hq _ _ Ext.rfl' e2⟩)
    | _ => cases hg
  | fz h r =>
    cases ry with
    | int i =>
      obtain ⟨v, e1, e2⟩ := r.atI (show L2.atI _ i = some z from hg)
      exact .inl (.inl ⟨_, _, i, v, rfl, rfl, h.sq, e1, hq _ _ Ext.rfl' e2⟩)
    | _ => cases hg
  | tup h r =>
    cases ry with
    | int i =>
      obtain ⟨v, e1, e2⟩ := r.atI (show L2.atI _ i = some z from hg)
      exact .inl (.inr ⟨_, _, i, v, rfl, rfl, h.sq, e1, hq _ _ Ext.rfl' e2⟩)
    | _ => cases hg
def rInV (K : PySem.W.Frag) : R2 := fun x y H Q => (∃ (c : Nat) (z : Str), x = .str ⟨#[c]⟩ ∧ y = .str z ∧ Q (.bl (decide (c ∈ z.cps.toList))) H) ∨ rInD K x y H Q
theorem op_inV (hu : X.A.units + 65 < cLine) : OpR X (compareOp .In) (rInV X.K) := op_in_sign.or (op_inD hu)
def rNotInV (K : PySem.W.Frag) : R2 := fun x y H Q => (∃ (c : Nat) (z : Str), x = .str ⟨#[c]⟩ ∧ y = .str z ∧ Q (.bl (!decide (c ∈ z.cps.toList))) H) ∨ rNotInD K x y H Q
theorem op_notInV (hu : X.A.units + 65 < cLine) : OpR X (compareOp .NotIn) (rNotInV X.K) := op_notIn_sign.or (op_notInD hu)
theorem inD_cases {d e z : D} (h : inD d e = some z) : (∃ c y, d = .str ⟨#[c]⟩ ∧ e = .str y ∧ z = .bl (decide (c ∈ y.cps.toList))) ∨
    ∃ ds p qs, e = .lst ds ∧ d.py = some p ∧ D.pyA ds = some qs ∧ SeqAt.shaped p = true ∧ SeqAt.shaped (.list qs) = true ∧ z = .bl (qs.any fun z => PyData.eqv z p) := by
  have L : ∀ ds, (match d.py, D.pyA ds with
    | some p, some qs => if SeqAt.shaped p = true ∧ SeqAt.shaped (.list qs) = true then some (D.bl (qs.any fun z => PyData.eqv z p)) else none
    | _, _ => none) = some z → ∃ p qs, d.py = some p ∧ D.pyA ds = some qs ∧ SeqAt.shaped p = true ∧ SeqAt.shaped (.list qs) = true ∧ z = .bl (qs.any fun z => PyData.eqv z p) := fun ds q => by
    split at q
    · rename_i p qs h1 h2
      split at q
      · rename_i h3
        cases q
        exact ⟨p, qs, h1, h2, h3.1, h3.2, rfl⟩
      · cases q
    · cases q
  cases e with
  | str y =>
    cases d with
    | str x =>
      simp only [inD] at h
      split at h
      · rename_i c hc
        cases h
        refine .inl ⟨c, y, ?_, rfl, rfl⟩
        cases x with
        | mk a =>
          have : a = #[c] := by
            apply Array.ext'
            simpa using hc
          rw [this]
      · cases h
    | _ => cases h
  | lst ds =>
    refine .inr ?_
    cases d <;> (obtain ⟨p, qs, h1, h2, h3, h4, h5⟩ := L ds h; exact ⟨ds, p, qs, rfl, h1, h2, h3, h4, h5⟩)
  | _ => cases d <;> cases h
theorem prim_in : Prim2 K (rInV K) inD := by
  intro O H d e z x y Q rx ry hg t hq
  rcases inD_cases hg with ⟨c, s, rfl, rfl, rfl⟩ | ⟨ds, p, qs, rfl, h1, h2, h3, h4, rfl⟩
  · cases rx
    cases ry
    exact .inl ⟨c, s, rfl, rfl, hq _ _ Ext.rfl' (.bl _)⟩
  · have hp : D.py (.lst ds) = some (.list qs) := by simp only [D.py, h2]; rfl
    exact .inr ⟨p, qs, rx.dp h1, ry.dp hp, h3, h4, hq _ _ Ext.rfl' (.bl _)⟩
theorem prim_notIn : Prim2 K (rNotInV K) notInD := by
  intro O H d e z x y Q rx ry hg t hq
  unfold notInD at hg
  cases q : inD d e with
  | none => rw [q] at hg; cases hg
  | some w =>
    rw [q] at hg
    rcases inD_cases q with ⟨c, s, rfl, rfl, rfl⟩ | ⟨ds, p, qs, rfl, h1, h2, h3, h4, rfl⟩
    · cases hg
      cases rx
      cases ry
      exact .inl ⟨c, s, rfl, rfl, hq _ _ Ext.rfl' (.bl _)⟩
    · cases hg
      have hp : D.py (.lst ds) = some (.list qs) := by simp only [D.py, h2]; rfl
      exact .inr ⟨p, qs, rx.dp h1, ry.dp hp, h3, h4, hq _ _ Ext.rfl' (.bl _)⟩
theorem prim_neg : Prim1 K (rU fun i => .int (-i)) negD := by
  intro O H d z x Q rx hg t hq
  cases rx <;> first | cases hg; done | skip
  rename_i i
  cases hg
  exact ⟨i, rfl, hq _ _ Ext.rfl' (.int _)⟩

/-! ### calls of built-ins -/
theorem prim_abs : PrimA K (fun xs H Q => ∃ i, xs = [.int i] ∧ Q (.int (if i < 0 then -i else i)) H) absD := by
  intro O H ds z xs Q r hg t hq
  unfold absD at hg
  split at hg
  · rename_i i
    cases hg
    cases r with
    | cons h r => cases h; cases r; exact ⟨i, rfl, hq _ _ Ext.rfl' (.int _)⟩
  · cases hg
theorem prim_max : PrimA K (fun xs H Q => ∃ i j, xs = [.int i, .int j] ∧ Q (.int (if j > i then j else i)) H) maxD := by
  intro O H ds z xs Q r hg t hq
  unfold maxD at hg
  split at hg
  · rename_i i j
    cases hg
    cases r with
    | cons h r => cases h; cases r with | cons h r => cases h; cases r; exact ⟨i, j, rfl, hq _ _ Ext.rfl' (.int _)⟩
  · cases hg
theorem prim_min : PrimA K (fun xs H Q => ∃ i j, xs = [.int i, .int j] ∧ Q (.int (if j < i then j else i)) H) minD := by
  intro O H ds z xs Q r hg t hq
  unfold minD at hg
  split at hg
  · rename_i i j
    cases hg
    cases r with
    | cons h r => cases h; cases r with | cons h r => cases h; cases r; exact ⟨i, j, rfl, hq _ _ Ext.rfl' (.int _)⟩
  · cases hg
def rLenV (K : PySem.W.Frag) : List V → Hp → VK → Prop := fun xs H Q => (∃ p ys, xs = [.ref p] ∧ (SqL K H p ys ∨ SqT K H p ys) ∧ Q (.int ys.length) H) ∨ (∃ z, xs = [.str z] ∧ z.length ≤ sizeLine ∧ Q (.int z.length) H)
theorem call_lenV : CallR X (.builtin "len") (rLenV X.K) := call_len_seq.or call_len_str
theorem prim_len : PrimA K (rLenV K) lenD := by
  intro O H ds z xs Q r hg t hq
  unfold lenD at hg
  split at hg
  · rename_i y
    split at hg
    · rename_i hl
      cases hg
      cases r with
      | cons h r => cases h; cases r; exact .inr ⟨y, rfl, hl, hq _ _ Ext.rfl' (.int _)⟩
    · cases hg
  · cases hg
    cases r with
    | cons h r => cases h with | lst h q => cases r; exact .inl ⟨_, _, rfl, .inl h.sq, by rw [← q.length]; exact hq _ _ Ext.rfl' (.int _)⟩
  · cases hg
    cases r with
    | cons h r => cases h with | fz h q => cases r; exact .inl ⟨_, _, rfl, .inl h.sq, by rw [← q.length]; exact hq _ _ Ext.rfl' (.int _)⟩
  · cases hg
    cases r with
    | cons h r => cases h with | tup h q => cases r; exact .inl ⟨_, _, rfl, .inr h.sq, by rw [← q.length]; exact hq _ _ Ext.rfl' (.int _)⟩
  · cases hg
theorem prim_tuple : PrimA K (fun xs H Q => ∃ p ys, xs = [.ref p] ∧ ((SqL K H p ys ∧ ∀ l, H l = none → Q (.ref l) (upd H l (.tup ys))) ∨ (SqT K H p ys ∧ Q (.ref p) H))) tupleD := by
  intro O H ds z xs Q r hg t hq
  unfold tupleD at hg
  split at hg
  · cases hg
    cases r with
    | cons h r => cases h with | lst h q => cases r; exact ⟨_, _, rfl, .inl ⟨h.sq, fun p hp => hq _ _ (ext_upd hp) (newT q t hp)⟩⟩
  · cases hg
    cases r with
    | cons h r => cases h with | fz h q => cases r; exact ⟨_, _, rfl, .inl ⟨h.sq, fun p hp => hq _ _ (ext_upd hp) (newT q t hp)⟩⟩
  · cases hg
    cases r with
    | cons h r => cases h with | tup h q => cases r; exact ⟨_, _, rfl, .inr ⟨h.sq, hq _ _ Ext.rfl' (.tup h q)⟩⟩
  · cases hg
theorem prim_list : PrimA K (fun xs H Q => ∃ p ys, xs = [.ref p] ∧ (SqL K H p ys ∨ SqT K H p ys) ∧ ∀ l, H l = none → Q (.ref l) (upd H l (.lst ys))) listD := by
  intro O H ds z xs Q r hg t hq
  unfold listD at hg
  split at hg
  · cases hg
    cases r with
    | cons h r => cases h with | lst h q => cases r; exact ⟨_, _, rfl, .inl h.sq, fun p hp => hq _ _ (ext_upd hp) (newL q t hp)⟩
  · cases hg
    cases r with
    | cons h r => cases h with | fz h q => cases r; exact ⟨_, _, rfl, .inl h.sq, fun p hp => hq _ _ (ext_upd hp) (newL q t hp)⟩
  · cases hg
    cases r with
    | cons h r => cases h with | tup h q => cases r; exact ⟨_, _, rfl, .inr h.sq, fun p hp => hq _ _ (ext_upd hp) (newL q t hp)⟩
  · cases hg
def rIntV : List V → Hp → VK → Prop := fun xs H Q => ((∃ i, xs = [.int i] ∧ Q (.int i) H) ∨ ∃ k, xs = [.bl k] ∧ Q (.int (if k then 1 else 0)) H) ∨ ∃ a n, xs = [.str a] ∧ PySem.intText? a = some n ∧ a.length ≤ 640 ∧ Q (.int n) H
theorem call_intV : CallR X (.type "int") rIntV := call_int1.or call_int_str
theorem prim_int : PrimA K rIntV intD := by
  intro O H ds z xs Q r hg t hq
  unfold intD at hg
  split at hg
  · cases hg
    cases r with
    | cons h r => cases h; cases r; exact .inl (.inl ⟨_, rfl, hq _ _ Ext.rfl' (.int _)⟩)
  · cases hg
    cases r with
    | cons h r => cases h; cases r; exact .inl (.inr ⟨_, rfl, hq _ _ Ext.rfl' (.int _)⟩)
  · rename_i a
    split at hg
    · rename_i hl
      cases q : PySem.intText? a with
      | none => rw [q] at hg; cases hg
      | some n =>
        rw [q] at hg
        cases hg
        cases r with
        | cons h r => cases h; cases r; exact .inr ⟨a, n, rfl, q, hl, hq _ _ Ext.rfl' (.int _)⟩
    · cases hg
  · cases hg
theorem prim_str : PrimA K (fun xs H Q => ∃ i, xs = [.int i] ∧ i.natAbs.log2 < 1920 ∧ Q (.str (toString i)) H) strD := by
  intro O H ds z xs Q r hg t hq
  unfold strD at hg
  split at hg
  · rename_i i
    split at hg
    · rename_i hl
      cases hg
      cases r with
      | cons h r => cases h; cases r; exact ⟨i, rfl, hl, hq _ _ Ext.rfl' (.str _)⟩
    · cases hg
  · cases hg
theorem prim_all : PrimA K (rAll K) allD := by
  intro O H ds z xs Q r hg t hq
  unfold allD at hg
  split at hg
  · rename_i es
    cases q : blsOf es with
    | none => rw [q] at hg; cases hg
    | some bs =>
      rw [q] at hg
      cases hg
      cases r with
      | cons h r => cases h with | lst h p => cases r; exact ⟨_, bs, rfl, by rw [← p.bls q]; exact h.sq, hq _ _ Ext.rfl' (.bl _)⟩
  · cases hg
theorem prim_sum : PrimA K (rSum K) sumD := by
  intro O H ds z xs Q r hg t hq
  unfold sumD at hg
  split at hg
  · rename_i es
    cases q : intsOf es with
    | none => rw [q] at hg; cases hg
    | some bs =>
      rw [q] at hg
      cases hg
      cases r with
      | cons h r => cases h with | lst h p => cases r; exact ⟨_, bs, rfl, by rw [← p.ints q]; exact h.sq, hq _ _ Ext.rfl' (.int _)⟩
  · cases hg
end
end V3
end

section
set_option Elab.async false
set_option linter.all false
set_option maxRecDepth 100000
set_option maxHeartbeats 1000000
/-! V3d: readings of expressions, tests, calls. -/
namespace V3
open PySem PySem.Spec PyProof.Rows L2

/-- an operand: a value, or an own list by its slot -/
inductive Ar where
  | v (d : D) | o (i : Nat)
def ArOk (B : Bd) (O : Addr → Prop) (H : Hp) (σ : L2.St) : Ar → V → Prop
  | .v d, x => Rep B.K O H d x
  | .o i, x => σ[i]? = some (some x)
inductive ArsOk (B : Bd) (O : Addr → Prop) (H : Hp) (σ : L2.St) : List Ar → List V → Prop
  | nil : ArsOk B O H σ [] []
  | cons {a : Ar} {as : List Ar} {x : V} {xs : List V} : ArOk B O H σ a x → ArsOk B O H σ as xs → ArsOk B O H σ (a :: as) (x :: xs)
def slotL (ρ : Ev) (i : Nat) : Option (List D) := match ρ[i]? with
  | some (.ow ds) => some ds
  | _ => none
def resA (ρ : Ev) : List Ar → Option (List D × Bool)
  | [] => some ([], false)
  | .v d :: r => match resA ρ r with
    | some (ds, b) => some (d :: ds, b)
    | none => none
  | .o i :: r => match slotL ρ i, resA ρ r with
    | some es, some (ds, _) => some (.lst es :: ds, true)
    | _, _ => none
def fin (g : List D → Option D) (as : List Ar) : Cm D := fun ρ => match resA ρ as with
  | none => .bad
  | some (ds, b) => match g ds with
    | none => .bad
    | some z => if !b || z.lf then .ok z ρ else .bad
def tE (B : Bd) (f : Cm Ar) : TE := fun σ H Q => ∃ ρ O, Stx B O ρ σ H ∧ Out B O ρ σ H (f ρ) fun a ρ' H' => ∀ x, ArOk B O H' σ a x → Q x H'
def tG (B : Bd) (f : Cm (List Ar)) : TA := fun σ H Q => ∃ ρ O, Stx B O ρ σ H ∧ Out B O ρ σ H (f ρ) fun a ρ' H' => ∀ x, ArsOk B O H' σ a x → Q x H'
def tA (B : Bd) (f : Cm (List D)) : TA := fun σ H Q => ∃ ρ O, Stx B O ρ σ H ∧ Out B O ρ σ H (f ρ) fun a ρ' H' => ∀ x, RepA B.K O H' a x → Q x H'

section
variable {B : Bd} {O : Addr → Prop} {ρ ρ' : Ev} {σ : L2.St} {H H' : Hp}
theorem Ps.ar (P : Ps B O ρ σ H ρ' H') (S : Stx B O ρ σ H) {a : Ar} {x : V} (h : ArOk B O H σ a x) : ArOk B O H' σ a x := by
  cases a with
  | v d => exact P.rep S h
  | o i => exact h
theorem Stx.slotL (S : Stx B O ρ σ H) {i : Nat} {es : List D} (e : V3.slotL ρ i = some es) : ∃ p vs, OwnAt ρ σ i p ∧ σ[i]? = some (some (.ref p)) ∧ O p ∧ H p = some (.lst vs) ∧ RepA B.K O H es vs := by
  unfold V3.slotL at e
  split at e
  · rename_i ds he
    cases e
    obtain ⟨o, h1, p, vs, h2, h3, h4, h5⟩ := S.ok i _ he
    subst h2
    exact ⟨p, vs, ⟨⟨_, he⟩, h1⟩, h1, h3, h4, h5⟩
  · cases e
theorem res_ok (S : Stx B O ρ σ H) : ∀ {as : List Ar} {xs : List V} {ds : List D} {b : Bool}, ArsOk B O H σ as xs → resA ρ as = some (ds, b) →
    RepA B.K (fun a => O a ∧ ¬ Own ρ σ a) H ds xs ∧ (b = false → RepA B.K O H ds xs)
  | _, _, _, _, .nil, e => by
    simp only [resA] at e
    cases e
    exact ⟨.nil, fun _ => .nil⟩
  | .v d :: as, _, ds, b, .cons h r, e => by
    simp only [resA] at e
    cases q : resA ρ as with
    | none => rw [q] at e; cases e
    | some w =>
      obtain ⟨es, b'⟩ := w
      rw [q] at e
      cases e
      obtain ⟨h1, h2⟩ := res_ok S r q
      have h : Rep B.K O H d _ := h
      exact ⟨.cons (h.avoid fun a z => .inl z.1) h1, fun z => .cons h (h2 z)⟩
  | .o i :: as, _, ds, b, .cons h r, e => by
    simp only [resA] at e
    cases q1 : V3.slotL ρ i with
    | none => rw [q1] at e; cases e
    | some es =>
      cases q : resA ρ as with
      | none => rw [q1, q] at e; cases e
      | some w =>
        obtain ⟨fs, b'⟩ := w
        rw [q1, q] at e
        cases e
        obtain ⟨h1, h2⟩ := res_ok S r q
        obtain ⟨p, vs, ho, hs, hO, hH, hr⟩ := S.slotL q1
        have h : σ[i]? = some (some _) := h
        rw [hs] at h
        cases h
        exact ⟨.cons (.lst ⟨fun z => z.2 ⟨i, ho⟩, hH⟩ (hr.avoid fun a z => .inl z.1)) h1, fun z => by cases z⟩
/-- the primitive runs at the operands -/
theorem fin_run {r : List V → Hp → VK → Prop} {g : List D → Option D} {as : List Ar} {xs : List V} {Q : VK} (hp : PrimA B.K r g) (S : Stx B O ρ σ H) (ha : ArsOk B O H σ as xs)
    (h : Out B O ρ σ H (fin g as ρ) fun d ρ' H' => ∀ v, Rep B.K O H' d v → Q v H') : r xs H Q := by
  unfold fin at h
  cases e : resA ρ as with
  | none => rw [e] at h; exact h.elim
  | some w =>
    obtain ⟨ds, b⟩ := w
    rw [e] at h
    dsimp only at h
    cases e2 : g ds with
    | none => rw [e2] at h; exact h.elim
    | some z =>
      rw [e2] at h
      dsimp only at h
      obtain ⟨h1, h2⟩ := res_ok S ha e
      have trk : ∀ a, O a → ∃ o, H a = some o := fun a q => let ⟨vs, e⟩ := S.trk a q; ⟨_, e⟩
      cases b with
      | false => exact hp O H ds z xs Q (h2 rfl) e2 trk fun v H' e r => h H' (Ps.ext S e) v r
      | true =>
        simp only [Bool.not_true, Bool.false_or] at h
        cases hl : z.lf with
        | false => rw [hl] at h; exact h.elim
        | true =>
          rw [hl] at h
          exact hp _ H ds z xs Q h1 e2 (fun a q => trk a q.1) fun v H' e r => h H' (Ps.ext S e) v (Rep.lf (fun a q => let ⟨vs, z⟩ := S.trk a q; ⟨vs, e a _ z⟩) hl r)
end

/-! ### the combinators -/
def var (i : Nat) : Cm D := fun ρ => match ρ[i]? with
  | some (.im d) => .ok d ρ
  | _ => .bad
def own (i : Nat) : Cm Ar := fun ρ => match slotL ρ i with
  | some _ => .ok (.o i) ρ
  | none => .bad
def vl (f : Cm D) : Cm Ar := bnd f fun d => ret (.v d)
def op2 (g : D → D → Option D) (fa fb : Cm D) : Cm D := bnd fa fun d => bnd fb fun e => lift (g d e)
def L2g (g : D → D → Option D) : List D → Option D
  | [d, e] => g d e
  | _ => none
def op2g (g : D → D → Option D) (fa fb : Cm Ar) : Cm D := bnd fa fun a => bnd fb fun b => fin (L2g g) [a, b]
def op1 (g : D → Option D) (fa : Cm D) : Cm D := bnd fa fun d => lift (g d)
def opA (g : List D → Option D) (fa : Cm (List Ar)) : Cm D := bnd fa fun as => fin g as
def consG (fa : Cm Ar) (fr : Cm (List Ar)) : Cm (List Ar) := bnd fa fun a => bnd fr fun as => ret (a :: as)
def consA (fa : Cm D) (fr : Cm (List D)) : Cm (List D) := bnd fa fun a => bnd fr fun as => ret (a :: as)
def tupE (fa : Cm (List D)) : Cm D := bnd fa fun ds => lift (if ds.length ≤ sizeLine then some (.tup ds) else none)
def lstE (fa : Cm (List D)) : Cm D := bnd fa fun ds => lift (if ds.length ≤ sizeLine then some (.lst ds) else none)
def tst (f : Cm D) : Cm Bool := bnd f fun d => lift (truD d)
def ifE {α : Type} (c : Cm Bool) (fa fb : Cm α) : Cm α := bnd c fun b => if b = true then fa else fb
def andT (a b : Cm Bool) : Cm Bool := bnd a fun c => if c = true then b else ret false
def orT (a b : Cm Bool) : Cm Bool := bnd a fun c => if c = true then ret true else b
def notT (a : Cm Bool) : Cm Bool := bnd a fun c => ret (!c)
def blE (f : Cm D) : Cm Bool := bnd f fun d => lift (match d with | .bl b => some b | _ => none)
def andE (a b : Cm D) : Cm D := bnd (blE a) fun c => if c = true then b else ret (.bl false)
def orE (a b : Cm D) : Cm D := bnd (blE a) fun c => if c = true then ret (.bl true) else b
def intE (f : Cm D) : Cm Int := bnd f fun d => lift (match d with | .int i => some i | _ => none)
def partN : Cm (Option Int) := ret none
def partS (f : Cm D) : Cm (Option Int) := bnd (intE f) fun i => ret (some i)
def strE (f : Cm D) : Cm Str := bnd f fun d => lift (match d with | .str i => some i | _ => none)
def m1 (g : Str → D → Option D) (fa fb : Cm D) : Cm D := bnd (strE fa) fun s => bnd fb fun e => lift (g s e)
def slE (fa : Cm Ar) (fl fh : Cm (Option Int)) : Cm D := bnd fa fun a => bnd fl fun l => bnd fh fun h => fin (fun ds => match ds with | [d] => slD d l h | _ => none) [a]

section
variable {X : Cx} {B : Bd} {a b e : Expr} {es : List Expr} {pos : Pos} {fa fb : Cm D}

theorem bl_inv {d : D} {c : Bool} (h : (match d with | .bl b => some b | _ => none) = some c) : d = .bl c := by
  cases d <;> cases h; rfl
theorem int_inv {d : D} {c : Int} (h : (match d with | .int b => some b | _ => none) = some c) : d = .int c := by
  cases d <;> cases h; rfl

theorem str_inv {d : D} {c : Str} (h : (match d with | .str b => some b | _ => none) = some c) : d = .str c := by
  cases d <;> cases h; rfl

theorem pv_var (i : Nat) {x : Str} (h : PE X (.Name x pos) (tVar i)) : PE X (.Name x pos) (tV B (var i)) := pe_imp h fun σ H Q ⟨ρ, O, S, h⟩ => by
  unfold var at h
  cases e : ρ[i]? with
  | none => rw [e] at h; exact h.elim
  | some s =>
    rw [e] at h
    cases s with
    | un => exact h.elim
    | ow ds => exact h.elim
    | im d =>
      obtain ⟨o, h1, v, h2, r⟩ := S.ok i _ e
      subst h2
      exact ⟨v, h1, h H (Ps.refl S) v r⟩
theorem pg_own (i : Nat) {x : Str} (h : PE X (.Name x pos) (tVar i)) : PE X (.Name x pos) (tE B (own i)) := pe_imp h fun σ H Q ⟨ρ, O, S, h⟩ => by
  unfold own at h
  cases e : slotL ρ i with
  | none => rw [e] at h; exact h.elim
  | some s =>
    rw [e] at h
    obtain ⟨p, vs, _, h1, _⟩ := S.slotL e
    exact ⟨_, h1, h H (Ps.refl S) _ h1⟩
theorem pg_vl (h : PE X e (tV B fa)) : PE X e (tE B (vl fa)) := pe_imp h fun σ H Q ⟨ρ, O, S, h⟩ =>
  ⟨ρ, O, S, h.bind.imp fun d ρ' H' P q v r => q.ret P.st v r⟩
theorem pv_cst {d : D} {v : V} (h : PE X e (tC v)) (hr : ∀ O H, Rep B.K O H d v) : PE X e (tV B (ret d)) := pe_imp h fun σ H Q ⟨ρ, O, S, h⟩ => h.ret S v (hr O H)
theorem pv_int {i j} : PE X (.Constant (.int i) j pos) (tV B (ret (.int i))) := pv_cst pe_int fun _ _ => .int i
theorem pv_bl {b j} : PE X (.Constant (.bool b) j pos) (tV B (ret (.bl b))) := pv_cst pe_bl fun _ _ => .bl b
theorem pv_non {j} : PE X (.Constant .none j pos) (tV B (ret .non)) := pv_cst pe_non fun _ _ => .non
theorem pv_str {x j} : PE X (.Constant (.str x) j pos) (tV B (ret (.str x))) := pv_cst pe_str fun _ _ => .str x

/-! operators -/
theorem run2 {r : R2} {g : D → D → Option D} (hp : Prim2 B.K r g) {σ : L2.St} {H : Hp} {Q : VK} (h : tV B (op2 g fa fb) σ H Q) : tOp r (tV B fa) (tV B fb) σ H Q := by
  obtain ⟨ρ, O, S, h⟩ := h
  refine ⟨ρ, O, S, h.bind.imp fun d ρ1 H1 P1 h v hv => ⟨ρ1, O, P1.st, h.bind.imp fun e ρ2 H2 P2 h w hw => ?_⟩⟩
  obtain ⟨z, hz, h⟩ := h.lift
  exact hp O H2 d e z v w Q (P2.rep P1.st hv) hw hz (fun a q => let ⟨vs, e⟩ := P2.st.trk a q; ⟨_, e⟩) fun v' H' e r => h H' (Ps.ext P2.st e) v' r
theorem run2g {fa fb : Cm Ar} {r : R2} {g : D → D → Option D} (hp : Prim2 B.K r g) {σ : L2.St} {H : Hp} {Q : VK} (h : tV B (op2g g fa fb) σ H Q) : tOp r (tE B fa) (tE B fb) σ H Q := by
  obtain ⟨ρ, O, S, h⟩ := h
  refine ⟨ρ, O, S, h.bind.imp fun d ρ1 H1 P1 h v hv => ⟨ρ1, O, P1.st, h.bind.imp fun e ρ2 H2 P2 h w hw => ?_⟩⟩
  refine fin_run (r := fun xs H Q => ∃ x y, xs = [x, y] ∧ r x y H Q) (xs := [v, w]) (fun O H ds z xs Q hr hg t hq => ?_) P2.st (.cons (P2.ar P1.st hv) (.cons hw .nil)) h |> fun ⟨x, y, e1, e2⟩ => by cases e1; exact e2
  unfold L2g at hg
  split at hg
  · rename_i d e
    cases hr with
    | cons h1 hr => cases hr with | cons h2 hr => cases hr; exact ⟨_, _, rfl, hp O H _ _ z _ _ Q h1 h2 hg t hq⟩
  · cases hg
theorem pv_op2 {op : Operator} {r : R2} {g : D → D → Option D} (ho : OpR X (binaryOp op) r) (hp : Prim2 B.K r g) (ha : PE X a (tV B fa)) (hb : PE X b (tV B fb)) : PE X (.BinOp a op b pos) (tV B (op2 g fa fb)) :=
  pe_imp (pe_op ho ha hb) fun _ _ _ h => run2 hp h
theorem pv_op2g {fa fb : Cm Ar} {op : Operator} {r : R2} {g : D → D → Option D} (ho : OpR X (binaryOp op) r) (hp : Prim2 B.K r g) (ha : PE X a (tE B fa)) (hb : PE X b (tE B fb)) : PE X (.BinOp a op b pos) (tV B (op2g g fa fb)) :=
  pe_imp (pe_op ho ha hb) fun _ _ _ h => run2g hp h
theorem pv_cmp {op : CmpOp} {r : R2} {g : D → D → Option D} (ho : OpR X (compareOp op) r) (hp : Prim2 B.K r g) (hm : behindInMarks op b = false) (ha : PE X a (tV B fa)) (hb : PE X b (tV B fb)) : PE X (.Compare a [op] [b] pos) (tV B (op2 g fa fb)) :=
  pe_imp (pe_cmpR ho ha hb hm) fun _ _ _ h => run2 hp h
theorem pv_cmpg {fa fb : Cm Ar} {op : CmpOp} {r : R2} {g : D → D → Option D} (ho : OpR X (compareOp op) r) (hp : Prim2 B.K r g) (hm : behindInMarks op b = false) (ha : PE X a (tE B fa)) (hb : PE X b (tE B fb)) : PE X (.Compare a [op] [b] pos) (tV B (op2g g fa fb)) :=
  pe_imp (pe_cmpR ho ha hb hm) fun _ _ _ h => run2g hp h
theorem pv_ix (hp : Prim2 B.K (rIxAll X.K) ixD) (ha : PE X a (tV B fa)) (hb : PE X b (tV B fb)) (hs : PlainIx b := by intro _ _; rfl) : PE X (.Subscript a b pos) (tV B (op2 ixD fa fb)) :=
  pe_imp (pe_ix ix_all ha hb hs) fun _ _ _ h => run2 hp h
theorem pv_ixg {fa fb : Cm Ar} (hp : Prim2 B.K (rIxAll X.K) ixD) (ha : PE X a (tE B fa)) (hb : PE X b (tE B fb)) (hs : PlainIx b := by intro _ _; rfl) : PE X (.Subscript a b pos) (tV B (op2g ixD fa fb)) :=
  pe_imp (pe_ix ix_all ha hb hs) fun _ _ _ h => run2g hp h
theorem pv_op1 {op : UnaryOp} {r : V → Hp → VK → Prop} {g : D → Option D} (ho : UnR X (unaryOp op) r) (hp : Prim1 B.K r g) (ha : PE X a (tV B fa)) : PE X (.UnaryOp op a pos) (tV B (op1 g fa)) :=
  pe_imp (pe_un ho ha) fun σ H Q ⟨ρ, O, S, h⟩ => ⟨ρ, O, S, h.bind.imp fun d ρ1 H1 P1 h v hv => by
    obtain ⟨z, hz, h⟩ := h.lift
    exact hp O H1 d z v Q hv hz (fun a q => let ⟨vs, e⟩ := P1.st.trk a q; ⟨_, e⟩) fun v' H' e r => h H' (Ps.ext P1.st e) v' r⟩
theorem pv_not (ha : PE X a (tV B fa)) : PE X (.UnaryOp .Not a pos) (tV B (op1 notD fa)) :=
  pe_imp (pe_not ha) fun σ H Q ⟨ρ, O, S, h⟩ => ⟨ρ, O, S, h.bind.imp fun d ρ1 H1 P1 h v hv => by
    obtain ⟨z, hz, h⟩ := h.lift
    cases d <;> first | cases hz; done | skip
    cases hz
    cases hv
    exact ⟨_, rfl, h H1 (Ps.refl P1.st) _ (.bl _)⟩⟩

/-! argument lists -/
theorem ga_nil : PA X [] (tG B (ret [])) := pa_imp pa_nil fun σ H Q ⟨ρ, O, S, h⟩ => h.ret S [] .nil
theorem ga_cons {f : Cm Ar} {F : Cm (List Ar)} (h1 : PE X e (tE B f)) (h2 : PA X es (tG B F)) (hs : starEach (e :: es) X.env = (false, eval e X.env) :: starEach es X.env := by rfl) : PA X (e :: es) (tG B (consG f F)) :=
  pa_imp (pa_cons h1 h2 hs) fun σ H Q ⟨ρ, O, S, h⟩ => ⟨ρ, O, S, h.bind.imp fun a ρ1 H1 P1 h x hx => ⟨ρ1, O, P1.st, h.bind.imp fun as ρ2 H2 P2 h xs hxs => h.ret P2.st _ (.cons (P2.ar P1.st hx) hxs)⟩⟩
theorem av_nil : PA X [] (tA B (ret [])) := pa_imp pa_nil fun σ H Q ⟨ρ, O, S, h⟩ => h.ret S [] .nil
theorem av_cons {f : Cm D} {F : Cm (List D)} (h1 : PE X e (tV B f)) (h2 : PA X es (tA B F)) (hs : starEach (e :: es) X.env = (false, eval e X.env) :: starEach es X.env := by rfl) : PA X (e :: es) (tA B (consA f F)) :=
  pa_imp (pa_cons h1 h2 hs) fun σ H Q ⟨ρ, O, S, h⟩ => ⟨ρ, O, S, h.bind.imp fun a ρ1 H1 P1 h x hx => ⟨ρ1, O, P1.st, h.bind.imp fun as ρ2 H2 P2 h xs hxs => h.ret P2.st _ (.cons (P2.rep P1.st hx) hxs)⟩⟩
theorem pv_tup {F : Cm (List D)} {k : Nat} (h : PA X es (tA B F)) : PE X (.Tuple es k pos) (tV B (tupE F)) :=
  pe_imp (pe_tup h) fun σ H Q ⟨ρ, O, S, h⟩ => ⟨ρ, O, S, h.bind.imp fun ds ρ1 H1 P1 h xs hx => by
    obtain ⟨z, hz, h⟩ := h.lift
    split at hz
    · rename_i hl
      cases hz
      exact ⟨by rw [← hx.length]; exact hl, fun p hp => h _ (Ps.ext P1.st (ext_upd hp)) _ (newT hx (fun a q => let ⟨vs, e⟩ := P1.st.trk a q; ⟨_, e⟩) hp)⟩
    · cases hz⟩
theorem pv_lst {F : Cm (List D)} (h : PA X es (tA B F)) : PE X (.List es pos) (tV B (lstE F)) :=
  pe_imp (pe_lst h) fun σ H Q ⟨ρ, O, S, h⟩ => ⟨ρ, O, S, h.bind.imp fun ds ρ1 H1 P1 h xs hx => by
    obtain ⟨z, hz, h⟩ := h.lift
    split at hz
    · rename_i hl
      cases hz
      exact ⟨by rw [← hx.length]; exact hl, fun p hp => h _ (Ps.ext P1.st (ext_upd hp)) _ (newL hx (fun a q => let ⟨vs, e⟩ := P1.st.trk a q; ⟨_, e⟩) hp)⟩
    · cases hz⟩

/-! built-ins called -/
theorem runA {r : List V → Hp → VK → Prop} {g : List D → Option D} {F : Cm (List Ar)} (hp : PrimA B.K r g) {σ : L2.St} {H : Hp} {Q : VK} (h : tV B (opA g F) σ H Q) : tCB r (tG B F) σ H Q := by
  obtain ⟨ρ, O, S, h⟩ := h
  exact ⟨ρ, O, S, h.bind.imp fun as ρ1 H1 P1 h xs hx => fin_run hp P1.st hx h⟩
theorem pv_callB {x : Str} {p : Pos} {id : String} {r : List V → Hp → VK → Prop} {g : List D → Option D} {F : Cm (List Ar)} (hc : CallR X (.builtin id) r) (hp : PrimA B.K r g) (hg : Gl X x) (hm : X.mg x = none) (hv : bootBuiltins x = some (.builtin id)) (ha : PA X (e :: es) (tG B F)) (hn : x ≠ "__name__" := by decide) (hdb : (x == ("__debug__" : Str)) = false := by decide)
    (he : starEach (e :: es) X.env = (false, eval e X.env) :: starEach es X.env := by rfl) (hpl : (backTo pos (starEach es X.env)).any (·.1) = false := by rfl) : PE X (.Call (.Name x p) (e :: es) [] pos) (tV B (opA g F)) :=
  pe_imp (pe_callB hc hg hm hv ha hn hdb he hpl) fun _ _ _ h => runA hp h
theorem pv_callTy {x : Str} {p : Pos} {T : String} {r : List V → Hp → VK → Prop} {g : List D → Option D} {F : Cm (List Ar)} (hc : CallR X (.type T) r) (hp : PrimA B.K r g) (hg : Gl X x) (hm : X.mg x = none) (hv : bootBuiltins x = some (.type T)) (ha : PA X (e :: es) (tG B F)) (hn : x ≠ "__name__" := by decide) (hdb : (x == ("__debug__" : Str)) = false := by decide)
    (he : starEach (e :: es) X.env = (false, eval e X.env) :: starEach es X.env := by rfl) (hpl : (backTo pos (starEach es X.env)).any (·.1) = false := by rfl) : PE X (.Call (.Name x p) (e :: es) [] pos) (tV B (opA g F)) :=
  pe_imp (pe_callTy hc hg hm hv ha hn hdb he hpl) fun _ _ _ h => runA hp h
/-- isinstance(x, T) of a built-in type -/
theorem pv_isi {p : Pos} {T : String} (hK : B.K = X.K) (hg : Gl X "isinstance") (hm : X.mg "isinstance" = none) (ha : PE X a (tV B fa)) (hb : PE X b (tC (.ty T)))
    (he : starEach [a, b] X.env = (false, eval a X.env) :: starEach [b] X.env := by rfl) (he2 : starEach [b] X.env = (false, eval b X.env) :: starEach [] X.env := by rfl) (hpl : (backTo pos (starEach [b] X.env)).any (·.1) = false := by rfl) : PE X (.Call (.Name "isinstance" p) [a, b] [] pos) (tV B (op1 (isiD T) fa)) :=
  pe_imp (pe_callB call_isi hg hm (by decide +kernel) (pa_cons ha (pa_cons hb pa_nil he2) he) (by decide) (by decide) he hpl) fun σ H Q ⟨ρ, O, S, h⟩ => ⟨ρ, O, S, h.bind.imp fun d ρ1 H1 P1 h v hv => by
    obtain ⟨z, hz, h⟩ := h.lift
    unfold isiD at hz
    cases q : kitB (tyD d) T with
    | none => rw [q] at hz; cases hz
    | some k =>
      rw [q] at hz
      cases hz
      exact ⟨v, .ty T, .type (tyD d), .type T, k, rfl, .ty T, by rw [← hK]; exact hv.ty, kit_ty q, h H1 (Ps.refl P1.st) _ (.bl _)⟩⟩

/-! methods of texts with one argument -/
theorem runM {r : V → List V → Hp → VK → Prop} {g : Str → D → Option D} (hp : ∀ s, Prim1 B.K (fun y H Q => r (.str s) [y] H Q) (g s)) {σ : L2.St} {H : Hp} {Q : VK} (h : tV B (m1 g fa fb) σ H Q) : tM1 r (tV B fa) (tV B fb) σ H Q := by
  obtain ⟨ρ, O, S, h⟩ := h
  refine ⟨ρ, O, S, h.bind.bind.imp fun d ρ1 H1 P1 h v hv => ?_⟩
  obtain ⟨s, hs, h⟩ := h.lift
  have e := str_inv hs
  subst e
  cases hv
  refine ⟨⟨s, rfl⟩, ρ1, O, P1.st, (h H1 (Ps.refl P1.st)).bind.imp fun e ρ2 H2 P2 h w hw => ?_⟩
  obtain ⟨z, hz, h⟩ := h.lift
  exact hp s O H2 e z w Q hw hz (fun a q => let ⟨vs, e⟩ := P2.st.trk a q; ⟨_, e⟩) fun v' H' e r => h H' (Ps.ext P2.st e) v' r
theorem pv_split {ap : Pos} (ho : PE X a (tV B fa)) (he : PE X b (tV B fb)) (hs : starEach [b] X.env = [(false, eval b X.env)] := by rfl) (hbase : attributeBase a "split" X.env (eval a X.env) = eval a X.env := by rfl) (hline : (ap.endLine == pos.line) = true := by rfl) :
    PE X (.Call (.Attribute a "split" ap) [b] [] pos) (tV B (m1 (fun s => splitD (.str s)) fa fb)) :=
  pe_imp (pe_split ho he hs hbase hline) fun σ H Q h => runM (fun s O H d z x Q hx hz t hq => by
    cases d <;> first | cases hz; done | skip
    rename_i y
    cases hx
    simp only [splitD] at hz
    split at hz
    · rename_i hc
      cases hz
      exact ⟨_, _, rfl, rfl, hc.1, hc.2, fun p hp => hq _ _ (ext_upd hp) (newL (repStrs _) t hp)⟩
    · cases hz) h
theorem pv_partition {ap : Pos} (ho : PE X a (tV B fa)) (he : PE X b (tV B fb)) (hs : starEach [b] X.env = [(false, eval b X.env)] := by rfl) (hbase : attributeBase a "partition" X.env (eval a X.env) = eval a X.env := by rfl) (hline : (ap.endLine == pos.line) = true := by rfl) :
    PE X (.Call (.Attribute a "partition" ap) [b] [] pos) (tV B (m1 (fun s => partD (.str s)) fa fb)) :=
  pe_imp (pe_partition ho he hs hbase hline) fun σ H Q h => runM (fun s O H d z x Q hx hz t hq => by
    cases d <;> first | cases hz; done | skip
    rename_i y
    cases hx
    simp only [partD] at hz
    split at hz
    · rename_i hc
      cases hz
      exact ⟨_, _, rfl, rfl, hc.1, hc.2, fun p hp => hq _ _ (ext_upd hp) (newT (.cons (.str _) (.cons (.str _) (.cons (.str _) .nil))) t hp)⟩
    · cases hz) h
theorem pv_join (hK : B.K = X.K) {ap : Pos} (ho : PE X a (tV B fa)) (he : PE X b (tV B fb)) (hs : starEach [b] X.env = [(false, eval b X.env)] := by rfl) (hbase : attributeBase a "join" X.env (eval a X.env) = eval a X.env := by rfl) (hline : (ap.endLine == pos.line) = true := by rfl) :
    PE X (.Call (.Attribute a "join" ap) [b] [] pos) (tV B (m1 (fun s => joinD (.str s)) fa fb)) :=
  pe_imp (pe_join ho he hs hbase hline) fun σ H Q h => runM (fun s O H d z x Q hx hz t hq => by
    cases d <;> first | cases hz; done | skip
    rename_i ds
    simp only [joinD] at hz
    cases q : strsOf ds with
    | none => rw [q] at hz; cases hz
    | some ys =>
      rw [q] at hz
      simp only [Option.bind_some] at hz
      split at hz
      · rename_i hc
        cases hz
        cases hx with
        | lst h r => exact ⟨_, _, ys, rfl, rfl, .inl (by rw [← r.strs q, ← hK]; exact h.sq), hc, hq _ _ Ext.rfl' (.str _)⟩
      · cases hz) h

/-! slices -/
def tP (B : Bd) (f : Cm (Option Int)) : L2.TO := fun σ H Q => ∃ ρ O, Stx B O ρ σ H ∧ Out B O ρ σ H (f ρ) fun o ρ' H' => Q o H'
theorem pp_none : PO X none (tP B partN) := ⟨fun pins s σ H Q I ⟨ρ, O, S, h⟩ => po_none.run pins s σ H Q I (h.ret S)⟩
theorem pp_some (h : PE X e (tV B fa)) : PO X (some e) (tP B (partS fa)) := ⟨fun pins s σ H Q I ⟨ρ, O, S, z⟩ => (po_some h).run pins s σ H Q I ⟨ρ, O, S, z.bind.bind.imp fun d ρ1 H1 P1 z v hv => by
  obtain ⟨i, hi, z⟩ := z.lift
  have e := int_inv hi
  subst e
  cases hv
  exact ⟨i, rfl, (z H1 (Ps.refl P1.st)).ret P1.st⟩⟩⟩
def rSlAll (K : PySem.W.Frag) : V → Option Int → Option Int → Hp → VK → Prop := fun x lo hi H Q => (rSlL K x lo hi H Q ∨ rSlT K x lo hi H Q) ∨ rSlS x lo hi H Q
theorem sl_all : SlR X (rSlAll X.K) := (sl_list.or sl_tup).or sl_str
theorem prim_sl {K : PySem.W.Frag} (lo hi : Option Int) : PrimA K (fun xs H Q => ∃ x, xs = [x] ∧ rSlAll K x lo hi H Q) (fun ds => match ds with | [d] => slD d lo hi | _ => none) := by
  intro O H ds z xs Q r hg t hq
  dsimp only at hg
  split at hg
  · rename_i d
    cases r with
    | cons h r =>
      cases r
      refine ⟨_, rfl, ?_⟩
      cases h with
      | non => cases hg
      | bl _ => cases hg
      | int _ => cases hg
      | str s =>
        simp only [slD] at hg
        split at hg
        · rename_i hl
          cases hg
          exact .inr ⟨s, rfl, hl, hq _ _ Ext.rfl' (.str _)⟩
        · cases hg
      | lst h r =>
        cases hg
        exact .inl (.inl ⟨_, _, rfl, h.sq, fun p hp => hq _ _ (ext_upd hp) (newL (r.cut lo hi) t hp)⟩)
      | fz h r =>
        cases hg
        exact .inl (.inl ⟨_, _, rfl, h.sq, fun p hp => hq _ _ (ext_upd hp) (newL (r.cut lo hi) t hp)⟩)
      | tup h r =>
        simp only [slD] at hg
        split at hg
        · cases hg
        · rename_i hw
          cases hg
          exact .inl (.inr ⟨_, _, rfl, h.sq, by rw [← r.length]; exact hw, fun p hp => hq _ _ (ext_upd hp) (newT (r.cut lo hi) t hp)⟩)
  · cases hg
theorem pv_sl {lo hi : Option Expr} {p2 : Pos} {f : Cm Ar} {fl fh : Cm (Option Int)} (hK : B.K = X.K) (h : PE X e (tE B f)) (hl : PO X lo (tP B fl)) (hh : PO X hi (tP B fh)) : PE X (.Subscript e (.Slice lo hi none p2) pos) (tV B (slE f fl fh)) :=
  pe_imp (pe_slice sl_all h hl hh) fun σ H Q ⟨ρ, O, S, h⟩ => ⟨ρ, O, S, h.bind.imp fun a ρ1 H1 P1 h x hx => ⟨ρ1, O, P1.st, h.bind.imp fun l ρ2 H2 P2 h => ⟨ρ2, O, P2.st, h.bind.imp fun u ρ3 H3 P3 h => by
    obtain ⟨y, e1, q⟩ := fin_run (prim_sl l u) P3.st (.cons (P3.ar P2.st (P2.ar P1.st hx)) .nil) h
    cases e1
    rw [hK] at q
    exact q⟩⟩⟩

/-! conditions -/
variable {c : Expr} {fc : Cm Bool}
theorem pv_if (hc : PT X c (tT B fc)) (ha : PE X a (tV B fa)) (hb : PE X b (tV B fb)) : PE X (.IfExp c a b pos) (tV B (ifE fc fa fb)) :=
  pe_imp (pe_ifExp hc ha hb) fun σ H Q ⟨ρ, O, S, h⟩ => ⟨ρ, O, S, h.bind.imp fun k ρ1 H1 P1 h => by
    cases k with
    | true => exact ⟨ρ1, O, P1.st, h⟩
    | false => exact ⟨ρ1, O, P1.st, h⟩⟩
theorem tru_rep {K : PySem.W.Frag} {O : Addr → Prop} {H : Hp} {d : D} {x : V} {k : Bool} (r : Rep K O H d x) (h : truD d = some k) : TruV K x H k := by
  cases r with
  | non => cases h; rfl
  | bl b => cases h; rfl
  | int i => cases h; rfl
  | str s =>
    simp only [truD] at h
    split at h
    · rename_i hl
      cases h
      exact ⟨hl, rfl⟩
    · cases h
  | lst h1 r =>
    cases h
    refine .inl ⟨_, h1.sq, ?_⟩
    cases r <;> rfl
  | fz h1 r =>
    cases h
    refine .inl ⟨_, h1.sq, ?_⟩
    cases r <;> rfl
  | tup h1 r =>
    cases h
    refine .inr (.inl ⟨_, h1.sq, ?_⟩)
    cases r <;> rfl
theorem tt_tru (hK : B.K = X.K) (h : PE X a (tV B fa)) (he : ∀ whole, isTrue a X.env whole = (do let v ← whole; standAt a.pos; holding [v] (truthy v)) := by intro _; rfl) : PT X a (tT B (tst fa)) :=
  pt_imp (pt_truth h he) fun σ H Q ⟨ρ, O, S, h⟩ => ⟨ρ, O, S, h.bind.imp fun d ρ1 H1 P1 h v hv => by
    obtain ⟨k, hk, h⟩ := h.lift
    exact ⟨k, by rw [← hK]; exact tru_rep hv hk, h H1 (Ps.refl P1.st)⟩⟩
theorem runT {r : R2} {g : D → D → Option D} (hp : Prim2 B.K r g) {σ : L2.St} {H : Hp} {Q : Bool → Hp → Prop} (h : tT B (blE (op2 g fa fb)) σ H Q) : tTest (tOp r (tV B fa) (tV B fb)) σ H Q := by
  obtain ⟨ρ, O, S, h⟩ := h
  refine run2 (Q := fun x H' => ∃ k, x = .bl k ∧ Q k H') hp ⟨ρ, O, S, h.bind.imp fun d ρ1 H1 P1 h v hv => ?_⟩
  obtain ⟨k, hk, h⟩ := h.lift
  have e := bl_inv hk
  subst e
  cases hv
  exact ⟨k, rfl, h H1 (Ps.refl P1.st)⟩
theorem runTg {fa fb : Cm Ar} {r : R2} {g : D → D → Option D} (hp : Prim2 B.K r g) {σ : L2.St} {H : Hp} {Q : Bool → Hp → Prop} (h : tT B (blE (op2g g fa fb)) σ H Q) : tTest (tOp r (tE B fa) (tE B fb)) σ H Q := by
  obtain ⟨ρ, O, S, h⟩ := h
  refine run2g (Q := fun x H' => ∃ k, x = .bl k ∧ Q k H') hp ⟨ρ, O, S, h.bind.imp fun d ρ1 H1 P1 h v hv => ?_⟩
  obtain ⟨k, hk, h⟩ := h.lift
  have e := bl_inv hk
  subst e
  cases hv
  exact ⟨k, rfl, h H1 (Ps.refl P1.st)⟩
theorem tt_cmp {op : CmpOp} {r : R2} {g : D → D → Option D} (ho : OpR X (compareOp op) r) (hp : Prim2 B.K r g) (hm : behindInMarks op b = false) (ha : PE X a (tV B fa)) (hb : PE X b (tV B fb)) : PT X (.Compare a [op] [b] pos) (tT B (blE (op2 g fa fb))) :=
  pt_imp (pt_cmpR ho ha hb hm) fun _ _ _ h => runT hp h
theorem tt_cmpg {fa fb : Cm Ar} {op : CmpOp} {r : R2} {g : D → D → Option D} (ho : OpR X (compareOp op) r) (hp : Prim2 B.K r g) (hm : behindInMarks op b = false) (ha : PE X a (tE B fa)) (hb : PE X b (tE B fb)) : PT X (.Compare a [op] [b] pos) (tT B (blE (op2g g fa fb))) :=
  pt_imp (pt_cmpR ho ha hb hm) fun _ _ _ h => runTg hp h
theorem tt_not (ha : PT X a (tT B fc)) : PT X (.UnaryOp .Not a pos) (tT B (notT fc)) :=
  pt_imp (pt_not ha) fun σ H Q ⟨ρ, O, S, h⟩ => ⟨ρ, O, S, h.bind.imp fun k ρ1 H1 P1 h => h.ret P1.st⟩
variable {fd : Cm Bool} {rest : List Expr}
theorem wt_and1 (ha : PT X a (tT B fc)) : PW X (.BoolOp .And [a] pos) (tT B fc) := pw_and1 ha
theorem wt_or1 (ha : PT X a (tT B fc)) : PW X (.BoolOp .Or [a] pos) (tT B fc) := pw_or1 ha
theorem wt_and (ha : PT X a (tT B fc)) (hb : PW X (.BoolOp .And (b :: rest) pos) (tT B fd)) : PW X (.BoolOp .And (a :: b :: rest) pos) (tT B (andT fc fd)) :=
  pw_imp (pw_and ha hb) fun σ H Q ⟨ρ, O, S, h⟩ => ⟨ρ, O, S, h.bind.imp fun k ρ1 H1 P1 h => by
    cases k with
    | true => exact ⟨ρ1, O, P1.st, h⟩
    | false => exact h.ret P1.st⟩
theorem wt_or (ha : PT X a (tT B fc)) (hb : PW X (.BoolOp .Or (b :: rest) pos) (tT B fd)) : PW X (.BoolOp .Or (a :: b :: rest) pos) (tT B (orT fc fd)) :=
  pw_imp (pw_or ha hb) fun σ H Q ⟨ρ, O, S, h⟩ => ⟨ρ, O, S, h.bind.imp fun k ρ1 H1 P1 h => by
    cases k with
    | true => exact h.ret P1.st
    | false => exact ⟨ρ1, O, P1.st, h⟩⟩
theorem pv_one {op : BoolOp} (h : PE X a (tV B fa)) : PE X (.BoolOp op [a] pos) (tV B fa) := pe_one h
theorem pv_and (ha : PE X a (tV B fa)) (hb : PE X (.BoolOp .And (b :: rest) pos) (tV B fb)) : PE X (.BoolOp .And (a :: b :: rest) pos) (tV B (andE fa fb)) :=
  pe_imp (pe_and ha hb) fun σ H Q ⟨ρ, O, S, h⟩ => ⟨ρ, O, S, h.bind.bind.imp fun d ρ1 H1 P1 h v hv => by
    obtain ⟨k, hk, h⟩ := h.lift
    have e := bl_inv hk
    subst e
    cases hv
    refine ⟨k, rfl, ?_⟩
    cases k with
    | true => exact ⟨ρ1, O, P1.st, h H1 (Ps.refl P1.st)⟩
    | false => exact (h H1 (Ps.refl P1.st)).ret P1.st _ (.bl _)⟩
theorem pv_or (ha : PE X a (tV B fa)) (hb : PE X (.BoolOp .Or (b :: rest) pos) (tV B fb)) : PE X (.BoolOp .Or (a :: b :: rest) pos) (tV B (orE fa fb)) :=
  pe_imp (pe_or ha hb) fun σ H Q ⟨ρ, O, S, h⟩ => ⟨ρ, O, S, h.bind.bind.imp fun d ρ1 H1 P1 h v hv => by
    obtain ⟨k, hk, h⟩ := h.lift
    have e := bl_inv hk
    subst e
    cases hv
    refine ⟨k, rfl, ?_⟩
    cases k with
    | true => exact (h H1 (Ps.refl P1.st)).ret P1.st _ (.bl _)
    | false => exact ⟨ρ1, O, P1.st, h H1 (Ps.refl P1.st)⟩⟩
end
end V3
end

section
set_option Elab.async false
set_option linter.all false
set_option maxRecDepth 100000
set_option maxHeartbeats 1000000
/-! V3e: statements. -/
namespace V3
open PySem PySem.Spec PyProof.Rows L2

inductive Fl where
  | nx | bk | ct | rt (d : D)

/-- behind a statement -/
structure Pst (B : Bd) (O : Addr → Prop) (H : Hp) (O' : Addr → Prop) (ρ' : Ev) (σ' : L2.St) (H' : Hp) : Prop where
  st : Stx B O' ρ' σ' H'
  sub : ∀ a, O a → O' a
  new : ∀ a, O' a → O a ∨ H a = none
  chg : Chg O H H'
def OutS (B : Bd) (O : Addr → Prop) (H : Hp) (r : Rs Fl) (En : Ends) : Prop :=
  match r with
  | .ok .nx ρ' => ∀ σ' H' O', Pst B O H O' ρ' σ' H' → En.nx σ' H'
  | .ok .bk ρ' => ∀ σ' H' O', Pst B O H O' ρ' σ' H' → En.bk σ' H'
  | .ok .ct ρ' => ∀ σ' H' O', Pst B O H O' ρ' σ' H' → En.ct σ' H'
  | .ok (.rt d) ρ' => ∀ σ' H' O' v, Pst B O H O' ρ' σ' H' → Rep B.K B.O0 H' d v → (B.fr = true → ∀ p, v = .ref p → B.H0 p = none) → En.rt v H'
  | .exc n ρ' => ∀ σ' H' O' C, Pst B O H O' ρ' σ' H' → B.mg n = some (.ref C) → B.W (.ref C) none σ' H'
  | .bad => False
def tS (B : Bd) (f : Cm Fl) : TS := fun En σ H => ∃ ρ O, Stx B O ρ σ H ∧ OutS B O H (f ρ) En

section
variable {B : Bd} {O O1 O2 : Addr → Prop} {ρ ρ1 ρ2 : Ev} {σ σ1 σ2 : L2.St} {H H1 H2 : Hp} {En En' : Ends}
theorem Pst.refl (S : Stx B O ρ σ H) : Pst B O H O ρ σ H := ⟨S, fun _ h => h, fun _ h => .inl h, Chg.refl⟩
theorem Pst.trans (a : Pst B O H O1 ρ1 σ1 H1) (b : Pst B O1 H1 O2 ρ2 σ2 H2) : Pst B O H O2 ρ2 σ2 H2 where
  st := b.st
  sub := fun x h => b.sub x (a.sub x h)
  new := fun x h => by
    rcases b.new x h with h | h
    · exact a.new x h
    · by_cases hO : O x
      · exact .inl hO
      · refine .inr ?_
        cases e : H x with
        | none => rfl
        | some o =>
          have z := a.chg x o e hO
          rw [h] at z; cases z
  chg := fun x o e n => by
    have e1 := a.chg x o e n
    refine b.chg x o e1 fun h => ?_
    rcases a.new x h with h | h
    · exact n h
    · rw [e] at h; cases h
theorem Pst.of (S : Stx B O ρ σ H) (P : Ps B O ρ σ H ρ1 H1) : Pst B O H O ρ1 σ H1 := ⟨P.st, fun _ h => h, fun _ h => .inl h, P.chg.sub S.ownO⟩
theorem OutS.from {r : Rs Fl} (h : OutS B O H r En) (P : Pst B O H O1 ρ1 σ1 H1) : OutS B O1 H1 r En := by
  cases r with
  | ok f ρ' =>
    cases f with
    | nx => exact fun σ' H' O' P' => h σ' H' O' (P.trans P')
    | bk => exact fun σ' H' O' P' => h σ' H' O' (P.trans P')
    | ct => exact fun σ' H' O' P' => h σ' H' O' (P.trans P')
    | rt d => exact fun σ' H' O' v P' r => h σ' H' O' v (P.trans P') r
  | exc n ρ' => exact fun σ' H' O' C P' => h σ' H' O' C (P.trans P')
  | bad => exact h
/-- a statement behind an expression -/
theorem OutS.bindE {α : Type} {f : Cm α} {g : α → Cm Fl} (S : Stx B O ρ σ H) (h : OutS B O H (bnd f g ρ) En) : Out B O ρ σ H (f ρ) fun a ρ1 H1 => OutS B O H1 (g a ρ1) En := by
  unfold bnd at h
  cases e : f ρ with
  | ok a ρ1 =>
    rw [e] at h
    exact fun H1 P => h.from (Pst.of S P)
  | exc n ρ1 =>
    rw [e] at h
    exact fun H' C P e => h σ H' O C (Pst.of S P) e
  | bad => rw [e] at h; exact h
end

/-! ### combinators -/
def thenS (a b : Cm Fl) : Cm Fl := bnd a fun f => match f with
  | .nx => b
  | f => ret f
def skipS : Cm Fl := ret .nx
def setI (i : Nat) (d : D) : Cm Unit := fun ρ => match ρ[i]? with
  | some (.im _) => .ok () (ρ.set i (.im d))
  | some .un => .ok () (ρ.set i (.im d))
  | _ => .bad
def setO (i : Nat) (ds : List D) : Cm Unit := fun ρ => if i < ρ.length then .ok () (ρ.set i (.ow ds)) else .bad
def asgS (i : Nat) (f : Cm D) : Cm Fl := bnd f fun d => bnd (setI i d) fun _ => ret .nx
def retS (f : Cm D) : Cm Fl := bnd f fun d => ret (.rt d)
def exprS (f : Cm D) : Cm Fl := bnd f fun _ => ret .nx
def ifS (c : Cm Bool) (a b : Cm Fl) : Cm Fl := ifE c a b
def raiseS (n : Str) : Cm Fl := fun ρ => .exc n ρ
def brkS : Cm Fl := ret .bk
def ctS : Cm Fl := ret .ct

section
variable {B : Bd} {O : Addr → Prop} {ρ : Ev} {σ : L2.St} {H : Hp}
theorem getSet {α : Type} {l : List α} {i j : Nat} {a b : α} (h : (l.set i a)[j]? = some b) : (i = j ∧ b = a ∧ i < l.length) ∨ (i ≠ j ∧ l[j]? = some b) := by
  by_cases e : i = j
  · subst e
    by_cases hl : i < l.length
    · rw [List.getElem?_set_self hl] at h
      exact .inl ⟨rfl, (Option.some.inj h).symm, hl⟩
    · rw [List.getElem?_eq_none (by rw [List.length_set]; omega)] at h
      cases h
  · rw [List.getElem?_set_ne e] at h
    exact .inr ⟨e, h⟩
theorem not_own_of {i : Nat} (h : ∀ ds, ρ[i]? ≠ some (Sl.ow ds)) {p : Addr} : ¬ OwnAt ρ σ i p := fun ⟨⟨ds, e⟩, _⟩ => h ds e
/-- a slot that is no own list takes fixed data -/
theorem Stx.setI (S : Stx B O ρ σ H) {i : Nat} {d : D} {v : V} (hi : i < ρ.length) (hn : ∀ ds, ρ[i]? ≠ some (Sl.ow ds)) (r : Rep B.K O H d v) : Stx B O (ρ.set i (.im d)) (σ.set i (some v)) H := by
  have back : ∀ j p, OwnAt (ρ.set i (.im d)) (σ.set i (some v)) j p → OwnAt ρ σ j p := fun j p ⟨⟨ds, e1⟩, e2⟩ => by
    rcases getSet e1 with ⟨_, h, _⟩ | ⟨hne, h⟩
    · cases h
    · rw [List.getElem?_set_ne hne] at e2
      exact ⟨⟨ds, h⟩, e2⟩
  have fwd : ∀ j p, OwnAt ρ σ j p → OwnAt (ρ.set i (.im d)) (σ.set i (some v)) j p := fun j p ⟨⟨ds, e1⟩, e2⟩ => by
    have hne : i ≠ j := fun e => by subst e; exact hn ds e1
    exact ⟨⟨ds, by rw [List.getElem?_set_ne hne]; exact e1⟩, by rw [List.getElem?_set_ne hne]; exact e2⟩
  refine ⟨by rw [List.length_set, List.length_set]; exact S.len, fun j s e => ?_, fun j k p a b => S.inj j k p (back j p a) (back k p b), S.trk, S.keep, fun p ⟨j, h⟩ => S.own p ⟨j, back j p h⟩, S.sup, fun j p h => fwd j p (S.lent j p h), S.lentN, S.o0⟩
  rcases getSet e with ⟨rfl, rfl, hl⟩ | ⟨hne, h⟩
  · exact ⟨_, List.getElem?_set_self (by rw [← S.len]; exact hi), v, rfl, r⟩
  · rw [List.getElem?_set_ne hne]
    exact S.ok j s h
/-- a slot beyond the parameters takes a new own list -/
theorem Stx.setO (S : Stx B O ρ σ H) {i : Nat} {ds : List D} {p : Addr} {vs : List V} (hi : i < ρ.length) (hn : B.n ≤ i) (hp : H p = none) (r : RepA B.K O H ds vs) :
    Pst B O H (fun a => O a ∨ a = p) (ρ.set i (.ow ds)) (σ.set i (some (.ref p))) (upd H p (.lst vs)) := by
  have ex : Ext H (upd H p (.lst vs)) := ext_upd hp
  have av : ∀ {d : D} {v : V}, Rep B.K O H d v → Rep B.K (fun a => O a ∨ a = p) (upd H p (.lst vs)) d v := fun h => (h.avoid (O' := fun a => O a ∨ a = p) fun a z => z.elim .inl fun e => .inr (e ▸ hp)).ext ex
  have avA : ∀ {d : List D} {v : List V}, RepA B.K O H d v → RepA B.K (fun a => O a ∨ a = p) (upd H p (.lst vs)) d v := fun h => (h.avoid (O' := fun a => O a ∨ a = p) fun a z => z.elim .inl fun e => .inr (e ▸ hp)).ext ex
  have trkS : ∀ j q, OwnAt ρ σ j q → q ≠ p := fun j q h e => by
    obtain ⟨vs, z⟩ := S.trk q (S.ownO q ⟨j, h⟩)
    rw [e, hp] at z; cases z
  have back : ∀ j q, OwnAt (ρ.set i (.ow ds)) (σ.set i (some (.ref p))) j q → (j = i ∧ q = p) ∨ (j ≠ i ∧ OwnAt ρ σ j q) := fun j q ⟨⟨es, e1⟩, e2⟩ => by
    rcases getSet e1 with ⟨rfl, _, hl⟩ | ⟨hne, h⟩
    · rw [List.getElem?_set_self (by rw [← S.len]; exact hi)] at e2
      cases e2
      exact .inl ⟨rfl, rfl⟩
    · rw [List.getElem?_set_ne hne] at e2
      exact .inr ⟨fun e => hne e.symm, ⟨es, h⟩, e2⟩
  have hnone : ∀ q, OwnAt ρ σ i q → False ∨ True := fun _ _ => .inr trivial
  refine ⟨⟨by rw [List.length_set, List.length_set]; exact S.len, fun j s e => ?_, fun j k q a b => ?_, fun a h => ?_, fun a o e n => ex a o (S.keep a o e n), fun q ⟨j, h⟩ => ?_, fun a h => .inl (S.sup a h), fun j q h => ?_, S.lentN, S.o0⟩, fun a h => .inl h, fun a h => h.elim .inl fun e => .inr (e ▸ hp), Chg.of ex⟩
  · rcases getSet e with ⟨rfl, rfl, hl⟩ | ⟨hne, h⟩
    · exact ⟨_, List.getElem?_set_self (by rw [← S.len]; exact hi), p, vs, rfl, .inr rfl, upd_same, avA r⟩
    · rw [List.getElem?_set_ne hne]
      obtain ⟨o, h1, h2⟩ := S.ok j s h
      refine ⟨o, h1, ?_⟩
      cases s with
      | un => trivial
      | im d => obtain ⟨v, z, r⟩ := h2; exact ⟨v, z, av r⟩
      | ow es => obtain ⟨q, ws, z1, z2, z3, z4⟩ := h2; exact ⟨q, ws, z1, .inl z2, ex _ _ z3, avA z4⟩
  · rcases back j q a with ⟨rfl, e1⟩ | ⟨h1, a'⟩
    · rcases back k q b with ⟨rfl, _⟩ | ⟨_, b'⟩
      · rfl
      · exact absurd e1 (trkS k q b')
    · rcases back k q b with ⟨rfl, e2⟩ | ⟨_, b'⟩
      · exact absurd e2 (trkS j q a')
      · exact S.inj j k q a' b'
  · rcases h with h | rfl
    · obtain ⟨ws, e⟩ := S.trk a h
      exact ⟨ws, ex _ _ e⟩
    · exact ⟨vs, upd_same⟩
  · rcases back j q h with ⟨_, rfl⟩ | ⟨_, h'⟩
    · refine .inr ?_
      cases e : B.H0 q with
      | none => rfl
      | some o =>
        by_cases hl : ∃ k, B.lent k q
        · obtain ⟨k, hl⟩ := hl
          exact absurd rfl (trkS k q (S.lent k q hl))
        · have z := S.keep q o e hl
          rw [hp] at z; cases z
    · exact S.own q ⟨j, h'⟩
  · have h1 := S.lentN j q h
    obtain ⟨⟨es, e1⟩, e2⟩ := S.lent j q h
    have hne : i ≠ j := by omega
    exact ⟨⟨es, by rw [List.getElem?_set_ne hne]; exact e1⟩, by rw [List.getElem?_set_ne hne]; exact e2⟩
end

section
variable {X : Cx} {B : Bd} {e : Expr} {pos : Pos} {fa : Cm D} {st : Stmt} {rest : List Stmt} {s t : Cm Fl}
theorem ss_nil : PSs X [] (tS B skipS) := pss_imp pss_nil fun En σ H ⟨ρ, O, S, h⟩ => h σ H O (Pst.refl S)
theorem ss_cons (h1 : PS X st (tS B s)) (h2 : PSs X rest (tS B t)) : PSs X (st :: rest) (tS B (thenS s t)) :=
  pss_imp (pss_cons h1 h2) fun En σ H ⟨ρ, O, S, h⟩ => ⟨ρ, O, S, by
    unfold thenS bnd at h
    cases e : s ρ with
    | ok f ρ1 =>
      rw [e] at h
      cases f with
      | nx => exact fun σ' H' O' P => ⟨ρ1, O', P.st, OutS.from h P⟩
      | bk => exact h
      | ct => exact h
      | rt d => exact h
    | exc n ρ1 => rw [e] at h; exact h
    | bad => rw [e] at h; exact h⟩
theorem ss_one (h1 : PS X st (tS B s)) : PSs X [st] (tS B s) := pss_one h1
theorem sv_pass : PS X (.Pass pos) (tS B skipS) := ps_imp ps_pass fun En σ H ⟨ρ, O, S, h⟩ => h σ H O (Pst.refl S)
theorem sv_brk : PS X (.Break pos) (tS B brkS) := ps_imp ps_break fun En σ H ⟨ρ, O, S, h⟩ => h σ H O (Pst.refl S)
theorem sv_ct : PS X (.Continue pos) (tS B ctS) := ps_imp ps_continue fun En σ H ⟨ρ, O, S, h⟩ => h σ H O (Pst.refl S)
theorem sv_doc {x : Str} {j : Nat} {pos' : Pos} : PS X (.Expr (.Constant (.str x) j pos) pos') (tS B skipS) := ps_imp ps_doc fun En σ H ⟨ρ, O, S, h⟩ => h σ H O (Pst.refl S)
theorem sv_expr (he : PE X e (tV B fa)) (hs : swapsWith e none pos.line X.env = pure false := by rfl) : PS X (.Expr e pos) (tS B (exprS fa)) :=
  ps_imp (ps_expr he hs) fun En σ H ⟨ρ, O, S, h⟩ => ⟨ρ, O, S, (OutS.bindE S h).imp fun d ρ1 H1 P1 h v hv => h σ H1 O (Pst.refl P1.st)⟩
theorem sv_ret (hf : B.fr = false) (he : PE X e (tV B fa)) : PS X (.Return (some e) pos) (tS B (retS fa)) :=
  ps_imp (ps_ret he) fun En σ H ⟨ρ, O, S, h⟩ => ⟨ρ, O, S, (OutS.bindE S h).imp fun d ρ1 H1 P1 h v hv => h σ H1 O v (Pst.refl P1.st) (hv.avoid fun a z => .inl (P1.st.sup a z)) (fun z => by rw [hf] at z; cases z)⟩
theorem sv_retN (hf : B.fr = false) : PS X (.Return none pos) (tS B (ret (.rt .non))) := ps_imp ps_retN fun En σ H ⟨ρ, O, S, h⟩ => h σ H O .non (Pst.refl S) .non (fun z => by rw [hf] at z; cases z)
theorem sv_if {c : Expr} {a b : List Stmt} {fc : Cm Bool} (hc : PT X c (tT B fc)) (ha : PSs X a (tS B s)) (hb : PSs X b (tS B t)) : PS X (.If c a b pos) (tS B (ifS fc s t)) :=
  ps_imp (ps_if hc ha hb) fun En σ H ⟨ρ, O, S, h⟩ => ⟨ρ, O, S, (OutS.bindE S h).imp fun k ρ1 H1 P1 h => by
    cases k with
    | true => exact ⟨ρ1, O, P1.st, h⟩
    | false => exact ⟨ρ1, O, P1.st, h⟩⟩
theorem setI_inv {i : Nat} {d : D} {ρ : Ev} {B : Bd} {O : Addr → Prop} {H : Hp} {g : Unit → Cm Fl} {En : Ends} (h : OutS B O H (bnd (setI i d) g ρ) En) : i < ρ.length ∧ (∀ ds, ρ[i]? ≠ some (Sl.ow ds)) ∧ OutS B O H (g () (ρ.set i (.im d))) En := by
  unfold bnd setI at h
  cases e : ρ[i]? with
  | none => rw [e] at h; exact h.elim
  | some s =>
    have hl : i < ρ.length := (List.getElem?_eq_some_iff.mp e).1
    rw [e] at h
    cases s with
    | un => exact ⟨hl, (fun ds z => by cases z), h⟩
    | im _ => exact ⟨hl, (fun ds z => by cases z), h⟩
    | ow _ => exact h.elim
theorem sv_asg {i : Nat} {x : Str} {pos' : Pos} (hN : X.N.Nodup) (hi : X.N[i]? = some x) (hx : Loc X.env.scope x) (he : PE X e (tV B fa)) (hs : swapsWith e (some (.Name x pos')) pos.line X.env = pure false := by rfl) (hf : X.fn x = true ∨ X.env.scope.names.lookup x = some .local := by first | exact .inl rfl | exact .inr rfl | assumption) :
    PS X (.Assign [.Name x pos'] e pos) (tS B (asgS i fa)) :=
  ps_imp (ps_set hN hi hx he hs hf) fun En σ H ⟨ρ, O, S, h⟩ => ⟨ρ, O, S, (OutS.bindE S h).imp fun d ρ1 H1 P1 h v hv => by
    obtain ⟨hl, hn, h⟩ := setI_inv h
    exact h _ H1 O (Pst.refl (P1.st.setI hl hn hv))⟩
/-- x, y = a, b -/
def parS (i j : Nat) (F : Cm (List D)) : Cm Fl := bnd F fun ds => match ds with
  | [d, e] => bnd (setI i d) fun _ => bnd (setI j e) fun _ => ret .nx
  | _ => fun _ => .bad
theorem sv_par {i j : Nat} {x y : Str} {a b : Expr} {F : Cm (List D)} {px py pt : Pos} {kt k2 pt2} (hc : X.calm = true) (hN : X.N.Nodup) (hi : X.N[i]? = some x) (hj : X.N[j]? = some y) (hij : i ≠ j)
    (hx : X.env.scope.names.lookup x = some .local) (hy : X.env.scope.names.lookup y = some .local) (ha : PA X [a, b] (tA B F))
    (hw : swappedStores [.Tuple [.Name x px, .Name y py] kt pt] (.Tuple [a, b] k2 pt2) X.env = pure (some [x, y]))
    (hs : swapsWithSole [.Tuple [.Name x px, .Name y py] kt pt] (.Tuple [a, b] k2 pt2) pos.line X.env = pure false := by rfl) :
    PS X (.Assign [.Tuple [.Name x px, .Name y py] kt pt] (.Tuple [a, b] k2 pt2) pos) (tS B (parS i j F)) :=
  ps_imp (ps_par hc hN hi hj hij hx hy ha hw hs) fun En σ H ⟨ρ, O, S, h⟩ => ⟨ρ, O, S, (OutS.bindE S h).imp fun ds ρ1 H1 P1 h vs hv => by
    split at h
    · rename_i d e
      cases hv with
      | cons h1 hv =>
        cases hv with
        | cons h2 hv =>
          cases hv
          obtain ⟨hl, hn, h⟩ := setI_inv h
          obtain ⟨hl2, hn2, h⟩ := setI_inv h
          exact ⟨_, _, rfl, h _ H1 O (Pst.refl ((P1.st.setI hl hn h1).setI hl2 hn2 h2))⟩
    · exact h.elim⟩
end
end V3
end

section
set_option Elab.async false
set_option linter.all false
set_option maxRecDepth 100000
set_option maxHeartbeats 2000000
/-! V3f: errors in the air of a def or of a comprehension's block; a comprehension whose element may raise. -/
namespace V3
open PySem PySem.Spec PyProof.Rows L2

/-- an error over X, which its frame may have noted -/
def XF (X : Cx) (W : WX) (u : Value) (z : Shared) : Prop :=
  ∃ (a : Addr) (G : Heap) (y : Shared) (pins : List (Addr × Obj)) (σ : L2.St) (H : Hp) (cls : Value) (d : Option Addr) (L : Addr),
    X.env.frame = some L ∧ u = .ref a ∧ Inv X pins σ H y ∧ (∀ b o, y.heap.get? b = some o → b ∉ frs X.stack → G.get? b = some o) ∧ y.heap.UpToSlots z.heap ∧
      Sky G X.stack a (Zc cls d) L z.heap ∧ H a = none ∧ z.os = y.os ∧ AllBare z.gens ∧ W cls d σ H
def Air (X : Cx) (W : WX) : Prop := ∀ u z, XF X W u z → X.xe u z
theorem air_of {X : Cx} {W : WX} (hf : X.env.frame = some X.env.locals) (tk : Takes X W) : Air X W := fun u z ⟨a, G, y, pins, σ, H, cls, d, L, e, r⟩ => by
  rw [hf] at e
  cases e
  exact tk u z ⟨a, G, y, pins, σ, H, cls, d, r⟩
theorem XF.call {X : Cx} {W : WX} {E : XK} {pins : List (Addr × Obj)} {σ : L2.St} {H : Hp} {x z : Shared} {L : Addr} (I : Inv X pins σ H x) (hf : X.env.frame = some L) (hW : ∀ cls d H', E cls d H' → W cls d σ H') {u : Value}
    (c : L2.CX X.prog X.w X.stack H x E u z) : XF X W u z := by
  obtain ⟨a, G, H', cls, d, eu, fl, hok, ub, na, os, ag, hE⟩ := c
  obtain ⟨K, k1, k2⟩ := restrict z.heap fun b => (G.get? b).isSome || decide (b ∈ frs X.stack)
  have onG : ∀ b o, G.get? b = some o → K.get? b = some o := fun b o q => (k1 b (by rw [q]; rfl)).trans (fl.1 b o q)
  have onF : ∀ b, b ∈ frs X.stack → K.get? b = z.heap.get? b := fun b q => k1 b (by rw [decide_eq_true q, Bool.or_true])
  have ofK : ∀ b o, K.get? b = some o → z.heap.get? b = some o ∧ ((∃ o', G.get? b = some o') ∨ b ∈ frs X.stack) := fun b o q => by
    by_cases h : ((G.get? b).isSome || decide (b ∈ frs X.stack)) = true
    · refine ⟨(k1 b h).symm.trans q, ?_⟩
      rcases (Bool.or_eq_true _ _).mp h with h | h
      · exact .inl (Option.isSome_iff_exists.mp h)
      · exact .inr (of_decide_eq_true h)
    · rw [k2 b (by simpa using h)] at q
      cases q
  have un : Un (frs X.stack) [] H H' x.heap K := by
    refine ⟨fun b o q n hb _ => onG b o (ub.keep b o q n hb), fun b o q n hb _ => ?_, fun b o q n _ => ub.free b o q n, fun b o q _ => ?_, ub.tups, ub.frzs, ub.tbls⟩
    · obtain ⟨sl, h⟩ := ub.slot b o q hb
      exact ⟨sl, (onF b hb).trans h⟩
    · by_cases hb : b ∈ frs X.stack
      · obtain ⟨sl, h⟩ := ub.slot b o q hb
        exact ⟨_, (onF b hb).trans h⟩
      · obtain ⟨o', h⟩ := ub.there b o q hb
        exact ⟨o', onG b o' h⟩
  have J := I.call (g' := z.gens) (t' := z.toks) (d' := z.drawn) (ch := []) un (hok.kept onG) ag (fun _ q => nomatch q)
  refine ⟨a, G, _, pins, σ, H', cls, d, L, hf, eu, J, fun b o q hb => ?_, fun b o q _ => ⟨o.slots, (ofK b o q).1⟩, .inr (.inl fl), na, os, ag, hW _ _ _ hE⟩
  obtain ⟨q1, q2⟩ := ofK b o q
  rcases q2 with ⟨o', h⟩ | h
  · have e := fl.1 b o' h
    rw [q1] at e
    cases e
    exact h
  · exact absurd h hb
/-- what a call may let out is taken -/
theorem Air.passes {X : Cx} {W : WX} (ar : Air X W) {L : Addr} (hf : X.env.frame = some L) (σ : L2.St) : PassesAt (L2.CX X.prog X.w) X σ (fun cls d H => W cls d σ H) :=
  fun pins H s e s' I c => ar e s' (XF.call I hf (fun _ _ _ h => h) c)

/-- a block's context that lets errors out -/
abbrev blkE (X : Cx) (s : Shared) (H : Hp) (scope : Scope) (ce : PySem.Env) (fp : List Addr) (E : XK) : Cx := (X.blk s H scope ce fp).wish (XF (X.blk s H scope ce fp) fun cls d _ H' => E cls d H')
theorem XF.wish {X : Cx} {W : WX} {E : Value → Shared → Prop} {u : Value} {z : Shared} (h : XF (X.wish E) W u z) : XF X W u z := by
  obtain ⟨a, G, y, pins, σ, H, cls, d, L, h1, h2, I, r⟩ := h
  exact ⟨a, G, y, pins, σ, H, cls, d, L, h1, h2, I.unwish, r⟩
theorem air_blk {X : Cx} {s : Shared} {H : Hp} {scope : Scope} {ce : PySem.Env} {fp : List Addr} {E : XK} : Air (blkE X s H scope ce fp E) (fun cls d _ H' => E cls d H') := fun _ _ h => h.wish

section
variable {M : Model} {A : Around} {env0 : PySem.Env} {outer : List PySem.Env} {L a : Addr} {Z : Obj → Prop} {G : Heap} {s : Shared}
/-- the frame notes it: held there -/
theorem sky_note {ce : PySem.Env} {E : Value → Shared → Prop} {Q : Unit → Shared → Prop} (hZ : HandSPX.Steady Z) (hfr : A.frames = some (env0 :: outer)) (h0 : env0.frame = some L) (hce : ce.frame = some L) (x : Sky G (env0 :: outer) a Z L s.heap)
    (hQ : ∀ h', HandSPX.HeldZ G (env0 :: outer) a Z L h' → s.heap.UpToSlots h' → Q () { s with heap := h' }) : wpAny M A (noteFrame (.ref a) ce) Q E s := by
  rw [noteFrame_env _ (hce.trans h0.symm)]
  rcases x with ⟨hB, hn, hl, oe, vs, he, hz, hd, h1⟩ | fl | hh
  · exact HandSPX.look_newZ hZ hfr hl h0 he hB hn hd h1 hz hQ
  · exact HandSPX.looks_onZ hZ hfr h0 fl hQ
  · exact HandSPX.againZ h0 hh.2.2.2 (hQ s.heap hh (Heap.UpToSlots.refl _))
end

/-- the frame of X, and of what runs around it, is at L -/
def Frm (X : Cx) (L : Addr) : Prop := X.env.frame = some L ∧ ∃ e0 o0, X.stack = e0 :: o0 ∧ e0.frame = some L
section
variable {X : Cx}
theorem rep_keep {h1 h2 : Heap} {C : Addr} (k : Heap.SameBut C h1 h2) : ∀ b o, b ≠ C → h1.get? b = some o → h2.get? b = some o := fun b o n q => (k.2 b n).trans q
/-- [elt for tg in iter if ..]; the element may raise -/
theorem lcx {pins : List (Addr × Obj)} {s : Shared} {σ : L2.St} {H : Hp} {Q : VK} {W : WX} {L : Addr} {elt tg iter : Expr} {ifs : List Expr} {scope : Scope} {own : List (Str × Nat)} {pos pos' : Pos} {wi : TI} {g : TG} {tt : TT} {te : TE}
    {use : Option (Value → Sem Unit)} {Qf : Value → Shared → Prop} (fm : Frm X L) (ar : Air X W)
    (calm : X.calm = true) (nd : X.N.Nodup) (I : Inv X pins σ H s) (pi : PI X tg iter wi) (ok : BlkOk X.N X.env.scope scope own)
    (pg : ∀ (s : Shared) (H : Hp) (C : Addr) (cl : List (Str × Addr)) (fp : List Addr), PG (blkE X s H scope (compEnvC scope cl C X.env) fp fun cls d H' => W cls d σ H') tg g)
    (pt : ∀ (s : Shared) (H : Hp) (C : Addr) (cl : List (Str × Addr)) (fp : List Addr), PTs (blkE X s H scope (compEnvC scope cl C X.env) fp fun cls d H' => W cls d σ H') ifs tt)
    (pe : ∀ (s : Shared) (H : Hp) (C : Addr) (cl : List (Str × Addr)) (fp : List Addr), PE (blkE X s H scope (compEnvC scope cl C X.env) fp fun cls d H' => W cls d σ H') elt te)
    (fold : ∀ x, foldedSetIterable iter X.env x = pure x) (h : tLc wi g tt te (own.map (·.2)) σ H Q)
    (back : ∀ D C (ce : PySem.Env) s' m H', ce.locals = C → Inv X pins σ H' s' → Q (.ref D) H' → s'.heap.Ns C m → FpOk X pins H' C → compEnds (model X.prog X.w) X.A X.xe use Qf (.ref D) ce (.ok .next) s') :
    wpAny (model X.prog X.w) X.A (comprehension (.ListComp elt [⟨tg, iter, ifs, 0⟩] scope pos) scope X.env pos' (newList []) false (eval iter X.env) use) Qf X.xe s := by
  have caught : ∀ y ∈ scope.names, y.2 = .free → ∃ c, X.env.cells.lookup y.1 = some c := fun y m e => I.ok.has _ ((ok.free y m e).imp id id)
  refine comprehension_at (use := use) rfl fold (closure_ok caught) ok.kind (fun y m e => (ok.uniq y m).trans (by rw [e])) ?_
  refine thn (pi.run pins s σ H _ I h) fun xv t1 q1 => thn q1 fun itv t2 q2 => ?_
  obtain ⟨it, fp, tn, J, K2, rfl, I2, T, st2, f2, q⟩ := q2
  refine wpAny_newObj_type (newEnv_comp ?_) (Nat.zero_le _)
  generalize hD : t2.heap.objs.size = D
  obtain ⟨Wi, ⟨m0, w0⟩, turn⟩ := q D (I2.hok.fresh (Nat.le_of_eq hD))
  generalize ht3 : ({ t2 with heap := t2.heap.push { cls := .type "list", data := .seq ([] : List Value).toArray } } : Shared) = t3
  have grow : ∀ b o, t2.heap.get? b = some o → t3.heap.get? b = some o := fun b o e => by rw [← ht3]; exact Heap.get?_push_of_some _ e
  have I3 : Inv X pins σ (upd K2 D (.lst [])) t3 := by
    rw [← ht3]
    exact I2.laid (t' := t2.toks) (fun b o e => Heap.get?_push_of_some _ e) (Nat.le_of_eq hD) ⟨Nat.zero_le _, [], 0, .nil, by rw [← hD]; exact Heap.get?_push_size _ rfl⟩
  have small : ∀ b ∈ fp, b < t2.heap.objs.size := fun b m => let ⟨_, e, _⟩ := T.obj _ _ st2 b m; Heap.lt_size e
  have f3 : ∀ b ∈ fp, FpOk X pins (upd K2 D (.lst [])) b ∧ b < t3.heap.objs.size := fun b m => by
    refine ⟨⟨?_, (f2 b m).2⟩, ?_⟩
    · rw [upd_ne (Nat.ne_of_lt (hD ▸ small b m))]
      exact (f2 b m).1
    · obtain ⟨o, e, _⟩ := T.obj _ _ st2 b m
      exact Heap.lt_size (grow b o e)
  have I4 := block_start I3 ok nd f3
  have g4 := pg t3 (upd K2 D (.lst [])) t3.heap.objs.size (cellsFrom (t3.heap.objs.size + 1) scope.names (cloFrom X.env.cells scope.names [])) fp
  have t4 := pt t3 (upd K2 D (.lst [])) t3.heap.objs.size (cellsFrom (t3.heap.objs.size + 1) scope.names (cloFrom X.env.cells scope.names [])) fp
  have e4 := pe t3 (upd K2 D (.lst [])) t3.heap.objs.size (cellsFrom (t3.heap.objs.size + 1) scope.names (cloFrom X.env.cells scope.names [])) fp
  show codeAny (model X.prog X.w) X.A (.compStart (.ListComp elt [⟨tg, iter, ifs, 0⟩] scope pos) 0 (.ref it) (.ref D) (compEnvC scope (cellsFrom (t3.heap.objs.size + 1) scope.names (cloFrom X.env.cells scope.names [])) t3.heap.objs.size X.env))
    (compEnds (model X.prog X.w) X.A X.xe use Qf (.ref D) (compEnvC scope (cellsFrom (t3.heap.objs.size + 1) scope.names (cloFrom X.env.cells scope.names [])) t3.heap.objs.size X.env)) { t3 with heap := pushCells (t3.heap.push { cls := .type "dict", data := .dict #[] }) scope.names }
  have hL : (compEnvC scope (cellsFrom (t3.heap.objs.size + 1) scope.names (cloFrom X.env.cells scope.names [])) t3.heap.objs.size X.env).locals = t3.heap.objs.size := rfl
  have hF : (compEnvC scope (cellsFrom (t3.heap.objs.size + 1) scope.names (cloFrom X.env.cells scope.names [])) t3.heap.objs.size X.env).frame = X.env.frame := rfl
  generalize compEnvC scope (cellsFrom (t3.heap.objs.size + 1) scope.names (cloFrom X.env.cells scope.names [])) t3.heap.objs.size X.env = ce at I4 g4 t4 e4 hL hF ⊢
  generalize hK3 : upd K2 D (.lst []) = K3 at I3 I4 g4 t4 e4 w0 f3
  generalize ht4 : ({ t3 with heap := pushCells (t3.heap.push { cls := .type "dict", data := .dict #[] }) scope.names } : Shared) = t4' at I4 ⊢
  have st3 : tn 0 t3.heap := T.keep _ _ _ st2 fun b _ o e => grow b o e
  have st4 : tn 0 t4'.heap := T.keep _ _ _ st3 fun b _ o e => by rw [← ht4]; exact pushCells_keeps _ _ _ _ (Heap.get?_push_of_some _ e)
  have I4 : Inv (blkE X t3 K3 scope ce fp fun cls d H' => W cls d σ H') [] (wipe σ (own.map (·.2))) K3 t4' := I4.wish _
  -- the iterator's objects, in the block
  have still : ∀ {σ' : L2.St} {H' : Hp} {y : Shared}, Inv (blkE X t3 K3 scope ce fp fun cls d H' => W cls d σ H') [] σ' H' y → (∀ b ∈ fp, H' b = none) → ∀ b ∈ fp, FpOk (blkE X t3 K3 scope ce fp fun cls d H' => W cls d σ H') [] H' b := fun {σ' H' y} J n b m =>
    ⟨n b m, (J.ok.exf b m).1, J.ok.exfs b m, .inl m, (J.ok.exf b m).2, fun p hp => by cases hp⟩
  -- behind the block
  have home : ∀ {σ' : L2.St} {H' : Hp} {y : Shared} {p : List (Addr × Obj)}, Inv (blkE X t3 K3 scope ce fp fun cls d H' => W cls d σ H') p σ' H' y → Inv X pins σ H' y := fun {σ' H' y p} J =>
    I3.call' (ch := fp) J.os J.base J.hok J.bare fun b m => let z := (f3 b m).1; ⟨z.2.2.2.1, z.2.1, z.2.2.2.2.1, z.2.2.2.2.2⟩
  have hole : ∀ {σ' : L2.St} {H' : Hp} {y : Shared} {p : List (Addr × Obj)}, Inv (blkE X t3 K3 scope ce fp fun cls d H' => W cls d σ H') p σ' H' y → FpOk X pins H' ce.locals := fun {σ' H' y p} J => by
    rw [hL]
    exact I3.fpOk (Nat.le_refl _) (by rw [← hL]; exact J.free)
  obtain ⟨hf0, e0, o0, hst, hf1⟩ := fm
  have frames : X.A.frames = some (e0 :: o0) := by rw [I.ok.frames, hst]
  -- an error of the element
  have fails : ∀ (u : Value) (z : Shared), (blkE X t3 K3 scope ce fp fun cls d H' => W cls d σ H').xe u z → notedBy (model X.prog X.w) X.A ce (fun e z' => compEnds (model X.prog X.w) X.A X.xe use Qf (.ref D) ce (.error e) z') u z := fun u z hx => by
    obtain ⟨a, G, y, p, σ', H', cls, d, L', hL', rfl, J, ng, up, sky, na, os, ag, w⟩ := hx
    have hLL : L' = L := Option.some.inj (hL'.symm.trans (hF.trans hf0))
    subst hLL
    have J' : Inv (blkE X t3 K3 scope ce fp fun cls d H' => W cls d σ H') p σ' H' y := J.wish _
    have I9 := home J'
    have sky' : Sky G (e0 :: o0) a (Zc cls d) L' z.heap := by rw [← hst]; exact sky
    refine sky_note Zc.steady frames hf1 (hF.trans hf0) sky' fun h1 hh up1 => ?_
    -- the block's names go
    have cel : ∃ m, h1.Ns ce.locals m := by
      obtain ⟨m, ⟨ob, es, ep, q1, q2, q3⟩, _⟩ := J'.loc
      obtain ⟨sl, r1⟩ := (up.trans up1) ce.locals ob q1 (fun vs e => by rw [q2] at e; cases e)
      exact ⟨m, _, es, ep, r1, q2, q3⟩
    obtain ⟨m, hn⟩ := cel
    have goes : CompFails (model X.prog X.w) X.A X.xe ce (.ref a) { z with heap := h1 } := by
      refine ⟨m, hn, fun h2 m2 hn2 sb => ?_⟩
      obtain ⟨k1, k2, k3, oe, vs, Tb, oT, ts, he, hz, hd, hv1, hnT, hTe, hT, hdT, hv3⟩ := hh
      have notC : ∀ {b : Addr} {o : Obj} {vs : Array Value}, h1.get? b = some o → o.data = .fields vs → b ≠ ce.locals := fun {b o vs} q1 q2 q3 => by
        obtain ⟨oc, es, ep, r1, r2, _⟩ := hn
        rw [q3, r1] at q1
        cases q1
        rw [r2] at q2; cases q2
      have to2 : ∀ b o, b ≠ ce.locals → h1.get? b = some o → h2.get? b = some o := rep_keep sb
      -- the ground without the block's names
      have g2 : ∀ b o, (PySem.W.hideAll G [ce.locals]).get? b = some o → G.get? b = some o ∧ b ≠ ce.locals := fun b o q => by
        refine ⟨PySem.W.of_hideAll _ q, fun e => ?_⟩
        rw [PySem.W.hideAll_none _ (by rw [e]; exact List.mem_singleton.mpr rfl)] at q
        cases q
      have gnone : ∀ b, G.get? b = none → (PySem.W.hideAll G [ce.locals]).get? b = none := fun b q => by
        cases e : (PySem.W.hideAll G [ce.locals]).get? b with
        | none => rfl
        | some o => rw [(g2 b o e).1] at q; cases q
      have st2' : (PySem.W.hideAll G [ce.locals]).StaysIn h2 := fun b o q => to2 b o (g2 b o q).2 (k1 b o (g2 b o q).1)
      have fr2 : h2.FunFrames (PySem.W.hideAll G [ce.locals]) (e0 :: o0) := funFrames_none (Heap.FunFrames.sameBut sb hn2 k3) fun b mb => gnone b (k3.mem mb).1
      have tr2 : HandSPX.TracedZ h2 (PySem.W.hideAll G [ce.locals]) a (Zc cls d) (rawInt L') := ⟨oe, vs, Tb, oT, ts, to2 a oe (notC he hd) he, hz, hd, hv1, gnone _ hnT, hTe, to2 Tb oT (notC hT hdT) hT, hdT, hv3⟩
      have last : wpAny (model X.prog X.w) X.A (setFlight (.ref a) ce.frame) (fun _ s4 => wpAny (model X.prog X.w) X.A (throw (.ref a) : Sem Value) (fun _ _ => False) X.xe s4) X.xe { z with heap := h2 } := by
        rw [hF, hf0]
        refine HandSPX.setFlight_anyZ st2' fr2 tr2 fun h3 b1 b2 b3 up3 => wpAny_throw (ar _ _ ?_)
        have I10 : Inv X pins σ H' { y with heap := PySem.W.hideAll y.heap [ce.locals] } := by
          obtain ⟨c0, c1, c2, c3, c4, c5⟩ := hole J'
          exact I9.turned (it := ce.locals) (t' := y.toks) (fun b o n q => PySem.W.hideAll_get _ q fun mb => n (List.mem_singleton.mp mb)) c0 c1 c3 c4 c5
        refine ⟨a, PySem.W.hideAll G [ce.locals], _, pins, σ, H', cls, d, L', hf0, rfl, I10, fun b o q nf => ?_, fun b o q nf => ?_, .inr (.inr ⟨b1, gnone _ k2, by rw [hst]; exact b2, b3⟩), na, os, ag, w⟩
        · have q' : y.heap.get? b = some o := PySem.W.of_hideAll _ q
          refine PySem.W.hideAll_get _ (ng b o q' nf) fun mb => ?_
          rw [PySem.W.hideAll_none _ mb] at q; cases q
        · have q' : y.heap.get? b = some o := PySem.W.of_hideAll _ q
          have nb : b ≠ ce.locals := fun e => by
            rw [PySem.W.hideAll_none _ (by rw [e]; exact List.mem_singleton.mpr rfl)] at q
            cases q
          obtain ⟨s1, r1⟩ := (up.trans up1) b o q' nf
          obtain ⟨s2, r2⟩ := up3 b _ (to2 b _ nb r1) nf
          exact ⟨s2, r2⟩
      unfold PySem.passOn
      refine wpAny_bind (wpAny_field (to2 a oe (notC he hd) he) hd hv1 ?_)
      rw [if_neg (show ¬ ((Value.ref Tb == Value.none) = true) from by simp)]
      first
        | exact wpAny_bind (wpAny_pure (wpAny_bind last))
        | exact wpAny_bind last
    cases use <;> exact goes
  have catch_ : ∀ {α : Type} {t : Sem α} {P P' : α → Shared → Prop} {y : Shared}, wpAny (model X.prog X.w) X.A t P (blkE X t3 K3 scope ce fp fun cls d H' => W cls d σ H').xe y → (∀ r z, P r z → P' r z) →
      wpAny (model X.prog X.w) X.A t P' (notedBy (model X.prog X.w) X.A ce fun e z' => compEnds (model X.prog X.w) X.A X.xe use Qf (.ref D) ce (.error e) z') y := fun h q => wpAny_mono h q fails
  have loop : codeAny (model X.prog X.w) X.A (.compLoop (.ListComp elt [⟨tg, iter, ifs, 0⟩] scope pos) 0 (.ref it) (.ref D) ce) (compEnds (model X.prog X.w) X.A X.xe use Qf (.ref D) ce) t4' := by
    refine compLoop_any (fun n y => ∃ i H', Inv (blkE X t3 K3 scope ce fp fun cls d H' => W cls d σ H') [] (wipe σ (own.map (·.2))) H' y ∧ tn i y.heap ∧ (∀ b ∈ fp, H' b = none) ∧ Wi i n H') (fun n y5 hy5 => ?_) m0
      ⟨0, K3, I4, st4, fun b m => (f3 b m).1.1, w0⟩
    obtain ⟨i, K5, J5, s5, n5, w5⟩ := hy5
    rcases turn i n K5 w5 with ⟨stop, fin⟩ | ⟨go, Nx, hNx, step⟩
    · refine wpAny_mono (T.done (blkE X t3 K3 scope ce fp fun cls d H' => W cls d σ H') rfl rfl rfl calm i [] y5 _ K5 _ J5 (still J5 n5) s5 stop) (fun r y6 ⟨hr, J6⟩ => ?_) (fun _ _ q => q)
      subst hr
      obtain ⟨m, hn, _⟩ := J6.loc
      exact back D ce.locals ce y6 m K5 rfl (home J6) fin hn (hole J6)
    · refine wpAny_mono (T.item (blkE X t3 K3 scope ce fp fun cls d H' => W cls d σ H') rfl rfl rfl calm i [] y5 _ K5 _ J5 (still J5 n5) s5 go) (fun r y6 ⟨u, hr, h6⟩ => ?_) (fun _ _ q => q)
      subst hr
      refine wpAny_mono h6 (fun _ y7 ⟨x, K7, J7, r7, yl, s7, n7⟩ => ?_) (fun _ _ q => q)
      have J7' := J7.pinned (still J7 n7) (T.obj _ _ s7)
      refine catch_ (g4.run _ y7 _ K7 x u _ J7' r7 (step x K7 yl)) fun _ y8 ⟨σ8, K8, J8, same, q8⟩ => ?_
      refine catch_ (t4.run _ y8 σ8 K8 _ J8 q8) fun c y9 ⟨K9, J9, q9⟩ => ?_
      have next : ∀ {y : Shared} {K : Hp}, Inv (blkE X t3 K3 scope ce fp fun cls d H' => W cls d σ H') ([] ++ pinsAt fp y7.heap) σ8 K y → Nx K →
          ∃ m, m < n ∧ ∃ i H', Inv (blkE X t3 K3 scope ce fp fun cls d H' => W cls d σ H') [] (wipe σ (own.map (·.2))) H' y ∧ tn i y.heap ∧ (∀ b ∈ fp, H' b = none) ∧ Wi i m H' := fun {y K} J nx => by
        obtain ⟨m, hm, wm⟩ := hNx K nx
        have pinned : ∀ b ∈ fp, ∀ o, y7.heap.get? b = some o → y.heap.get? b = some o ∧ K b = none := fun b mb o e => by
          obtain ⟨z1, z2, _⟩ := J.pin (b, o) (List.mem_append_right _ (List.mem_append_right _ (mem_pinsAt mb e)))
          exact ⟨z1, z2⟩
        have len : (wipe σ (own.map (·.2))).length = σ8.length := by rw [← same, wipe_length]
        refine ⟨m, hm, i + 1, K, (J.unpinned (pins := [])).weak len (fun j v e => (wipe_some (vs := own.map (·.2)) (by rw [same]; exact e)).1), T.keep _ _ _ s7 fun b mb o e => (pinned b mb o e).1, fun b mb => ?_, wm⟩
        obtain ⟨o, e, _⟩ := T.obj _ _ s7 b mb
        exact (pinned b mb o e).2
      cases c with
      | false => exact next J9 q9
      | true =>
        refine catch_ (e4.run _ y9 σ8 K9 _ J9 q9) fun w y10 ⟨yv, K10, J10, r10, acc, hD10, hz10, nx⟩ => ?_
        exact app_ok (X := blkE X t3 K3 scope ce fp fun cls d H' => W cls d σ H') J10 hD10 hz10 r10 fun y11 J11 => next J11 nx
  exact codeAny_compStart_list loop (T.self X.A 0 _ _ _ st4 loop)
/-- .. as a value -/
theorem pe_lcx {W : WX} {L : Addr} {elt tg iter : Expr} {ifs : List Expr} {scope : Scope} {own : List (Str × Nat)} {pos : Pos} {wi : TI} {g : TG} {tt : TT} {te : L2.St → TE} (fm : Frm X L) (ar : Air X W) (calm : X.calm = true) (nd : X.N.Nodup) (pi : PI X tg iter wi) (ok : BlkOk X.N X.env.scope scope own)
    (pg : ∀ (s : Shared) (H : Hp) (C : Addr) (cl : List (Str × Addr)) (fp : List Addr) (E : XK), PG (blkE X s H scope (compEnvC scope cl C X.env) fp E) tg g) (pt : ∀ (s : Shared) (H : Hp) (C : Addr) (cl : List (Str × Addr)) (fp : List Addr) (E : XK), PTs (blkE X s H scope (compEnvC scope cl C X.env) fp E) ifs tt)
    (pe : ∀ (s : Shared) (H : Hp) (C : Addr) (cl : List (Str × Addr)) (fp : List Addr) (σ : L2.St), PE (blkE X s H scope (compEnvC scope cl C X.env) fp fun cls d H' => W cls d σ H') elt (te σ)) (fold : ∀ x, foldedSetIterable iter X.env x = pure x := by intro _; rfl) :
    PE X (.ListComp elt [⟨tg, iter, ifs, 0⟩] scope pos) (fun σ => tLc wi g tt (te σ) (own.map (·.2)) σ) := by
  refine ⟨fun pins s σ H Q I h => ?_⟩
  rw [eval_ListComp]
  refine lcx fm ar calm nd I pi ok (fun s H C cl fp => pg s H C cl fp _) (fun s H C cl fp => pt s H C cl fp _) (fun s H C cl fp => pe s H C cl fp σ) fold h fun D C ce y m H' eC J q hn f => ⟨m, by rw [eC]; exact hn, fun h2 sb => ?_⟩
  rw [eC] at sb
  obtain ⟨f0, f1, f2, f3, f4, f5⟩ := f
  exact ⟨.ref D, H', J.turned (t' := y.toks) (rep_keep sb) f0 f1 f3 f4 f5, rfl, q⟩
/-- name = [..] on one row, the name a local -/
theorem ps_lcx {i : Nat} {y : Str} {py : Pos} {W : WX} {L : Addr} {elt tg iter : Expr} {ifs : List Expr} {scope : Scope} {own : List (Str × Nat)} {pos spos : Pos} {wi : TI} {g : TG} {tt : TT} {te : L2.St → TE} (fm : Frm X L) (ar : Air X W) (calm : X.calm = true) (nd : X.N.Nodup)
    (hy : X.N[i]? = some y) (loc : X.env.scope.names.lookup y = some .local) (sw : swapsWith (.ListComp elt [⟨tg, iter, ifs, 0⟩] scope pos) (some (.Name y py)) spos.line X.env = pure true) (pi : PI X tg iter wi) (ok : BlkOk X.N X.env.scope scope own)
    (pg : ∀ (s : Shared) (H : Hp) (C : Addr) (cl : List (Str × Addr)) (fp : List Addr) (E : XK), PG (blkE X s H scope (compEnvC scope cl C X.env) fp E) tg g) (pt : ∀ (s : Shared) (H : Hp) (C : Addr) (cl : List (Str × Addr)) (fp : List Addr) (E : XK), PTs (blkE X s H scope (compEnvC scope cl C X.env) fp E) ifs tt)
    (pe : ∀ (s : Shared) (H : Hp) (C : Addr) (cl : List (Str × Addr)) (fp : List Addr) (σ : L2.St), PE (blkE X s H scope (compEnvC scope cl C X.env) fp fun cls d H' => W cls d σ H') elt (te σ)) (fold : ∀ x, foldedSetIterable iter X.env x = pure x := by intro _; rfl) :
    PS X (.Assign [.Name y py] (.ListComp elt [⟨tg, iter, ifs, 0⟩] scope pos) spos) (fun En σ H => tAsg (fun σ => tLc wi g tt (te σ) (own.map (·.2)) σ) (gName i) En σ H) := by
  refine ⟨fun pins s σ H En I h => ?_⟩
  rw [exec_Assign_Name_used _ _ _ _ sw]
  refine wpAny_bind (wpAny_standAt (wpAny_bind ?_))
  show wpAny _ X.A (do let _ ← comprehension (.ListComp elt [⟨tg, iter, ifs, 0⟩] scope pos) scope X.env (firstIterPos [⟨tg, iter, ifs, 0⟩] pos) (newList []) false (eval iter X.env) (some (assign (.Name y py) X.env))) _ _ s
  have h : tLc wi g tt (te σ) (own.map (·.2)) σ H (fun x H1 => gName i x σ H1 En.nx) := h
  refine wpAny_bind (thn (lcx (Qf := fun _ z => SP X pins En .next z) (use := some (assign (.Name y py) X.env)) fm ar calm nd I pi ok (fun s H C cl fp => pg s H C cl fp _) (fun s H C cl fp => pt s H C cl fp _) (fun s H C cl fp => pe s H C cl fp σ) fold h
    fun D C ce z m H' eC J q hn f => ?_) fun _ z hq => wpAny_pure (wpAny_pure hq))
  show wpAny _ _ (assign (.Name y py) X.env (.ref D)) _ _ _
  obtain ⟨f0, f1, f2, f3, f4, f5⟩ := f
  refine wpAny_assign_Name (store_ok2 (v := V.ref D) J nd hy (.inl loc) rfl (fun z2 J2 ⟨a, sb, ha⟩ => ?_) (.inr loc))
  have neq : C ≠ a := fun e => by
    rcases ha with q | q
    · exact f1 (e.trans q)
    · exact f4 y a q e.symm
  refine ⟨m, by rw [eC]; exact hn.sameBut sb neq, fun h3 sb3 => ?_⟩
  rw [eC] at sb3
  exact ⟨_, H', J2.turned (t' := z2.toks) (rep_keep sb3) f0 f1 f3 f4 f5, q⟩
end
end V3
end

section
set_option Elab.async false
set_option linter.all false
set_option maxRecDepth 100000
set_option maxHeartbeats 1000000
/-! V3g: sources of items, targets, for, while. -/
namespace V3
open PySem PySem.Spec PyProof.Rows L2

theorem pi_imp {X : Cx} {tg e : Expr} {t t' : TI} (h : PI X tg e t) (i : ∀ σ H R, t' σ H R → t σ H R) : PI X tg e t' := ⟨fun pins s σ H R I z => h.run pins s σ H R I (i σ H R z)⟩
theorem pg_imp {X : Cx} {tg : Expr} {t t' : TG} (h : PG X tg t) (i : ∀ x σ H Q, t' x σ H Q → t x σ H Q) : PG X tg t' := ⟨fun pins s σ H v u Q I r z => h.run pins s σ H v u Q I r (i v σ H Q z)⟩

section
variable {B : Bd} {O : Addr → Prop} {ρ : Ev} {σ : L2.St} {H : Hp}
/-- a slot that is no own list takes what is none -/
theorem Stx.put (S : Stx B O ρ σ H) {i : Nat} {s : Sl} {o : Option V} (hn : ∀ ds, ρ[i]? ≠ some (Sl.ow ds)) (hs : ∀ ds, s ≠ Sl.ow ds) (r : SlOk B.K O H s o) : Stx B O (ρ.set i s) (σ.set i o) H := by
  have back : ∀ j p, OwnAt (ρ.set i s) (σ.set i o) j p → OwnAt ρ σ j p := fun j p ⟨⟨ds, e1⟩, e2⟩ => by
    rcases getSet e1 with ⟨_, h, _⟩ | ⟨hne, h⟩
    · exact absurd h.symm (hs ds)
    · rw [List.getElem?_set_ne hne] at e2
      exact ⟨⟨ds, h⟩, e2⟩
  have fwd : ∀ j p, OwnAt ρ σ j p → OwnAt (ρ.set i s) (σ.set i o) j p := fun j p ⟨⟨ds, e1⟩, e2⟩ => by
    have hne : i ≠ j := fun e => by subst e; exact hn ds e1
    exact ⟨⟨ds, by rw [List.getElem?_set_ne hne]; exact e1⟩, by rw [List.getElem?_set_ne hne]; exact e2⟩
  refine ⟨by rw [List.length_set, List.length_set]; exact S.len, fun j t e => ?_, fun j k p a b => S.inj j k p (back j p a) (back k p b), S.trk, S.keep, fun p ⟨j, h⟩ => S.own p ⟨j, back j p h⟩, S.sup, fun j p h => fwd j p (S.lent j p h), S.lentN, S.o0⟩
  rcases getSet e with ⟨rfl, rfl, hl⟩ | ⟨hne, h⟩
  · exact ⟨_, List.getElem?_set_self (by rw [← S.len]; exact hl), r⟩
  · rw [List.getElem?_set_ne hne]
    exact S.ok j t h
end

/-! ### targets -/
/-- only the slots of vs are stored -/
def Agr (vs : List Nat) (σ σ2 : L2.St) : Prop := σ2.length = σ.length ∧ ∀ j, j ∉ vs → σ2[j]? = σ[j]?
theorem Agr.refl {vs : List Nat} {σ : L2.St} : Agr vs σ σ := ⟨rfl, fun _ _ => rfl⟩
theorem Agr.trans {vs : List Nat} {σ σ1 σ2 : L2.St} (a : Agr vs σ σ1) (b : Agr vs σ1 σ2) : Agr vs σ σ2 := ⟨b.1.trans a.1, fun j h => (b.2 j h).trans (a.2 j h)⟩
theorem Agr.set {vs : List Nat} {σ : L2.St} {i : Nat} {o : Option V} (h : i ∈ vs) : Agr vs σ (σ.set i o) := ⟨List.length_set, fun j hj => List.getElem?_set_ne (fun e => by subst e; exact hj h)⟩
def OutT (B : Bd) (O : Addr → Prop) (vs : List Nat) (ρ : Ev) (σ : L2.St) (H : Hp) (r : Rs Unit) (Q : L2.St → Hp → Prop) : Prop :=
  match r with
  | .ok _ ρ' => ∀ σ' H', Stx B O ρ' σ' H' → Ext H H' → Shp ρ ρ' → Agr vs σ σ' → Q σ' H'
  | _ => False
def tGt (B : Bd) (vs : List Nat) (s : D → Cm Unit) : TG := fun x σ H Q => ∃ ρ O d, Stx B O ρ σ H ∧ Rep B.K O H d x ∧ OutT B O vs ρ σ H (s d ρ) Q
theorem shp_set {ρ : Ev} {i : Nat} {s : Sl} (hn : ∀ ds, ρ[i]? ≠ some (Sl.ow ds)) (hs : ∀ ds, s ≠ Sl.ow ds) : Shp ρ (ρ.set i s) := by
  refine ⟨List.length_set, fun j => ⟨fun ⟨ds, e⟩ => ?_, fun ⟨ds, e⟩ => ?_⟩⟩
  · have hne : i ≠ j := fun z => by subst z; exact hn ds e
    exact ⟨ds, by rw [List.getElem?_set_ne hne]; exact e⟩
  · rcases getSet e with ⟨_, h, _⟩ | ⟨hne, h⟩
    · exact absurd h.symm (hs ds)
    · exact ⟨ds, h⟩
section
variable {X : Cx} {B : Bd} {pos : Pos}
theorem gv_name {i : Nat} {x : Str} (hN : X.N.Nodup) (hi : X.N[i]? = some x) (hx : Loc X.env.scope x) (hf : X.fn x = true ∨ X.env.scope.names.lookup x = some .local := by first | exact .inl rfl | exact .inr rfl | assumption) : PG X (.Name x pos) (tGt B [i] (setI i)) :=
  pg_imp (pg_name hN hi hx hf) fun x σ H Q ⟨ρ, O, d, S, r, h⟩ => by
    unfold setI at h
    cases e : ρ[i]? with
    | none => rw [e] at h; exact h.elim
    | some s =>
      have hl : i < ρ.length := (List.getElem?_eq_some_iff.mp e).1
      rw [e] at h
      cases s with
      | un => exact h _ H (S.setI hl (fun ds z => by rw [e] at z; cases z) r) (fun _ _ z => z) (shp_set (fun ds z => by rw [e] at z; cases z) fun ds z => by cases z) (Agr.set (by simp))
      | im _ => exact h _ H (S.setI hl (fun ds z => by rw [e] at z; cases z) r) (fun _ _ z => z) (shp_set (fun ds z => by rw [e] at z; cases z) fun ds z => by cases z) (Agr.set (by simp))
      | ow _ => exact h.elim
theorem tGt_up {B : Bd} {vs vs' : List Nat} {s : D → Cm Unit} (hv : ∀ v ∈ vs, v ∈ vs') {x : V} {σ : L2.St} {H : Hp} {Q : L2.St → Hp → Prop} (h : tGt B vs' s x σ H Q) : tGt B vs s x σ H Q := by
  obtain ⟨ρ, O, d, S, r, h⟩ := h
  refine ⟨ρ, O, d, S, r, ?_⟩
  cases e : s d ρ with
  | ok u ρ' =>
    rw [e] at h
    exact fun σ' H' a b c f => h σ' H' a b c ⟨f.1, fun j hj => f.2 j fun z => hj (hv j z)⟩
  | exc n ρ' => rw [e] at h; exact h
  | bad => rw [e] at h; exact h
end

/-! ### sources -/
/-- J walks the items ds from H' on -/
def WD (K : PySem.W.Frag) (O : Addr → Prop) (H' : Hp) (J : It) (ds : List D) : Prop :=
  ∃ G Y, Walk J ds.length G Y ∧ (∀ H1, Chg O H' H1 → G H1) ∧
    ∀ O' i H1 x H2, (∀ a, O a → O' a) → (∀ a, O' a → O a ∨ H' a = none) → Chg O H' H1 → (∀ a, O' a → ∃ vs, H1 a = some (.lst vs)) → i < ds.length → Y i H1 x H2 → Ext H1 H2 ∧ ∃ d, ds[i]? = some d ∧ Rep K O' H2 d x
def tI (B : Bd) (f : Cm (List D)) : TI := fun σ H R => ∃ ρ O, Stx B O ρ σ H ∧ Out B O ρ σ H (f ρ) fun ds ρ' H' => ∀ J, WD B.K O H' J ds → R J H'
def lstS (f : Cm D) : Cm (List D) := bnd f fun d => lift (match d with | .lst ds => some ds | .fz ds => some ds | _ => none)
def tupS (f : Cm D) : Cm (List D) := bnd f fun d => lift (match d with | .tup ds => some ds | _ => none)
def chrs (z : Str) : List D := z.cps.toList.map fun c => .str ⟨#[c]⟩
def strS (f : Cm D) : Cm (List D) := bnd f fun d => lift (match d with | .str z => some (chrs z) | _ => none)
def intsD (lo : Int) (n : Nat) : List D := (List.range n).map fun i : Nat => .int (lo + (i : Int))
open Classical in
noncomputable def rng1D : List D → Option (List D)
  | [.int j] => if -(2 ^ 62) ≤ j ∧ j < 2 ^ 62 then some (intsD 0 j.toNat) else none
  | _ => none
open Classical in
noncomputable def rng2D : List D → Option (List D)
  | [.int i, .int j] => if -(2 ^ 62) ≤ i ∧ i < 2 ^ 62 ∧ -(2 ^ 62) ≤ j ∧ j < 2 ^ 62 then some (intsD i (j - i).toNat) else none
  | _ => none
noncomputable def rng1S (f : Cm (List D)) : Cm (List D) := bnd f fun ds => lift (rng1D ds)
noncomputable def rng2S (f : Cm (List D)) : Cm (List D) := bnd f fun ds => lift (rng2D ds)
section
variable {K : PySem.W.Frag} {O : Addr → Prop} {H' : Hp}
theorem wd_list {a : Addr} {ds : List D} {xs : List V} (h : LAt O H' a xs) (r : RepA K O H' ds xs) : WD K O H' (Itl K a) ds := by
  refine ⟨_, _, by rw [r.length]; exact walk_list, fun H1 c => (h.mono (L := O) c fun _ z => z).sq, fun O' i H1 x H2 s n c t hi y => ?_⟩
  obtain ⟨rfl, e⟩ := y
  obtain ⟨d, h1, h2⟩ := r.getV e
  exact ⟨fun _ _ z => z, d, h1, (h2.avoid n).mono c s⟩
theorem wd_fz {a : Addr} {ds : List D} {xs : List V} (h : FAt K O H' a xs) (r : RepA K O H' ds xs) : WD K O H' (Itl K a) ds := by
  refine ⟨_, _, by rw [r.length]; exact walk_list, fun H1 c => (h.mono (L := O) c fun _ z => z).sq, fun O' i H1 x H2 s n c t hi y => ?_⟩
  obtain ⟨rfl, e⟩ := y
  obtain ⟨d, h1, h2⟩ := r.getV e
  exact ⟨fun _ _ z => z, d, h1, (h2.avoid n).mono c s⟩
theorem wd_tup {a : Addr} {ds : List D} {xs : List V} (h : TAt K O H' a xs) (r : RepA K O H' ds xs) : WD K O H' (Itt K a) ds := by
  refine ⟨_, _, by rw [r.length]; exact walk_tup, fun H1 c => (h.mono (L := O) c fun _ z => z).sq, fun O' i H1 x H2 s n c t hi y => ?_⟩
  obtain ⟨rfl, e⟩ := y
  obtain ⟨d, h1, h2⟩ := r.getV e
  exact ⟨fun _ _ z => z, d, h1, (h2.avoid n).mono c s⟩
theorem wd_str {z : Str} : WD K O H' (Its z) (chrs z) := by
  refine ⟨_, _, by unfold chrs; rw [List.length_map, Array.length_toList]; exact walk_str, fun H1 c => trivial, fun O' i H1 x H2 s n c t hi y => ?_⟩
  obtain ⟨rfl, c, e, rfl⟩ := y
  exact ⟨fun _ _ z => z, .str ⟨#[c]⟩, by unfold chrs; rw [List.getElem?_map, Array.getElem?_toList, e]; rfl, .str _⟩
theorem wd_ints {lo : Int} {n : Nat} : WD K O H' (Itr lo n) (intsD lo n) := by
  refine ⟨_, _, by unfold intsD; rw [List.length_map, List.length_range]; exact walk_range, fun H1 c => trivial, fun O' i H1 x H2 s n' c t hi y => ?_⟩
  obtain ⟨rfl, rfl⟩ := y
  unfold intsD at hi
  rw [List.length_map, List.length_range] at hi
  exact ⟨fun _ _ z => z, .int (lo + i), by unfold intsD; rw [List.getElem?_map, List.getElem?_range hi]; rfl, .int _⟩
end
section
variable {X : Cx} {B : Bd} {tg e : Expr} {pos p : Pos} {f : Cm D} {F : Cm (List D)}
theorem iv_list (hK : B.K = X.K) (h : PE X e (tV B f)) : PI X tg e (tI B (lstS f)) :=
  pi_imp (pi_list h) fun σ H R ⟨ρ, O, S, h⟩ => ⟨ρ, O, S, h.bind.imp fun d ρ1 H1 P1 h v hv => by
    obtain ⟨z, hz, h⟩ := h.lift
    have k := h H1 (Ps.refl P1.st)
    cases hv <;> first | cases hz; done | skip
    · rename_i h1 r
      cases hz
      exact ⟨_, rfl, ⟨_, h1.sq⟩, by rw [← hK]; exact k _ (wd_list h1 r)⟩
    · rename_i h1 r
      cases hz
      exact ⟨_, rfl, ⟨_, by rw [← hK]; exact h1.sq⟩, by rw [← hK]; exact k _ (wd_fz h1 r)⟩⟩
theorem iv_tup (hK : B.K = X.K) (h : PE X e (tV B f)) : PI X tg e (tI B (tupS f)) :=
  pi_imp (pi_tup h) fun σ H R ⟨ρ, O, S, h⟩ => ⟨ρ, O, S, h.bind.imp fun d ρ1 H1 P1 h v hv => by
    obtain ⟨z, hz, h⟩ := h.lift
    have k := h H1 (Ps.refl P1.st)
    cases hv <;> first | cases hz; done | skip
    rename_i h1 r
    cases hz
    exact ⟨_, rfl, ⟨_, by rw [← hK]; exact h1.sq⟩, by rw [← hK]; exact k _ (wd_tup h1 r)⟩⟩
theorem iv_str (h : PE X e (tV B f)) : PI X tg e (tI B (strS f)) :=
  pi_imp (pi_str h) fun σ H R ⟨ρ, O, S, h⟩ => ⟨ρ, O, S, h.bind.imp fun d ρ1 H1 P1 h v hv => by
    obtain ⟨z, hz, h⟩ := h.lift
    have k := h H1 (Ps.refl P1.st)
    cases hv <;> first | cases hz; done | skip
    cases hz
    exact ⟨_, rfl, k _ wd_str⟩⟩
theorem iv_rng1 {a : Expr} (hg : Gl X "range") (hm : X.mg "range" = none) (ha : PA X [a] (tA B F)) (hs : starEach [a] X.env = [(false, eval a X.env)] := by rfl) : PI X tg (.Call (.Name "range" p) [a] [] pos) (tI B (rng1S F)) :=
  pi_imp (pi_range1 hg hm ha hs) fun σ H R ⟨ρ, O, S, h⟩ => ⟨ρ, O, S, h.bind.imp fun ds ρ1 H1 P1 h v hv => by
    obtain ⟨z, hz, h⟩ := h.lift
    unfold rng1D at hz
    split at hz
    · rename_i j
      split at hz
      · rename_i hj
        cases hz
        cases hv with | cons h1 hv => cases hv; cases h1; exact ⟨j, rfl, hj.1, hj.2, h H1 (Ps.refl P1.st) _ wd_ints⟩
      · cases hz
    · cases hz⟩
theorem iv_rng2 {a b : Expr} (hg : Gl X "range") (hm : X.mg "range" = none) (ha : PA X [a, b] (tA B F)) (hs : starEach [a, b] X.env = [(false, eval a X.env), (false, eval b X.env)] := by rfl) (hs2 : starEach [b] X.env = [(false, eval b X.env)] := by rfl) : PI X tg (.Call (.Name "range" p) [a, b] [] pos) (tI B (rng2S F)) :=
  pi_imp (pi_range2 hg hm ha hs hs2) fun σ H R ⟨ρ, O, S, h⟩ => ⟨ρ, O, S, h.bind.imp fun ds ρ1 H1 P1 h v hv => by
    obtain ⟨z, hz, h⟩ := h.lift
    unfold rng2D at hz
    split at hz
    · rename_i i j
      split at hz
      · rename_i hj
        cases hz
        cases hv with | cons h1 hv => cases hv with | cons h2 hv => cases hv; cases h1; cases h2; exact ⟨i, j, rfl, hj, h H1 (Ps.refl P1.st) _ wd_ints⟩
      · cases hz
    · cases hz⟩
end

/-! ### for -/
def aft {α : Type} (f : Cm Unit) (g : Cm α) : Cm α := fun ρ => match f ρ with
  | .ok _ ρ' => g ρ'
  | _ => .bad
def forL (s : D → Cm Unit) (b : Cm Fl) : List D → Cm Fl
  | [] => skipS
  | d :: ds => aft (s d) <| bnd b fun f => match f with
    | .nx => forL s b ds
    | .ct => forL s b ds
    | .bk => skipS
    | .rt d => ret (.rt d)
def forS (src : Cm (List D)) (s : D → Cm Unit) (b : Cm Fl) : Cm Fl := bnd src fun ds => forL s b ds
section
variable {X : Cx} {B : Bd} {tg iter : Expr} {body : List Stmt} {pos : Pos} {src : Cm (List D)} {s : D → Cm Unit} {b : Cm Fl}
theorem sv_for (hp : PassesOwn (model X.prog X.w) X.A X.env X.xe) (hc : X.calm = true) (hi : PI X tg iter (tI B src)) {ts : List Nat} (hg : PG X tg (tGt B ts s)) (hb : PSs X body (tS B b)) (hs : ∀ x, foldedSetIterable iter X.env x = pure x := by intro _; rfl) : PS X (.For tg iter body [] pos) (tS B (forS src s b)) :=
  ps_imp (ps_for hp hc hi hg hb hs) fun En σ H ⟨ρ, O, S, h⟩ => ⟨ρ, O, S, (OutS.bindE S h).imp fun ds ρ1 H1 P1 h J ⟨G, Y, w, hG, hY⟩ => by
    refine for_it w (fun i σ' H' => ∃ ρ' O', Pst B O H1 O' ρ' σ' H' ∧ OutS B O' H' (forL s b (ds.drop i) ρ') En) ⟨ρ1, O, Pst.refl P1.st, h⟩ (fun i σ' H' _ ⟨ρ', O', P, _⟩ => hG H' P.chg) (fun i x σ' H' H2 hi ⟨ρ', O', P, h⟩ y => ?_) (fun σ' H' ⟨ρ', O', P, h⟩ => ?_)
    · obtain ⟨ex, d, hd, r⟩ := hY O' i H' x H2 P.sub P.new P.chg P.st.trk hi y
      have e : ds.drop i = d :: ds.drop (i + 1) := by
        rw [List.drop_eq_getElem_cons hi]
        congr 1
        rw [List.getElem?_eq_getElem hi] at hd
        exact Option.some.inj hd
      rw [e] at h
      have S2 := P.st.ext ex
      have P2 : Pst B O' H' O' ρ' σ' H2 := Pst.of P.st (Ps.ext P.st ex)
      refine ⟨ρ', O', d, S2, r, ?_⟩
      have h2 := h.from P2
      have fix : forL s b (d :: ds.drop (i + 1)) = aft (s d) (bnd b fun f => match f with
        | .nx => forL s b (ds.drop (i + 1))
        | .ct => forL s b (ds.drop (i + 1))
        | .bk => skipS
        | .rt d => ret (.rt d)) := rfl
      rw [fix] at h2
      unfold aft bnd at h2
      cases q : s d ρ' with
      | bad => rw [q] at h2; exact h2.elim
      | exc n ρ3 => rw [q] at h2; exact h2.elim
      | ok u ρ3 =>
        rw [q] at h2
        intro σ3 H3 S3 x3 _ _
        have P3 : Pst B O' H2 O' ρ3 σ3 H3 := ⟨S3, fun _ z => z, fun _ z => .inl z, Chg.of x3⟩
        refine ⟨ρ3, O', P3.st, ?_⟩
        have h3 := OutS.from h2 P3
        have Pall := (P.trans P2).trans P3
        dsimp only at h3
        cases q2 : b ρ3 with
        | bad => rw [q2] at h3; exact h3.elim
        | exc n ρ4 => rw [q2] at h3; exact h3
        | ok f ρ4 =>
          rw [q2] at h3
          cases f with
          | nx => exact fun σ4 H4 O4 P4 => ⟨ρ4, O4, Pall.trans P4, OutS.from h3 P4⟩
          | ct => exact fun σ4 H4 O4 P4 => ⟨ρ4, O4, Pall.trans P4, OutS.from h3 P4⟩
          | bk => exact h3
          | rt d => exact h3
    · rw [List.drop_length] at h
      exact h σ' H' O' (Pst.refl P.st)⟩
end

/-! ### while -/
def whN (c : Cm Bool) (b : Cm Fl) : Nat → Cm Fl
  | 0 => fun _ => .bad
  | n + 1 => bnd c fun k => if k = true then bnd b fun f => match f with
    | .nx => whN c b n
    | .ct => whN c b n
    | .bk => skipS
    | .rt d => ret (.rt d) else skipS
open Classical in
noncomputable def whl (c : Cm Bool) (b : Cm Fl) : Cm Fl := fun ρ => if h : ∃ n, whN c b n ρ ≠ .bad then whN c b (choose h) ρ else .bad
section
variable {c : Cm Bool} {b : Cm Fl}
theorem whN_up : ∀ (n : Nat) (ρ : Ev), whN c b n ρ ≠ .bad → whN c b (n + 1) ρ = whN c b n ρ
  | 0, ρ, h => absurd rfl h
  | n + 1, ρ, h => by
    have ih := whN_up n
    have e1 : whN c b (n + 1) = bnd c fun k => if k = true then bnd b fun f => match f with | .nx => whN c b n | .ct => whN c b n | .bk => skipS | .rt d => ret (.rt d) else skipS := rfl
    have e2 : whN c b (n + 1 + 1) = bnd c fun k => if k = true then bnd b fun f => match f with | .nx => whN c b (n + 1) | .ct => whN c b (n + 1) | .bk => skipS | .rt d => ret (.rt d) else skipS := rfl
    rw [e1] at h
    rw [e2, e1]
    unfold bnd at h ⊢
    cases hc : c ρ with
    | bad => rfl
    | exc m ρ1 => rfl
    | ok k ρ1 =>
      rw [hc] at h
      cases k with
      | false => rfl
      | true =>
        simp only [if_true] at h ⊢
        cases hb : b ρ1 with
        | bad => rfl
        | exc m ρ2 => rfl
        | ok f ρ2 =>
          rw [hb] at h
          cases f with
          | nx => exact ih ρ2 h
          | ct => exact ih ρ2 h
          | bk => rfl
          | rt d => rfl
theorem whN_add (n : Nat) (ρ : Ev) (h : whN c b n ρ ≠ .bad) : ∀ k, whN c b (n + k) ρ = whN c b n ρ
  | 0 => rfl
  | k + 1 => by
    have q := whN_add n ρ h k
    rw [← Nat.add_assoc, whN_up (n + k) ρ (by rw [q]; exact h), q]
theorem whl_of {n : Nat} {ρ : Ev} (h : whN c b n ρ ≠ .bad) : whl c b ρ = whN c b n ρ := by
  unfold whl
  have hx : ∃ n, whN c b n ρ ≠ .bad := ⟨n, h⟩
  rw [dif_pos hx]
  have q := Classical.choose_spec hx
  have e1 := whN_add n ρ h (Classical.choose hx)
  have e2 := whN_add (Classical.choose hx) ρ q n
  rw [Nat.add_comm] at e2
  exact e2.symm.trans e1
theorem whl_ex {ρ : Ev} (h : whl c b ρ ≠ .bad) : ∃ n, whN c b n ρ ≠ .bad ∧ whl c b ρ = whN c b n ρ := by
  unfold whl at h ⊢
  split at h
  · rename_i hx
    rw [dif_pos hx]
    exact ⟨_, Classical.choose_spec hx, rfl⟩
  · exact absurd rfl h
/-- one turn told -/
theorem whl_eq : whl c b = bnd c fun k => if k = true then bnd b fun f => match f with | .nx => whl c b | .ct => whl c b | .bk => skipS | .rt d => ret (.rt d) else skipS := by
  funext ρ
  have up : ∀ n, whN c b (n + 1) = bnd c fun k => if k = true then bnd b fun f => match f with | .nx => whN c b n | .ct => whN c b n | .bk => skipS | .rt d => ret (.rt d) else skipS := fun _ => rfl
  have step : ∀ n, whN c b (n + 1) ρ ≠ .bad → whN c b (n + 1) ρ = (bnd c fun k => if k = true then bnd b fun f => match f with | .nx => whl c b | .ct => whl c b | .bk => skipS | .rt d => ret (.rt d) else skipS) ρ := by
    intro n h
    rw [up] at h ⊢
    unfold bnd at h ⊢
    cases hc : c ρ with
    | bad => rfl
    | exc m ρ1 => rfl
    | ok k ρ1 =>
      rw [hc] at h
      cases k with
      | false => rfl
      | true =>
        simp only [if_true] at h ⊢
        cases hb : b ρ1 with
        | bad => rfl
        | exc m ρ2 => rfl
        | ok f ρ2 =>
          rw [hb] at h
          cases f with
          | nx => exact (whl_of h).symm
          | ct => exact (whl_of h).symm
          | bk => rfl
          | rt d => rfl
  by_cases h : whl c b ρ = .bad
  · rw [h]
    by_cases z : (bnd c fun k => if k = true then bnd b fun f => match f with | .nx => whl c b | .ct => whl c b | .bk => skipS | .rt d => ret (.rt d) else skipS) ρ = .bad
    · exact z.symm
    · exfalso
      have : ∃ n, whN c b (n + 1) ρ ≠ .bad := by
        unfold bnd at z
        cases hc : c ρ with
        | bad => rw [hc] at z; exact absurd rfl z
        | exc m ρ1 => exact ⟨0, by rw [up]; unfold bnd; rw [hc]; intro q; cases q⟩
        | ok k ρ1 =>
          rw [hc] at z
          cases k with
          | false => exact ⟨0, by rw [up]; unfold bnd; rw [hc]; intro q; cases q⟩
          | true =>
            simp only [if_true] at z
            cases hb : b ρ1 with
            | bad => rw [hb] at z; exact absurd rfl z
            | exc m ρ2 => exact ⟨0, by rw [up]; unfold bnd; rw [hc]; simp only [if_true]; rw [hb]; intro q; cases q⟩
            | ok f ρ2 =>
              rw [hb] at z
              cases f with
              | nx =>
                obtain ⟨n, h1, h2⟩ := whl_ex z
                exact ⟨n, by rw [up]; unfold bnd; rw [hc]; simp only [if_true]; rw [hb]; exact h1⟩
              | ct =>
                obtain ⟨n, h1, h2⟩ := whl_ex z
                exact ⟨n, by rw [up]; unfold bnd; rw [hc]; simp only [if_true]; rw [hb]; exact h1⟩
              | bk => exact ⟨0, by rw [up]; unfold bnd; rw [hc]; simp only [if_true]; rw [hb]; intro q; cases q⟩
              | rt d => exact ⟨0, by rw [up]; unfold bnd; rw [hc]; simp only [if_true]; rw [hb]; intro q; cases q⟩
      obtain ⟨n, hn⟩ := this
      exact hn (by rw [← whl_of hn]; exact h)
  · obtain ⟨n, h1, h2⟩ := whl_ex h
    cases n with
    | zero => exact absurd rfl h1
    | succ n => rw [h2]; exact step n h1
end
section
variable {X : Cx} {B : Bd} {c : Expr} {body : List Stmt} {pos : Pos} {fc : Cm Bool} {b : Cm Fl}
theorem sv_while (hp : PassesOwn (model X.prog X.w) X.A X.env X.xe) (hc : PT X c (tT B fc)) (hb : PSs X body (tS B b)) : PS X (.While c body [] pos) (tS B (whl fc b)) :=
  ps_imp (ps_while hp hc hb) fun En σ H ⟨ρ, O, S, h⟩ => by
    have hne : whl fc b ρ ≠ .bad := fun e => by rw [e] at h; exact h
    obtain ⟨n, h1, h2⟩ := whl_ex hne
    rw [h2] at h
    refine ⟨fun m σ' H' => ∃ ρ' O', Stx B O' ρ' σ' H' ∧ OutS B O' H' (whN fc b m ρ') En, ⟨n, ρ, O, S, h⟩, fun m σ' H' ⟨ρ', O', S', h⟩ => ?_⟩
    cases m with
    | zero => exact h.elim
    | succ m =>
      have e : whN fc b (m + 1) = bnd fc fun k => if k = true then bnd b fun f => match f with | .nx => whN fc b m | .ct => whN fc b m | .bk => skipS | .rt d => ret (.rt d) else skipS := rfl
      rw [e] at h
      refine ⟨ρ', O', S', (OutS.bindE S' h).imp fun k ρ1 H1 P1 h => ?_⟩
      cases k with
      | false => exact h σ' H1 O' (Pst.refl P1.st)
      | true =>
        simp only [if_true] at h ⊢
        refine ⟨fun σ2 H2 => ∃ ρ2 O2, Stx B O2 ρ2 σ2 H2 ∧ OutS B O2 H2 (whN fc b m ρ2) En, fun σ2 H2 q => ⟨m, Nat.lt_succ_self m, q⟩, ρ1, O', P1.st, ?_⟩
        unfold bnd at h
        cases q : b ρ1 with
        | bad => rw [q] at h; exact h
        | exc n ρ2 => rw [q] at h; exact h
        | ok f ρ2 =>
          rw [q] at h
          cases f with
          | nx => exact fun σ2 H2 O2 P2 => ⟨ρ2, O2, P2.st, OutS.from h P2⟩
          | ct => exact fun σ2 H2 O2 P2 => ⟨ρ2, O2, P2.st, OutS.from h P2⟩
          | bk => exact h
          | rt d => exact h
end
end V3
end

section
set_option Elab.async false
set_option linter.all false
set_option maxRecDepth 100000
set_option maxHeartbeats 1000000
/-! V3h: new lists; comprehensions. -/
namespace V3
open PySem PySem.Spec PyProof.Rows L2

def Bd.at (B : Bd) (W : WX) : Bd := { B with W := W }
section
variable {B : Bd} {O O' : Addr → Prop} {ρ ρ1 ρ2 : Ev} {σ τ : L2.St} {H H' : Hp} {W : WX}
theorem Stx.at (S : Stx B O ρ σ H) : Stx (B.at W) O ρ σ H := ⟨S.len, S.ok, S.inj, S.trk, S.keep, S.own, S.sup, S.lent, S.lentN, S.o0⟩
theorem Stx.un (S : Stx (B.at W) O ρ σ H) : Stx B O ρ σ H := ⟨S.len, S.ok, S.inj, S.trk, S.keep, S.own, S.sup, S.lent, S.lentN, S.o0⟩
/-- slots that tell nothing may hold anything -/
theorem Stx.agr (S : Stx B O ρ τ H) (hl : σ.length = τ.length) (h : ∀ j : Nat, σ[j]? = τ[j]? ∨ ρ[j]? = some Sl.un) : Stx B O ρ σ H := by
  have same : ∀ {j : Nat} {ds : List D}, ρ[j]? = some (Sl.ow ds) → σ[j]? = τ[j]? := fun {j ds} e => (h j).elim id fun z => by rw [e] at z; cases z
  have fwd : ∀ j p, OwnAt ρ τ j p → OwnAt ρ σ j p := fun j p ⟨⟨ds, e⟩, e2⟩ => ⟨⟨ds, e⟩, (same e).trans e2⟩
  have back : ∀ j p, OwnAt ρ σ j p → OwnAt ρ τ j p := fun j p ⟨⟨ds, e⟩, e2⟩ => ⟨⟨ds, e⟩, (same e).symm.trans e2⟩
  refine ⟨S.len.trans hl.symm, fun i s e => ?_, fun i j p a b => S.inj i j p (back i p a) (back j p b), S.trk, S.keep, fun p ⟨i, a⟩ => S.own p ⟨i, back i p a⟩, S.sup, fun i p a => fwd i p (S.lent i p a), S.lentN, S.o0⟩
  rcases h i with z | z
  · rw [z]; exact S.ok i s e
  · rw [z] at e; cases e
    have : i < σ.length := by rw [hl, ← S.len]; exact (List.getElem?_eq_some_iff.mp z).1
    exact ⟨_, List.getElem?_eq_getElem this, trivial⟩
theorem Stx.unR (S : Stx B O ρ σ H) {v : Nat} (hn : ∀ ds, ρ[v]? ≠ some (Sl.ow ds)) : Stx B O (ρ.set v .un) σ H := by
  refine (S.put (i := v) (s := .un) (o := none) hn (fun ds z => by cases z) trivial).agr List.length_set.symm fun j => ?_
  by_cases e : v = j
  · subst e
    by_cases hl : v < ρ.length
    · exact .inr (List.getElem?_set_self hl)
    · refine .inl ?_
      rw [List.getElem?_eq_none (by rw [← S.len]; omega), List.getElem?_eq_none (by rw [List.length_set, ← S.len]; omega)]
  · exact .inl (List.getElem?_set_ne e).symm
end

/-! ### slots forgotten -/
def wipeE : List Nat → Ev → Ev
  | [], ρ => ρ
  | v :: vs, ρ => (wipeE vs ρ).set v .un
def NoOw (vs : List Nat) (ρ : Ev) : Prop := ∀ v ∈ vs, ∀ ds, ρ[v]? ≠ some (Sl.ow ds)
def noOw (vs : List Nat) (ρ : Ev) : Bool := vs.all fun v => match ρ[v]? with
  | some (.ow _) => false
  | _ => true
theorem noOw_of {vs : List Nat} {ρ : Ev} (h : noOw vs ρ = true) : NoOw vs ρ := fun v hv ds e => by
  have := List.all_eq_true.mp h v hv
  rw [e] at this
  cases this
theorem NoOw.shp {vs : List Nat} {ρ ρ' : Ev} (h : NoOw vs ρ) (s : Shp ρ ρ') : NoOw vs ρ' := fun v hv ds e => by
  obtain ⟨es, z⟩ := (s.2 v).mpr ⟨ds, e⟩
  exact h v hv es z
theorem wipeE_shp {ρ : Ev} : ∀ {vs : List Nat}, NoOw vs ρ → Shp ρ (wipeE vs ρ)
  | [], _ => Shp.refl
  | v :: vs, h => by
    have s := wipeE_shp (vs := vs) fun v hv => h v (List.mem_cons_of_mem _ hv)
    refine s.trans (shp_set (fun ds e => ?_) fun ds z => by cases z)
    exact (NoOw.shp h s) v (List.mem_cons_self ..) ds e
theorem wipeE_in {ρ : Ev} {j : Nat} : ∀ {vs : List Nat}, j ∈ vs → j < ρ.length → NoOw vs ρ → (wipeE vs ρ)[j]? = some .un
  | v :: vs, h, hl, hn => by
    have s := wipeE_shp (ρ := ρ) (vs := vs) fun v hv => hn v (List.mem_cons_of_mem _ hv)
    show ((wipeE vs ρ).set v .un)[j]? = _
    by_cases e : v = j
    · subst e
      exact List.getElem?_set_self (by rw [s.1]; exact hl)
    · rw [List.getElem?_set_ne e]
      exact wipeE_in ((List.mem_cons.mp h).elim (fun z => absurd z.symm e) id) hl fun v hv => hn v (List.mem_cons_of_mem _ hv)
theorem wipe_out {σ : L2.St} {j : Nat} : ∀ {vs : List Nat}, j ∉ vs → (wipe σ vs)[j]? = σ[j]?
  | [], _ => rfl
  | v :: vs, h => by
    show ((wipe σ vs).set v none)[j]? = _
    rw [List.getElem?_set_ne (fun e => h (by rw [e]; exact List.mem_cons_self ..))]
    exact wipe_out fun z => h (List.mem_cons_of_mem _ z)
theorem wipe_in {σ : L2.St} {j : Nat} : ∀ {vs : List Nat}, j ∈ vs → j < σ.length → (wipe σ vs)[j]? = some none
  | v :: vs, h, hl => by
    show ((wipe σ vs).set v none)[j]? = _
    by_cases e : v = j
    · subst e
      exact List.getElem?_set_self (by rw [wipe_length]; exact hl)
    · rw [List.getElem?_set_ne e]
      exact wipe_in ((List.mem_cons.mp h).elim (fun z => absurd z.symm e) id) hl
theorem wipe_agr {σ τ : L2.St} {vs : List Nat} (h : Agr vs σ τ) : wipe τ vs = wipe σ vs := by
  apply List.ext_getElem?
  intro j
  by_cases hj : j ∈ vs
  · by_cases hl : j < σ.length
    · rw [wipe_in hj (by rw [h.1]; exact hl), wipe_in hj hl]
    · rw [List.getElem?_eq_none (by rw [wipe_length, h.1]; omega), List.getElem?_eq_none (by rw [wipe_length]; omega)]
  · rw [wipe_out hj, wipe_out hj, h.2 j hj]
theorem agr_wipe {σ : L2.St} {vs : List Nat} : Agr vs σ (wipe σ vs) := ⟨wipe_length σ vs, fun _ h => wipe_out h⟩
section
variable {B : Bd} {O O' : Addr → Prop} {ρ ρ1 ρ2 : Ev} {σ τ : L2.St} {H H' : Hp}
theorem Stx.wipeR (S : Stx B O ρ σ H) : ∀ {vs : List Nat}, NoOw vs ρ → Stx B O (wipeE vs ρ) σ H
  | [], _ => S
  | v :: vs, h => by
    have s := wipeE_shp (ρ := ρ) (vs := vs) fun v hv => h v (List.mem_cons_of_mem _ hv)
    exact (S.wipeR fun v hv => h v (List.mem_cons_of_mem _ hv)).unR fun ds e => NoOw.shp h s v (List.mem_cons_self ..) ds e
/-- the slots of vs told nothing of: others may stand there -/
theorem Stx.wipeS (S : Stx B O ρ σ H) {vs : List Nat} (hn : NoOw vs ρ) (a : Agr vs σ τ) : Stx B O (wipeE vs ρ) τ H :=
  (S.wipeR hn).agr a.1 fun j => by
    by_cases hj : j ∈ vs
    · by_cases hl : j < ρ.length
      · exact .inr (wipeE_in hj hl hn)
      · refine .inl ?_
        rw [List.getElem?_eq_none (by rw [a.1, ← S.len]; omega), List.getElem?_eq_none (by rw [← S.len]; omega)]
    · exact .inl (a.2 j hj)
end
theorem Agr.symm {vs : List Nat} {σ τ : L2.St} (a : Agr vs σ τ) : Agr vs τ σ := ⟨a.1.symm, fun j h => (a.2 j h).symm⟩
theorem own_agr {vs : List Nat} {ρ ρ' : Ev} {σ τ : L2.St} (hn : NoOw vs ρ) (s : Shp ρ ρ') (a : Agr vs σ τ) {j : Nat} {p : Addr} : OwnAt ρ' τ j p ↔ OwnAt ρ σ j p := by
  have off : ∀ {ds}, ρ[j]? = some (Sl.ow ds) → j ∉ vs := fun {ds} e z => hn j z ds e
  constructor
  · rintro ⟨h, e⟩
    obtain ⟨ds, h⟩ := (s.2 j).mpr h
    exact ⟨⟨ds, h⟩, by rw [← a.2 j (off h)]; exact e⟩
  · rintro ⟨⟨ds, h⟩, e⟩
    exact ⟨(s.2 j).mp ⟨ds, h⟩, by rw [a.2 j (off h)]; exact e⟩

/-! ### new lists -/
def tF (B : Bd) (f : Cm (List D)) : TE := fun σ H Q => ∃ ρ O, Stx B O ρ σ H ∧ Out B O ρ σ H (f ρ) fun ds ρ' H' => ∀ p vs, H' p = none → RepA B.K O H' ds vs → Q (.ref p) (upd H' p (.lst vs))
def lsE (f : Cm (List D)) : Cm D := bnd f fun ds => ret (.lst ds)
section
variable {X : Cx} {B : Bd} {e : Expr} {f : Cm (List D)}
theorem pv_fresh (h : PE X e (tF B f)) : PE X e (tV B (lsE f)) := pe_imp h fun σ H Q ⟨ρ, O, S, h⟩ => ⟨ρ, O, S, h.bind.imp fun ds ρ1 H1 P1 h p vs hp r =>
  h _ (Ps.ext P1.st (ext_upd hp)) _ (newL r (fun a q => let ⟨vs, e⟩ := P1.st.trk a q; ⟨_, e⟩) hp)⟩
end

/-! ### comprehensions -/
def nox {α : Type} (f : Cm α) : Cm α := fun ρ => match f ρ with
  | .ok a ρ' => .ok a ρ'
  | _ => .bad
def lcL (vs : List Nat) (s : D → Cm Unit) (tt : Cm Bool) (el : Cm D) : List D → List D → Cm (List D)
  | [], acc => ret acc
  | d :: ds, acc => fun ρ => aft (s d) (bnd (nox tt) fun b => if b = true then bnd el fun y => if acc.length < sizeLine then lcL vs s tt el ds (acc ++ [y]) else (fun _ => .bad) else lcL vs s tt el ds acc) (wipeE vs ρ)
def lcR (vs : List Nat) : Rs (List D) → Rs (List D)
  | .ok a ρ => .ok a (wipeE vs ρ)
  | .exc n ρ => .exc n (wipeE vs ρ)
  | .bad => .bad
def lcE (vs : List Nat) (src : Cm (List D)) (s : D → Cm Unit) (tt : Cm Bool) (el : Cm D) : Cm (List D) := bnd src fun ds => fun ρ => if noOw vs ρ = true then lcR vs (lcL vs s tt el ds [] ρ) else .bad
abbrev NW : WX := fun _ _ _ _ => False

section
variable {B : Bd} {O : Addr → Prop} {ρ ρ' : Ev} {σ τ : L2.St} {H H' : Hp} {D0 : Addr}
/-- a tracked list that no slot owns may change -/
theorem Stx.chgD (S : Stx B O ρ σ H) (hO : O D0) (hn : ∀ j, ¬ OwnAt ρ σ j D0) (h0 : B.H0 D0 = none) {xs : List V} : Stx B O ρ σ (upd H D0 (.lst xs)) := by
  have c : Chg (fun a => a = D0) H (upd H D0 (.lst xs)) := fun a o e n => by rw [upd_ne n]; exact e
  have sub : ∀ a, a = D0 → O a := fun a e => e ▸ hO
  refine ⟨S.len, fun i s e => ?_, S.inj, fun a h => ?_, fun a o e n => ?_, S.own, S.sup, S.lent, S.lentN, S.o0⟩
  · obtain ⟨o, h1, h2⟩ := S.ok i s e
    refine ⟨o, h1, ?_⟩
    cases s with
    | un => trivial
    | im d => obtain ⟨v, z, r⟩ := h2; exact ⟨v, z, r.mono c sub⟩
    | ow es =>
      obtain ⟨q, ws, z1, z2, z3, z4⟩ := h2
      exact ⟨q, ws, z1, z2, c _ _ z3 (fun z => hn i (by subst z; exact ⟨⟨es, e⟩, by rw [h1, z1]⟩)), z4.mono c sub⟩
  · obtain ⟨ws, e⟩ := S.trk a h
    by_cases z : a = D0
    · subst z; exact ⟨xs, upd_same⟩
    · exact ⟨ws, c _ _ e z⟩
  · refine c _ _ (S.keep a o e n) fun z => ?_
    rw [z, h0] at e; cases e
/-- .. or go from sight -/
theorem Stx.drop (S : Stx B (fun a => O a ∨ a = D0) ρ σ H) (hO : ¬ O D0) (hn : ∀ j, ¬ OwnAt ρ σ j D0) (h0 : B.H0 D0 = none) (hB : ¬ B.O0 D0) : Stx B O ρ σ H := by
  have av : ∀ a, O a → (O a ∨ a = D0) ∨ H a = none := fun a h => .inl (.inl h)
  refine ⟨S.len, fun i s e => ?_, S.inj, fun a h => S.trk a (.inl h), S.keep, S.own, fun a h => (S.sup a h).elim id fun z => absurd (z ▸ h) hB, S.lent, S.lentN, S.o0⟩
  obtain ⟨o, h1, h2⟩ := S.ok i s e
  refine ⟨o, h1, ?_⟩
  cases s with
  | un => trivial
  | im d => obtain ⟨v, z, r⟩ := h2; exact ⟨v, z, r.avoid av⟩
  | ow es =>
    obtain ⟨q, ws, z1, z2, z3, z4⟩ := h2
    exact ⟨q, ws, z1, z2.elim id fun z => absurd (⟨⟨es, e⟩, by rw [h1, z1]⟩ : OwnAt ρ σ i q) (by rw [z]; exact hn i), z3, z4.avoid av⟩
/-- the heap without D0 -/
def wout (H : Hp) (D0 : Addr) : Hp := fun a => if a = D0 then none else H a
theorem wout_ne {a : Addr} (h : a ≠ D0) : wout H D0 a = H a := if_neg h
theorem wout_upd {xs : List V} (h : H D0 = some (.lst xs)) : upd (wout H D0) D0 (.lst xs) = H := by
  funext a
  by_cases e : a = D0
  · rw [e, upd_same, h]
  · rw [upd_ne e, wout_ne e]
theorem wout_chg : Chg (fun a => a = D0) H (wout H D0) := fun a o e n => by rw [wout_ne n]; exact e
theorem Stx.wout (S : Stx B (fun a => O a ∨ a = D0) ρ σ H) (hO : ¬ O D0) (hn : ∀ j, ¬ OwnAt ρ σ j D0) (h0 : B.H0 D0 = none) (hB : ¬ B.O0 D0) : Stx B O ρ σ (V3.wout H D0) := by
  have sub : ∀ a, a = D0 → (O a ∨ a = D0) := fun a e => .inr e
  have av : ∀ a, O a → (O a ∨ a = D0) ∨ V3.wout H D0 a = none := fun a h => .inl (.inl h)
  refine ⟨S.len, fun i s e => ?_, S.inj, fun a h => ?_, fun a o e n => ?_, S.own, fun a h => (S.sup a h).elim id fun z => absurd (z ▸ h) hB, S.lent, S.lentN, S.o0⟩
  · obtain ⟨o, h1, h2⟩ := S.ok i s e
    refine ⟨o, h1, ?_⟩
    cases s with
    | un => trivial
    | im d => obtain ⟨v, z, r⟩ := h2; exact ⟨v, z, (r.mono wout_chg sub).avoid av⟩
    | ow es =>
      obtain ⟨q, ws, z1, z2, z3, z4⟩ := h2
      have hne : q ≠ D0 := fun z => hn i (by rw [← z]; exact ⟨⟨es, e⟩, by rw [h1, z1]⟩)
      exact ⟨q, ws, z1, z2.elim id fun z => absurd z hne, by rw [wout_ne hne]; exact z3, (z4.mono wout_chg sub).avoid av⟩
  · obtain ⟨ws, e⟩ := S.trk a (.inl h)
    exact ⟨ws, by rw [wout_ne (fun z : a = D0 => hO (by rw [← z]; exact h))]; exact e⟩
  · rw [wout_ne (fun z => by rw [z, h0] at e; cases e)]
    exact S.keep a o e n
end

section
variable {B : Bd} {vs : List Nat} {src : Cm (List D)} {s : D → Cm Unit} {tt : Cm Bool} {el : Cm D} {σ : L2.St} {H : Hp} {Q : VK}
theorem lc_to (h : tF B (lcE vs src s tt el) σ H Q) :
    tLc (tI B src) (tGt B vs s) (tT (B.at NW) tt) (tV (B.at fun cls d _ H' => B.W cls d σ H') el) vs σ H Q := by
  obtain ⟨ρ, O, S, h⟩ := h
  refine ⟨ρ, O, S, h.bind.imp fun ds ρ1 H1 P1 h J ⟨G, Y, w, hG, hY⟩ D0 hD => ?_⟩
  have S1 := P1.st
  by_cases hno : noOw vs ρ1 = true
  case neg => rw [if_neg hno] at h; exact h.elim
  rw [if_pos hno] at h
  have no := noOw_of hno
  have hO : ¬ O D0 := fun z => by obtain ⟨ws, e⟩ := S1.trk D0 z; rw [hD] at e; cases e
  have hB : ¬ B.O0 D0 := fun z => hO (S1.sup D0 z)
  have own0 : ∀ j, ¬ OwnAt ρ1 σ j D0 := fun j z => hO (S1.ownO D0 ⟨j, z⟩)
  have h0 : B.H0 D0 = none := by
    cases e : B.H0 D0 with
    | none => rfl
    | some o =>
      by_cases hl : ∃ k, B.lent k D0
      · obtain ⟨k, hl⟩ := hl
        exact absurd (S1.lent k D0 hl) (own0 k)
      · have z := S1.keep D0 o e hl
        rw [hD] at z; cases z
  generalize hr : lcL vs s tt el ds [] ρ1 = r0 at h
  have hr0 : r0 ≠ .bad := fun e => by rw [e] at h; exact h
  -- the invariant
  let Pv : Nat → Hp → Prop := fun i Hi => ∃ ρi acc accV, Stx B (fun a => O a ∨ a = D0) (wipeE vs ρi) (wipe σ vs) Hi ∧ Shp ρ1 ρi ∧ Hi D0 = some (.lst accV) ∧ RepA B.K (fun a => O a ∨ a = D0) Hi acc accV ∧
    Chg (fun a => Own ρ1 σ a ∨ a = D0) H1 Hi ∧ lcL vs s tt el (ds.drop i) acc ρi = r0
  have cO : ∀ {Hi : Hp}, Chg (fun a => Own ρ1 σ a ∨ a = D0) H1 Hi → Chg O H1 Hi := fun {Hi} c a o e n => c a o e fun z => z.elim (fun q => n (S1.ownO a q)) fun q => by rw [q, hD] at e; cases e
  refine lc_it w Pv ⟨ρ1, [], [], ?_, Shp.refl, upd_same, .nil, fun a o e n => by rw [upd_ne fun z => n (.inr z)]; exact e, hr⟩ (fun i Hi _ ⟨ρi, acc, accV, _, _, _, _, c, _⟩ => hG Hi (cO c)) (fun i x Hi H2 hi ⟨ρi, acc, accV, Si, shp, hDi, hacc, c, heq⟩ y => ?_) (fun Hi ⟨ρi, acc, accV, Si, shp, hDi, hacc, c, heq⟩ => ?_)
  · -- at the start
    have ex : Ext H1 (upd H1 D0 (.lst [])) := ext_upd hD
    have S2 := S1.ext ex
    refine (show Stx B (fun a => O a ∨ a = D0) ρ1 σ _ from ?_).wipeS no agr_wipe
    have av : ∀ a, (O a ∨ a = D0) → O a ∨ H1 a = none := fun a z => z.imp id fun (e : a = D0) => by rw [e]; exact hD
    refine ⟨S2.len, fun i t e => ?_, S2.inj, fun a z => ?_, S2.keep, S2.own, fun a z => .inl (S2.sup a z), S2.lent, S2.lentN, S2.o0⟩
    · obtain ⟨o, k1, k2⟩ := S1.ok i t e
      refine ⟨o, k1, ?_⟩
      cases t with
      | un => trivial
      | im d => obtain ⟨v, z, r⟩ := k2; exact ⟨v, z, (r.avoid av).ext ex⟩
      | ow es => obtain ⟨q, ws, z1, z2, z3, z4⟩ := k2; exact ⟨q, ws, z1, .inl z2, ex _ _ z3, (z4.avoid av).ext ex⟩
    · rcases z with z | rfl
      · exact S2.trk a z
      · exact ⟨[], upd_same⟩
  · -- a turn
    have noi := NoOw.shp no shp
    obtain ⟨ex, d, hd, r⟩ := hY (fun a => O a ∨ a = D0) i Hi x H2 (fun a z => .inl z) (fun a z => z.imp id fun (e : a = D0) => by rw [e]; exact hD) (cO c) Si.trk hi y
    have e : ds.drop i = d :: ds.drop (i + 1) := by
      rw [List.drop_eq_getElem_cons hi]
      congr 1
      rw [List.getElem?_eq_getElem hi] at hd
      exact Option.some.inj hd
    rw [e] at heq
    have fix : lcL vs s tt el (d :: ds.drop (i + 1)) acc ρi = aft (s d) (bnd (nox tt) fun b => if b = true then bnd el fun y => if acc.length < sizeLine then lcL vs s tt el (ds.drop (i + 1)) (acc ++ [y]) else (fun _ => .bad) else lcL vs s tt el (ds.drop (i + 1)) acc) (wipeE vs ρi) := rfl
    rw [fix] at heq
    unfold aft at heq
    refine ⟨wipeE vs ρi, fun a => O a ∨ a = D0, d, Si.ext ex, r, ?_⟩
    cases q : s d (wipeE vs ρi) with
    | bad => rw [q] at heq; exact absurd heq.symm hr0
    | exc n ρ3 => rw [q] at heq; exact absurd heq.symm hr0
    | ok u ρ3 =>
      rw [q] at heq
      intro σ2 H3 S3 ex3 shp3 agr
      have agr' : Agr vs σ σ2 := agr_wipe.trans agr
      refine ⟨wipe_agr agr', ρ3, fun a => O a ∨ a = D0, S3.at, ?_⟩
      have shp13 : Shp ρ1 ρ3 := (shp.trans (wipeE_shp noi)).trans shp3
      dsimp only at heq
      unfold bnd nox at heq
      cases q2 : tt ρ3 with
      | bad => rw [q2] at heq; exact absurd heq.symm hr0
      | exc n ρ4 => rw [q2] at heq; exact absurd heq.symm hr0
      | ok b ρ4 =>
        rw [q2] at heq
        intro H4 P4
        have S4 := P4.st.un
        have shp14 : Shp ρ1 ρ4 := shp13.trans P4.shp
        have own4 : ∀ {a}, Own ρ3 σ2 a → Own ρ1 σ a := fun {a} ⟨j, z⟩ => ⟨j, (own_agr no shp13 agr').mp z⟩
        have c4 : Chg (fun a => Own ρ1 σ a ∨ a = D0) H1 H4 := ((c.trans (Chg.of ex)).trans (Chg.of ex3)).trans (P4.chg.sub fun a z => .inl (own4 z))
        have acc4 : RepA B.K (fun a => O a ∨ a = D0) H4 acc accV := ((hacc.ext ex).ext ex3).mono P4.chg S3.ownO
        have D4 : H4 D0 = some (.lst accV) := P4.chg _ _ (ex3 _ _ (ex _ _ hDi)) fun z => hO (S1.ownO _ (own4 z))
        cases b with
        | false =>
          simp only [Bool.false_eq_true, if_false] at heq ⊢
          exact ⟨ρ4, acc, accV, S4.wipeS (NoOw.shp no shp14) (agr'.symm.trans agr_wipe), shp14, D4, acc4, c4, heq⟩
        | true =>
          simp only [if_true] at heq ⊢
          refine ⟨ρ4, fun a => O a ∨ a = D0, S4.at, ?_⟩
          cases q3 : el ρ4 with
          | bad => rw [q3] at heq; exact absurd heq.symm hr0
          | exc n ρ5 =>
            rw [q3] at heq
            rw [← heq] at h
            intro H5 C P5 hC
            have S5 := P5.st.un
            have shp15 : Shp ρ1 ρ5 := shp14.trans P5.shp
            have own5 : ∀ {a}, Own ρ4 σ2 a → Own ρ1 σ a := fun {a} ⟨j, z⟩ => ⟨j, (own_agr no shp14 agr').mp z⟩
            have no5 := NoOw.shp no shp15
            have Sf : Stx B O (wipeE vs ρ5) σ H5 := (S5.wipeS no5 agr'.symm).drop hO (fun j z => own0 j ((own_agr no (shp15.trans (wipeE_shp no5)) Agr.refl).mp z)) h0 hB
            have c5 : Chg (Own ρ1 σ) H1 H5 := fun a o e n => (c4.trans (P5.chg.sub fun a z => .inl (own5 z))) a o e fun z => z.elim n fun q => by rw [q, hD] at e; cases e
            exact h H5 C ⟨Sf, shp15.trans (wipeE_shp no5), c5⟩ hC
          | ok yv ρ5 =>
            rw [q3] at heq
            intro H5 P5 v hv
            have S5 := P5.st.un
            have shp15 : Shp ρ1 ρ5 := shp14.trans P5.shp
            have own5 : ∀ {a}, Own ρ4 σ2 a → Own ρ1 σ a := fun {a} ⟨j, z⟩ => ⟨j, (own_agr no shp14 agr').mp z⟩
            have no5 := NoOw.shp no shp15
            have D5 : H5 D0 = some (.lst accV) := P5.chg _ _ D4 fun z => hO (S1.ownO _ (own5 z))
            have acc5 : RepA B.K (fun a => O a ∨ a = D0) H5 acc accV := acc4.mono P5.chg S4.ownO
            by_cases hl : acc.length < sizeLine
            case neg => dsimp only at heq; rw [if_neg hl] at heq; exact absurd heq.symm hr0
            dsimp only at heq
            rw [if_pos hl] at heq
            refine ⟨accV, D5, by rw [← hacc.length]; exact hl, ρ5, acc ++ [yv], accV ++ [v], ?_, shp15, upd_same, ?_, ?_, heq⟩
            · exact ((S5.wipeS no5 (agr'.symm.trans agr_wipe))).chgD (.inr rfl) (fun j z => own0 j ((own_agr no (shp15.trans (wipeE_shp no5)) agr_wipe).mp z)) h0
            · have cD : Chg (fun a => a = D0) H5 (upd H5 D0 (.lst (accV ++ [v]))) := fun a o e n => by rw [upd_ne n]; exact e
              exact (acc5.append (.cons hv .nil)).mono cD fun a z => .inr z
            · exact (c4.trans (P5.chg.sub fun a z => .inl (own5 z))).trans fun a o e n => by rw [upd_ne fun z => n (.inr z)]; exact e
  · -- at the end
    rw [List.drop_length] at heq
    have heq : Rs.ok acc ρi = r0 := heq
    rw [← heq] at h
    have noi := NoOw.shp no shp
    have shpF : Shp ρ1 (wipeE vs ρi) := shp.trans (wipeE_shp noi)
    have ownF : ∀ j, ¬ OwnAt (wipeE vs ρi) σ j D0 := fun j z => own0 j ((own_agr no shpF Agr.refl).mp z)
    have SF : Stx B (fun a => O a ∨ a = D0) (wipeE vs ρi) σ Hi := by
      refine Si.agr (wipe_length σ vs).symm fun j => ?_
      by_cases hj : j ∈ vs
      · by_cases hl : j < ρi.length
        · exact .inr (wipeE_in hj hl noi)
        · refine .inl ?_
          rw [List.getElem?_eq_none (by rw [← S1.len, ← shp.1]; omega), List.getElem?_eq_none (by rw [wipe_length, ← S1.len, ← shp.1]; omega)]
      · exact .inl (wipe_out hj).symm
    have cF : Chg (Own ρ1 σ) H1 (wout Hi D0) := fun a o e n => by
      have hne : a ≠ D0 := fun q => by rw [q, hD] at e; cases e
      rw [wout_ne hne]
      exact c a o e fun z => z.elim n hne
    have z := h (wout Hi D0) ⟨SF.wout hO ownF h0 hB, shpF, cF⟩ D0 accV (if_pos rfl) ((hacc.mono wout_chg fun a e => .inr e).avoid fun a z => .inl (.inl z))
    rwa [wout_upd hDi] at z
end
section
variable {X : Cx} {B : Bd} {elt tg iter : Expr} {ifs : List Expr} {scope : Scope} {own : List (Str × Nat)} {vs : List Nat} {pos : Pos} {src : Cm (List D)} {s : D → Cm Unit} {tt : Cm Bool} {el : Cm D} {L : Addr}
theorem pf_lc (fm : Frm X L) (ar : Air X B.W) (calm : X.calm = true) (nd : X.N.Nodup) (pi : PI X tg iter (tI B src)) (ok : BlkOk X.N X.env.scope scope own) (hv : own.map (·.2) = vs)
    (pg : ∀ (s' : Shared) (H : Hp) (C : Addr) (cl : List (Str × Addr)) (fp : List Addr) (E : XK), PG (blkE X s' H scope (compEnvC scope cl C X.env) fp E) tg (tGt B vs s))
    (pt : ∀ (s' : Shared) (H : Hp) (C : Addr) (cl : List (Str × Addr)) (fp : List Addr) (E : XK), PTs (blkE X s' H scope (compEnvC scope cl C X.env) fp E) ifs (tT (B.at NW) tt))
    (pe : ∀ (s' : Shared) (H : Hp) (C : Addr) (cl : List (Str × Addr)) (fp : List Addr) (σ : L2.St), PE (blkE X s' H scope (compEnvC scope cl C X.env) fp fun cls d H' => B.W cls d σ H') elt (tV (B.at fun cls d _ H' => B.W cls d σ H') el)) (fold : ∀ x, foldedSetIterable iter X.env x = pure x := by intro _; rfl) :
    PE X (.ListComp elt [⟨tg, iter, ifs, 0⟩] scope pos) (tF B (lcE vs src s tt el)) := by
  subst hv
  exact pe_imp (pe_lcx fm ar calm nd pi ok pg pt pe fold) fun σ H Q h => lc_to h
theorem tt_nil : PTs X [] (tT (B.at NW) (ret true)) := ⟨fun pins s σ H Q I ⟨ρ, O, S, h⟩ => pts_nil.run pins s σ H Q I (h.ret S)⟩
theorem tt_one {c : Expr} (h : PT X c (tT (B.at NW) tt)) : PTs X [c] (tT (B.at NW) tt) := pts_one h
end
end V3
end

section
set_option Elab.async false
set_option linter.all false
set_option maxRecDepth 100000
set_option maxHeartbeats 1000000
/-! V3i: own lists stored, changed; raising; calls; a def's promise. -/
namespace V3
open PySem PySem.Spec PyProof.Rows L2

section
variable {B : Bd} {O : Addr → Prop} {ρ : Ev} {σ : L2.St} {H : Hp}
/-- the list of an own slot, and the others' data, may turn: the slot k's list at p gets vs', the heap else stands but at p -/
theorem Stx.updOwn (S : Stx B O ρ σ H) {H' : Hp} {k : Nat} {p : Addr} {ds' : List D} {vs' : List V} (ho : OwnAt ρ σ k p) (c : Chg (fun a => a = p) H H') (hp : H' p = some (.lst vs')) (r : RepA B.K O H' ds' vs') :
    Ps B O ρ σ H (ρ.set k (.ow ds')) H' := by
  have hO : O p := S.ownO p ⟨k, ho⟩
  have sub : ∀ a, a = p → O a := fun a e => by rw [e]; exact hO
  have hk : k < ρ.length := by
    obtain ⟨⟨ds, e⟩, _⟩ := ho
    exact (List.getElem?_eq_some_iff.mp e).1
  have back : ∀ j q, OwnAt (ρ.set k (.ow ds')) σ j q → OwnAt ρ σ j q := fun j q ⟨⟨ds, e1⟩, e2⟩ => by
    rcases getSet e1 with ⟨rfl, _, _⟩ | ⟨_, h⟩
    · exact ⟨ho.1, e2⟩
    · exact ⟨⟨ds, h⟩, e2⟩
  have fwd : ∀ j q, OwnAt ρ σ j q → OwnAt (ρ.set k (.ow ds')) σ j q := fun j q ⟨⟨ds, e1⟩, e2⟩ => by
    by_cases e : k = j
    · subst e
      exact ⟨⟨ds', List.getElem?_set_self hk⟩, e2⟩
    · exact ⟨⟨ds, by rw [List.getElem?_set_ne e]; exact e1⟩, e2⟩
  refine ⟨⟨by rw [List.length_set]; exact S.len, fun i s e => ?_, fun i j q a b => S.inj i j q (back i q a) (back j q b), fun a h => ?_, fun a o e n => ?_, fun q ⟨i, a⟩ => S.own q ⟨i, back i q a⟩, S.sup, fun i q a => fwd i q (S.lent i q a), S.lentN, S.o0⟩,
    ⟨List.length_set, fun i => ⟨fun ⟨ds, e⟩ => ?_, fun ⟨ds, e⟩ => ?_⟩⟩, c.sub fun a e => by rw [e]; exact ⟨k, ho⟩⟩
  · rcases getSet e with ⟨rfl, rfl, _⟩ | ⟨hne, h⟩
    · exact ⟨_, ho.2, p, vs', rfl, hO, hp, r⟩
    · obtain ⟨o, h1, h2⟩ := S.ok i s h
      refine ⟨o, h1, ?_⟩
      cases s with
      | un => trivial
      | im d => obtain ⟨v, z, r⟩ := h2; exact ⟨v, z, r.mono c sub⟩
      | ow es =>
        obtain ⟨q, ws, z1, z2, z3, z4⟩ := h2
        have hq : q ≠ p := fun z => hne (S.inj k i p ho ⟨⟨es, h⟩, by rw [h1, z1, z]⟩)
        exact ⟨q, ws, z1, z2, c _ _ z3 hq, z4.mono c sub⟩
  · obtain ⟨ws, e⟩ := S.trk a h
    by_cases z : a = p
    · rw [z]; exact ⟨vs', hp⟩
    · exact ⟨ws, c _ _ e z⟩
  · refine c _ _ (S.keep a o e n) fun z => ?_
    rcases S.own p ⟨k, ho⟩ with h | h
    · exact n (by rw [z]; exact h)
    · rw [z, h] at e; cases e
  · by_cases z : k = i
    · subst z; exact ⟨ds', List.getElem?_set_self hk⟩
    · exact ⟨ds, by rw [List.getElem?_set_ne z]; exact e⟩
  · rcases getSet e with ⟨rfl, _, _⟩ | ⟨_, h⟩
    · exact ho.1
    · exact ⟨ds, h⟩
end

def dInt : D → Option Int
  | .int i => some i
  | _ => none
theorem dInt_inv {d : D} {i : Int} (h : dInt d = some i) : d = .int i := by cases d <;> cases h; rfl
def updO (k : Nat) (i : Int) (d : D) : Cm Fl := fun ρ => match slotL ρ k with
  | some ds => match ixN ds.length i with
    | some j => .ok .nx (ρ.set k (.ow (ds.set j d)))
    | none => .bad
  | none => .bad
def getO (k : Nat) (i : Int) : Cm D := fun ρ => match slotL ρ k with
  | some ds => match atI ds i with
    | some d => .ok d ρ
    | none => .bad
  | none => .bad
def setIx (k : Nat) (fe fi : Cm D) : Cm Fl := bnd fe fun d => bnd (V3.own k) fun _ => bnd fi fun i => bnd (lift (dInt i)) fun i => updO k i d
def augIx (k : Nat) (fi : Cm D) (g : Int → Int → Int) (fe : Cm D) : Cm Fl := bnd (V3.own k) fun _ => bnd fi fun i => bnd (lift (dInt i)) fun i => bnd (getO k i) fun old => bnd (lift (dInt old)) fun x => bnd fe fun d => bnd (lift (dInt d)) fun y => updO k i (.int (g x y))
def augN (i : Nat) (g : Int → Int → Int) (fe : Cm D) : Cm Fl := bnd (var i) fun x => bnd (lift (dInt x)) fun x => bnd fe fun y => bnd (lift (dInt y)) fun y => bnd (setI i (.int (g x y))) fun _ => ret .nx
def asgO (i n : Nat) (f : Cm (List D)) : Cm Fl := bnd f fun ds => fun ρ => if n ≤ i ∧ i < ρ.length then .ok .nx (ρ.set i (.ow ds)) else .bad
def retF (f : Cm (List D)) : Cm Fl := bnd f fun ds => ret (.rt (.lst ds))
open Classical in
noncomputable def repD : D → D → Option (List D)
  | .lst ds, .int k => if -(2 ^ 63) ≤ k ∧ k < 2 ^ 63 ∧ ds.length * k.toNat ≤ sizeLine then some (List.replicate k.toNat ds).flatten else none
  | _, _ => none
noncomputable def repF (fa fb : Cm D) : Cm (List D) := bnd fa fun d => bnd fb fun e => lift (repD d e)
def dispF (F : Cm (List D)) : Cm (List D) := bnd F fun ds => lift (if ds.length ≤ sizeLine then some ds else none)
theorem updO_inv {B : Bd} {O : Addr → Prop} {ρ : Ev} {σ : L2.St} {H : Hp} {k : Nat} {i : Int} {d : D} {v : V} {En : Ends} (S : Stx B O ρ σ H) (hv : Rep B.K O H d v) (h : OutS B O H (updO k i d ρ) En) :
    ∃ p xs j, σ[k]? = some (some (.ref p)) ∧ H p = some (.lst xs) ∧ ixN xs.length i = some j ∧ En.nx σ (upd H p (.lst (xs.set j v))) := by
  unfold updO at h
  cases e : slotL ρ k with
  | none => rw [e] at h; exact h.elim
  | some ds =>
    rw [e] at h
    dsimp only at h
    cases e2 : ixN ds.length i with
    | none => rw [e2] at h; exact h.elim
    | some j =>
      rw [e2] at h
      obtain ⟨p, vs, ho, hs, hO, hp, r⟩ := S.slotL e
      have c : Chg (fun a => a = p) H (upd H p (.lst (vs.set j v))) := fun a o e n => by rw [upd_ne n]; exact e
      have sub : ∀ a, a = p → O a := fun a e => by rw [e]; exact hO
      have P := S.updOwn ho c (vs' := vs.set j v) upd_same ((r.set j hv).mono c sub)
      exact ⟨p, vs, j, hs, hp, by rw [← r.length]; exact e2, h _ _ O (Pst.of S P)⟩

theorem own_inv {B : Bd} {O : Addr → Prop} {ρ : Ev} {σ : L2.St} {H : Hp} {k : Nat} {g : Cm Fl} {En : Ends} (S : Stx B O ρ σ H) (h : OutS B O H (bnd (V3.own k) (fun _ => g) ρ) En) : (∃ p, σ[k]? = some (some (.ref p))) ∧ OutS B O H (g ρ) En := by
  unfold bnd V3.own at h
  cases e : slotL ρ k with
  | none => rw [e] at h; exact h.elim
  | some es =>
    rw [e] at h
    obtain ⟨p, _, _, h1, _⟩ := S.slotL e
    exact ⟨⟨p, h1⟩, h⟩
theorem lift_inv {α : Type} {B : Bd} {O : Addr → Prop} {ρ : Ev} {H : Hp} {o : Option α} {g : α → Cm Fl} {En : Ends} (h : OutS B O H (bnd (lift o) g ρ) En) : ∃ a, o = some a ∧ OutS B O H (g a ρ) En := by
  cases o with
  | none => exact h.elim
  | some a => exact ⟨a, rfl, h⟩
theorem int_lift {B : Bd} {O : Addr → Prop} {ρ : Ev} {H : Hp} {d : D} {g : Int → Cm Fl} {En : Ends} (h : OutS B O H (bnd (lift (dInt d)) g ρ) En) : ∃ a, d = .int a ∧ OutS B O H (g a ρ) En := by
  obtain ⟨a, e, h⟩ := lift_inv h
  exact ⟨a, dInt_inv e, h⟩
theorem get_own {X : Cx} : PGet X (rIxL X.K) := by
  intro pins s σ H x y v u Q I rx ry h
  obtain ⟨p, xs, i, z, rfl, rfl, hq, he, q⟩ := h
  cases rx
  obtain ⟨t, rfl⟩ := ry
  obtain ⟨its, r, pl, hz⟩ := I.list hq
  obtain ⟨j, h1, h2, h3, h4, h5⟩ := atI_get he
  obtain ⟨w, ew, rw'⟩ := r.get h2
  have hl := r.length
  have hn := line63
  have last : EP X pins σ Q w s := ⟨z, H, I, rw', q⟩
  by_cases h0 : 0 ≤ i
  · have e : i.toNat = j := by
      rw [seqIndex_of h0 h5] at h1
      exact Option.some.inj h1
    exact wpAny_getItem_list pl.isList h0 (by omega) (by rw [e]; simpa using ew) last
  · have e : (i + (its.toArray.size : Int)).toNat = j := by
      rw [seqIndex_neg (by omega) h4] at h1
      rw [List.size_toArray, ← hl]
      exact Option.some.inj h1
    exact wpAny_getItem_list_neg pl.isList (by omega) (by rw [List.size_toArray]; omega) (by omega) (by rw [e]; simpa using ew) last
theorem atI_rep {K : PySem.W.Frag} {O : Addr → Prop} {H : Hp} {ds : List D} {vs : List V} {i : Int} {d : D} (r : RepA K O H ds vs) (h : atI ds i = some d) : ∃ v, atI vs i = some v ∧ Rep K O H d v := by
  unfold atI at h ⊢
  rw [← r.length]
  cases e : ixN ds.length i with
  | none => rw [e] at h; cases h
  | some j =>
    rw [e] at h
    exact r.get h

theorem getO_inv {B : Bd} {O : Addr → Prop} {ρ : Ev} {σ : L2.St} {H : Hp} {k : Nat} {i : Int} {g : D → Cm Fl} {En : Ends} (S : Stx B O ρ σ H) (h : OutS B O H (bnd (getO k i) g ρ) En) :
    ∃ p vs d v, σ[k]? = some (some (.ref p)) ∧ H p = some (.lst vs) ∧ atI vs i = some v ∧ Rep B.K O H d v ∧ OutS B O H (g d ρ) En := by
  cases e : getO k i ρ with
  | bad => unfold bnd at h; rw [e] at h; exact h.elim
  | exc n ρ' =>
    unfold getO at e
    split at e
    · split at e <;> cases e
    · cases e
  | ok d ρ' =>
    unfold bnd at h
    rw [e] at h
    unfold getO at e
    split at e
    · rename_i ds e1
      split at e
      · rename_i d' e2
        cases e
        obtain ⟨p, vs, _, h1, hO, hp, r⟩ := S.slotL e1
        obtain ⟨v, a1, a2⟩ := atI_rep r e2
        exact ⟨p, vs, _, v, h1, hp, a1, a2, h⟩
      · cases e
    · cases e
section
variable {X : Cx} {B : Bd} {e i : Expr} {es : List Expr} {pos tpos p2 : Pos} {fe fi : Cm D} {k : Nat} {x : Str}
theorem sv_setIx (ho : PE X (.Name x p2) (tVar k)) (hi : PE X i (tV B fi)) (he : PE X e (tV B fe))
    (ha : ∀ v, assign (.Subscript (.Name x p2) i tpos) X.env v = (do
      let ov ← holding [v] (eval (.Name x p2) X.env)
      let iv ← holding [v, ov] (eval i X.env)
      standAt tpos
      holding [v, ov, iv] (setItem ov iv v)
      release [v, ov, iv] []) := by intro _; rfl)
    (hs : swapsWithSole [.Subscript (.Name x p2) i tpos] e pos.line X.env = pure false := by rfl) (hw : swappedStores [.Subscript (.Name x p2) i tpos] e X.env = pure none := by rfl)
    (h1 : (assignEach [.Subscript (.Name x p2) i tpos] X.env).map (·.2) = [assign (.Subscript (.Name x p2) i tpos) X.env] := by rfl) : PS X (.Assign [.Subscript (.Name x p2) i tpos] e pos) (tS B (setIx k fe fi)) :=
  ps_imp (ps_asg he (pg_sub ho hi set_list ha) hs hw h1) fun En σ H ⟨ρ, O, S, h⟩ => ⟨ρ, O, S, (OutS.bindE S h).imp fun d ρ1 H1 P1 h v hv =>
    let ⟨⟨q, hq⟩, h⟩ := own_inv P1.st h
    ⟨_, hq, ρ1, O, P1.st, (OutS.bindE P1.st h).imp fun d2 ρ3 H3 P3 h y hy => by
      obtain ⟨z, e2, h⟩ := int_lift h
      subst e2
      cases hy
      obtain ⟨p, xs, j, k1, k2, k3, k4⟩ := updO_inv P3.st (P3.rep P1.st hv) h
      rw [hq] at k1
      cases k1
      exact ⟨_, xs, z, j, rfl, rfl, k2, k3, k4⟩⟩⟩
theorem sv_augIx {op : Operator} {g : Int → Int → Int} (hip : PIp X op (ipI g)) (hK : B.K = X.K) (ho : PE X (.Name x p2) (tVar k)) (hi : PE X i (tV B fi)) (he : PE X e (tV B fe))
    (ha : ∀ ov iv new, augStore i ov iv new = (do holding [new, ov, iv] (setItem ov iv new); release [new, ov, iv] []; pure .next) := by intros; rfl) : PS X (.AugAssign (.Subscript (.Name x p2) i tpos) op e pos) (tS B (augIx k fi g fe)) :=
  ps_imp (ps_augS ho hi get_own he hip set_list ha) fun En σ H ⟨ρ, O, S, h⟩ =>
    let ⟨⟨q, hq⟩, h⟩ := own_inv S h
    ⟨_, hq, ρ, O, S, (OutS.bindE S h).imp fun d2 ρ3 H3 P3 h y hy => by
      obtain ⟨z, e2, h⟩ := int_lift h
      subst e2
      cases hy
      obtain ⟨p, vs, old, ov, k1, k2, k3, k4, h⟩ := getO_inv P3.st h
      rw [hq] at k1
      cases k1
      obtain ⟨x0, e3, h9⟩ := int_lift h
      subst e3
      cases k4
      refine ⟨_, vs, z, _, rfl, rfl, .inl (.inl k2), k3, ρ3, O, P3.st, (OutS.bindE P3.st h9).imp fun d4 ρ4 H4 P4 h w hw => ?_⟩
      obtain ⟨y0, e4, h⟩ := int_lift h
      subst e4
      cases hw
      obtain ⟨p2, xs, j, j1, j2, j3, j4⟩ := updO_inv P4.st (.int _) h
      rw [hq] at j1
      cases j1
      exact ⟨_, _, rfl, rfl, _, xs, z, j, rfl, rfl, j2, j3, j4⟩⟩
theorem sv_augN {op : Operator} {g : Int → Int → Int} (hip : PIp X op (ipI g)) (hN : X.N.Nodup) (hi : X.N[k]? = some x) (hx : Loc X.env.scope x) (he : PE X e (tV B fe)) (hf : X.fn x = true ∨ X.env.scope.names.lookup x = some .local := by first | exact .inl rfl | exact .inr rfl | assumption) :
    PS X (.AugAssign (.Name x p2) op e pos) (tS B (augN k g fe)) :=
  ps_imp (ps_aug hN hi hx he hip hf) fun En σ H ⟨ρ, O, S, h⟩ => by
    unfold augN at h
    cases e1 : ρ[k]? with
    | none => unfold bnd var at h; rw [e1] at h; exact h.elim
    | some s =>
      cases s with
      | un => unfold bnd var at h; rw [e1] at h; exact h.elim
      | ow _ => unfold bnd var at h; rw [e1] at h; exact h.elim
      | im d =>
        have h : OutS B O H (bnd (lift (dInt d)) (fun x => bnd fe fun y => bnd (lift (dInt y)) fun y => bnd (setI k (.int (g x y))) fun _ => ret .nx) ρ) En := by
          unfold bnd var at h
          rw [e1] at h
          exact h
        obtain ⟨o, h1, v, h2, r⟩ := S.ok k _ e1
        subst h2
        obtain ⟨x0, e2, h9⟩ := int_lift h
        subst e2
        cases r
        refine ⟨_, h1, ρ, O, S, (OutS.bindE S h9).imp fun d4 ρ4 H4 P4 h w hw => ?_⟩
        obtain ⟨y0, e4, h⟩ := int_lift h
        subst e4
        cases hw
        obtain ⟨hl, hn, h⟩ := setI_inv h
        exact ⟨_, _, rfl, rfl, h _ H4 O (Pst.refl (P4.st.setI hl hn (.int _)))⟩
/-! new lists -/
theorem sv_asgO {n : Nat} (hn : B.n = n) {f : Cm (List D)} {pos' : Pos} (hN : X.N.Nodup) (hi : X.N[k]? = some x) (hx : Loc X.env.scope x) (he : PE X e (tF B f)) (hs : swapsWith e (some (.Name x pos')) pos.line X.env = pure false := by rfl) (hf : X.fn x = true ∨ X.env.scope.names.lookup x = some .local := by first | exact .inl rfl | exact .inr rfl | assumption) :
    PS X (.Assign [.Name x pos'] e pos) (tS B (asgO k n f)) :=
  ps_imp (ps_set hN hi hx he hs hf) fun En σ H ⟨ρ, O, S, h⟩ => ⟨ρ, O, S, (OutS.bindE S h).imp fun ds ρ1 H1 P1 h p vs hp r => by
    split at h
    · rename_i hk
      have P := P1.st.setO (i := k) hk.2 (by rw [hn]; exact hk.1) hp r
      exact h _ _ _ P
    · exact h.elim⟩
theorem sv_retF (hf : B.fr = true) {f : Cm (List D)} (he : PE X e (tF B f)) : PS X (.Return (some e) pos) (tS B (retF f)) :=
  ps_imp (ps_ret he) fun En σ H ⟨ρ, O, S, h⟩ => ⟨ρ, O, S, (OutS.bindE S h).imp fun ds ρ1 H1 P1 h p vs hp r => by
    have S1 := P1.st
    have hO : ¬ O p := fun z => by obtain ⟨ws, e⟩ := S1.trk p z; rw [hp] at e; cases e
    have h0 : B.H0 p = none := by
      cases e : B.H0 p with
      | none => rfl
      | some o =>
        by_cases hl : ∃ k, B.lent k p
        · obtain ⟨k, hl⟩ := hl
          exact absurd (S1.ownO p ⟨k, S1.lent k p hl⟩) hO
        · have z := S1.keep p o e hl
          rw [hp] at z; cases z
    have ex : Ext H1 (upd H1 p (.lst vs)) := ext_upd hp
    refine h σ _ O (.ref p) (Pst.of S1 (Ps.ext S1 ex)) ?_ (fun _ q e => by cases e; exact h0)
    exact (newL r (fun a q => let ⟨vs, e⟩ := S1.trk a q; ⟨_, e⟩) hp).avoid fun a z => .inl (S1.sup a z)⟩
theorem pf_disp {F : Cm (List D)} (h : PA X es (tA B F)) : PE X (.List es pos) (tF B (dispF F)) :=
  pe_imp (pe_lst h) fun σ H Q ⟨ρ, O, S, h⟩ => ⟨ρ, O, S, h.bind.imp fun ds ρ1 H1 P1 h xs hx => by
    obtain ⟨z, hz, h⟩ := h.lift
    split at hz
    · rename_i hl
      cases hz
      exact ⟨by rw [← hx.length]; exact hl, fun p hp => h H1 (Ps.refl P1.st) p xs hp hx⟩
    · cases hz⟩
theorem pf_rep {a b : Expr} {fa fb : Cm D} (ha : PE X a (tV B fa)) (hb : PE X b (tV B fb)) : PE X (.BinOp a .Mult b pos) (tF B (repF fa fb)) :=
  pe_imp (pe_op op_rep ha hb) fun σ H Q ⟨ρ, O, S, h⟩ => ⟨ρ, O, S, h.bind.imp fun d ρ1 H1 P1 h v hv => ⟨ρ1, O, P1.st, h.bind.imp fun d2 ρ2 H2 P2 h w hw => by
    obtain ⟨z, hz, h9⟩ := h.lift
    have hv2 := P2.rep P1.st hv
    unfold repD at hz
    split at hz
    · rename_i ds m _
      split at hz
      · rename_i hl
        cases hz
        cases hw
        cases hv2 with
        | lst h1 r => exact ⟨_, m, _, rfl, rfl, h1.2, hl.1, hl.2.1, by rw [← r.length]; exact hl.2.2, fun p hp => h9 H2 (Ps.refl P2.st) p _ hp (r.flatRep m.toNat)⟩
      · cases hz
    · cases hz⟩⟩
/-! raising -/
theorem sv_raise {W : WX} {n : Str} {t : L2.St → Hp → XK → Prop} (hc : X.calm = true) (tk : Takes X B.W) (he : PMk X e t) (ht : ∀ σ H Q, (∀ C, B.mg n = some (.ref C) → Q (.ref C) none H) → t σ H Q) : PS X (.Raise (some e) none pos) (tS B (raiseS n)) :=
  ps_imp (ps_raise hc tk he) fun En σ H ⟨ρ, O, S, h⟩ => ht σ H _ fun C hC => h σ H O C (Pst.refl S) hC
end
end V3
end

section
set_option Elab.async false
set_option linter.all false
set_option maxRecDepth 100000
set_option maxHeartbeats 1000000
/-! V3j: a def's promise; calls. -/
namespace V3
open PySem PySem.Spec PyProof.Rows L2

def flD : Fl → Option D
  | .rt d => some d
  | .nx => some .non
  | _ => none
def LentOk (K : PySem.W.Frag) (O : Addr → Prop) (ρ : Ev) (σ : L2.St) (ρ' : Ev) (H' : Hp) : Prop := ∀ i p, OwnAt ρ σ i p → ∃ ds ws, ρ'[i]? = some (.ow ds) ∧ H' p = some (.lst ws) ∧ RepA K O H' ds ws
def EndF (K : PySem.W.Frag) (mg : Str → Option Value) (O : Addr → Prop) (ρ : Ev) (σ : L2.St) (H : Hp) (fr : Bool) (r : Rs Fl) (Q : VK) (E : XK) : Prop :=
  match r with
  | .ok f ρ' => match flD f with
    | some d => ∀ H' v, Chg (Own ρ σ) H H' → LentOk K O ρ σ ρ' H' → Rep K O H' d v → (fr = true → ∀ p, v = .ref p → H p = none) → Q v H'
    | none => False
  | .exc n ρ' => ∀ H' C, Chg (Own ρ σ) H H' → LentOk K O ρ σ ρ' H' → mg n = some (.ref C) → E (.ref C) none H'
  | .bad => False
/-- a def's promise: np parameters, N names, its mirror m -/
def spF (K : PySem.W.Frag) (mg : Str → Option Value) (np N : Nat) (fr : Bool) (m : Cm Fl) : Sp := fun vs H Q E =>
  vs.length = np ∧ ∃ (ρ : Ev) (O : Addr → Prop), ρ.length = np ∧ (∀ (i : Nat) (s : Sl), ρ[i]? = some s → ∃ o, (vs.map some)[i]? = some o ∧ SlOk K O H s o) ∧ (∀ i j p, OwnAt ρ (vs.map some) i p → OwnAt ρ (vs.map some) j p → i = j) ∧
    (∀ a, O a → ∃ ws, H a = some (.lst ws)) ∧ EndF K mg O ρ (vs.map some) H fr (m (ρ ++ List.replicate (N - np) .un)) Q E

/-- the ground of a body -/
abbrev bdOf (K : PySem.W.Frag) (mg : Str → Option Value) (E : XK) (H : Hp) (O : Addr → Prop) (ρ : Ev) (vs : List V) (np : Nat) (fr : Bool) : Bd :=
  ⟨K, mg, fun cls d _ H' => E cls d H', H, O, fun i p => OwnAt ρ (vs.map some) i p, np, fr⟩
theorem start_get {N : List Str} {vs : List V} {i : Nat} (h : i < vs.length) : (L2.start N vs)[i]? = (vs.map some)[i]? := by
  unfold L2.start
  rw [List.getElem?_append_left (by simpa using h)]
theorem start_len {N : List Str} {vs : List V} (h : vs.length ≤ N.length) : (L2.start N vs).length = N.length := by
  unfold L2.start
  rw [List.length_append, List.length_map, List.length_replicate]
  omega
section
variable {K : PySem.W.Frag} {mg : Str → Option Value} {np : Nat} {fr : Bool} {m : Cm Fl} {N : List Str} {vs : List V} {H : Hp} {Q : VK} {E : XK}
theorem body_of (hNp : np ≤ N.length) (hsp : spF K mg np N.length fr m vs H Q E) :
    ∃ ρ O, tS (bdOf K mg E H O ρ vs np fr) m { nx := fun _ H' => Q .non H', rt := Q } (L2.start N vs) H := by
  obtain ⟨hl, ρ, O, hρ, hok, inj, trk, h⟩ := hsp
  refine ⟨ρ, O, ρ ++ List.replicate (N.length - np) .un, O, ?_, ?_⟩
  · have pre : ∀ {i : Nat} {ds : List D}, (ρ ++ List.replicate (N.length - np) Sl.un)[i]? = some (.ow ds) → i < np ∧ ρ[i]? = some (.ow ds) := fun {i ds} e => by
      by_cases hi : i < ρ.length
      · rw [List.getElem?_append_left hi] at e
        exact ⟨by omega, e⟩
      · rw [List.getElem?_append_right (by omega), List.getElem?_replicate] at e
        split at e <;> cases e
    have back : ∀ i p, OwnAt (ρ ++ List.replicate (N.length - np) Sl.un) (L2.start N vs) i p → OwnAt ρ (vs.map some) i p := fun i p ⟨⟨ds, e⟩, e2⟩ => by
      obtain ⟨hi, e⟩ := pre e
      rw [start_get (by omega)] at e2
      exact ⟨⟨ds, e⟩, e2⟩
    have fwd : ∀ i p, OwnAt ρ (vs.map some) i p → OwnAt (ρ ++ List.replicate (N.length - np) Sl.un) (L2.start N vs) i p := fun i p ⟨⟨ds, e⟩, e2⟩ => by
      have hi : i < ρ.length := (List.getElem?_eq_some_iff.mp e).1
      refine ⟨⟨ds, by rw [List.getElem?_append_left hi]; exact e⟩, ?_⟩
      rw [start_get (by omega)]
      exact e2
    refine ⟨by rw [start_len (by omega), List.length_append, List.length_replicate, hρ]; omega, fun i s e => ?_, fun i j p a b => inj i j p (back i p a) (back j p b), trk, Chg.refl, fun p ⟨i, a⟩ => .inl ⟨i, back i p a⟩, fun a h => h, fun i p h => fwd i p h, fun i p h => ?_, fun a h => let ⟨ws, e⟩ := trk a h; ⟨_, e⟩⟩
    · by_cases hi : i < ρ.length
      · rw [List.getElem?_append_left hi] at e
        rw [start_get (by omega)]
        exact hok i s e
      · rw [List.getElem?_append_right (by omega), List.getElem?_replicate] at e
        split at e
        · rename_i hi2
          cases e
          have : i < (L2.start N vs).length := by rw [start_len (by omega)]; omega
          exact ⟨_, List.getElem?_eq_getElem this, trivial⟩
        · cases e
    · obtain ⟨⟨ds, e⟩, _⟩ := h
      have := (List.getElem?_eq_some_iff.mp e).1
      show i < np
      omega
  · have lent : ∀ {O' : Addr → Prop} {ρ' : Ev} {σ' : L2.St} {H' : Hp}, Stx (bdOf K mg E H O ρ vs np fr) O' ρ' σ' H' → Chg (Own ρ (vs.map some)) H H' ∧ LentOk K O ρ (vs.map some) ρ' H' := fun {O' ρ' σ' H'} S => by
      refine ⟨S.keep, fun i p hp => ?_⟩
      obtain ⟨⟨ds, e⟩, e2⟩ := S.lent i p hp
      obtain ⟨o, h1, q, ws, h2, h3, h4, h5⟩ := S.ok i _ e
      rw [e2] at h1; cases h1; cases h2
      exact ⟨ds, ws, e, h4, h5.avoid fun a z => .inl (S.sup a z)⟩
    cases q : m (ρ ++ List.replicate (N.length - np) .un) with
    | bad => rw [q] at h; exact h.elim
    | exc n ρ' => rw [q] at h; exact fun σ' H' O' C P hC => h H' C (lent P.st).1 (lent P.st).2 hC
    | ok f ρ' =>
      rw [q] at h
      cases f with
      | nx => exact fun σ' H' O' P => h H' .non (lent P.st).1 (lent P.st).2 .non fun _ p e => by cases e
      | bk => exact h.elim
      | ct => exact h.elim
      | rt d => exact fun σ' H' O' v P r hfr => h H' v (lent P.st).1 (lent P.st).2 r hfr
end
section
variable {P : Program} {w : World} {K : PySem.W.Frag} {mg : Str → Option Value} {base : Heap}
/-- a def by its body's derivation -/
theorem fnV {x qual : Str} {st : Stmt} {f : Addr} {fd : FuncData} {N ps : List Str} {k np : Nat} {fr : Bool} {m : Cm Fl} (F : Fun K x qual st f fd) (S : FnScope N ps (defScope st)) (hp : ps.length = np)
    (hbody : ∀ (cdv : Value) (A : Around) (outer : List Env) (s : Shared) (H : Hp) (E : XK) (O : Addr → Prop) (ρ : Ev) (vs : List V), Room k (A.deeper (envOfC qual (defScope st) s.heap.objs.size f cdv)) →
      PSs (cxOf (L2.CX P w) P w K mg base N qual (defScope st) f cdv A outer s H E) (defBody st) (tS (bdOf K mg E H O ρ vs np fr) m)) : FnOk P w K mg base (L2.CX P w) (k + 1) f fd ps (spF K mg np N.length fr m) :=
  F.okX S (fun vs H Q E h => h.1.trans hp.symm) fun cdv A outer s H vs Q E hr hsp => by
    have hNp : np ≤ N.length := by
      have := congrArg List.length S.pre
      rw [List.length_take] at this
      omega
    obtain ⟨ρ, O, h⟩ := body_of (np := np) hNp hsp
    exact ⟨_, hbody cdv A outer s H E O ρ vs hr, h⟩
end

/-! ### calls -/
/-- the mirror run at data -/
def runD (np N : Nat) (m : Cm Fl) (ds : List D) : Rs D := if ds.length = np then (match m (ds.map Sl.im ++ List.replicate (N - np) .un) with
  | .ok f _ => match flD f with
    | some d => .ok d []
    | none => .bad
  | .exc n _ => .exc n []
  | .bad => .bad) else .bad
def callA (F : List D → Rs D) (fa : Cm (List Ar)) : Cm D := bnd fa fun as => fun ρ => match resA ρ as with
  | none => .bad
  | some (ds, b) => match F ds with
    | .ok d _ => if !b || d.lf then .ok d ρ else .bad
    | .exc n _ => .exc n ρ
    | .bad => .bad
theorem ars_len {B : Bd} {O : Addr → Prop} {H : Hp} {σ : L2.St} : ∀ {as : List Ar} {xs : List V}, ArsOk B O H σ as xs → as.length = xs.length
  | _, _, .nil => rfl
  | _, _, .cons _ r => congrArg (· + 1) (ars_len r)
section
variable {B : Bd} {O : Addr → Prop} {ρ : Ev} {σ : L2.St} {H : Hp}
theorem no_own {ds : List D} {σ : L2.St} {p : Addr} : ¬ Own (ds.map Sl.im) σ p := fun ⟨i, ⟨es, e⟩, _⟩ => by
  rw [List.getElem?_map] at e
  cases q : ds[i]? with
  | none => rw [q] at e; cases e
  | some d => rw [q] at e; cases e
theorem sp_of {np N : Nat} {fr : Bool} {m : Cm Fl} {ds : List D} {xs : List V} {Q : VK} {E : XK} (r : RepA B.K O H ds xs) (trk : ∀ a, O a → ∃ ws, H a = some (.lst ws))
    (h : match runD np N m ds with
      | .ok d _ => ∀ H' v, Ext H H' → Rep B.K O H' d v → (fr = true → ∀ p, v = .ref p → H p = none) → Q v H'
      | .exc n _ => ∀ H' C, Ext H H' → B.mg n = some (.ref C) → E (.ref C) none H'
      | .bad => False) : spF B.K B.mg np N fr m xs H Q E := by
  unfold runD at h
  by_cases hl : ds.length = np
  case neg => rw [if_neg hl] at h; exact h.elim
  rw [if_pos hl] at h
  refine ⟨r.length.symm.trans hl, ds.map .im, O, by rw [List.length_map]; exact hl, fun i s e => ?_, fun i j p a => absurd ⟨i, a⟩ no_own, trk, ?_⟩
  · rw [List.getElem?_map] at e
    cases q : ds[i]? with
    | none => rw [q] at e; cases e
    | some d =>
      rw [q] at e
      cases e
      obtain ⟨v, h1, h2⟩ := r.get q
      exact ⟨some v, by rw [List.getElem?_map, h1]; rfl, v, rfl, h2⟩
  · have ext : ∀ {H' : Hp}, Chg (Own (ds.map Sl.im) (xs.map some)) H H' → Ext H H' := fun {H'} c a o e => c a o e no_own
    unfold EndF
    cases q : m (ds.map Sl.im ++ List.replicate (N - np) .un) with
    | bad => rw [q] at h; exact h.elim
    | exc n ρ' => rw [q] at h; exact fun H' C c _ hC => h H' C (ext c) hC
    | ok f ρ' =>
      rw [q] at h
      dsimp only at h ⊢
      cases q2 : flD f with
      | none => rw [q2] at h; exact h.elim
      | some d => rw [q2] at h; exact fun H' v c _ hr hf => h H' v (ext c) hr hf
end
section
variable {X : Cx} {B : Bd} {k : Nat} {f : Addr} {fd : FuncData} {ps : List Str} {np N : Nat} {fr : Bool} {m : Cm Fl} {x : Str} {p pos : Pos} {e : Expr} {es : List Expr} {fa : Cm (List Ar)} {L : Addr}
theorem pv_call (F : FnOk X.prog X.w X.K X.mg X.base (L2.CX X.prog X.w) k f fd ps (spF X.K X.mg np N fr m)) (hK : B.K = X.K) (hM : B.mg = X.mg) (hr : Room k X.A) (hg : Gl X x) (hm : X.mg x = some (.ref f)) (hk : PySem.W.keepIn X.K (.ref f) = true) (hb : Binds X.K fd ps [])
    (ar : Air X B.W) (hf : X.env.frame = some L) (ha : PA X (e :: es) (tG B fa)) (hdb : (x == ("__debug__" : Str)) = false := by decide) (he : starEach (e :: es) X.env = (false, eval e X.env) :: starEach es X.env := by rfl) (hpl : (backTo pos (starEach es X.env)).any (·.1) = false := by rfl) :
    PE X (.Call (.Name x p) (e :: es) [] pos) (tV B (callA (runD np N m) fa)) :=
  pe_imp (pe_callS F hr hg hm hk hb (E := fun σ cls d H => B.W cls d σ H) (fun σ => ar.passes hf σ) ha hdb he hpl) fun σ H Q ⟨ρ, O, S, h⟩ => ⟨ρ, O, S, h.bind.imp fun as ρ1 H1 P1 h xs hx => by
    have S1 := P1.st
    cases q : resA ρ1 as with
    | none => rw [q] at h; exact h.elim
    | some w =>
      obtain ⟨ds, b⟩ := w
      rw [q] at h
      dsimp only at h
      obtain ⟨r1, r2⟩ := res_ok S1 hx q
      rw [← hK, ← hM]
      cases q2 : runD np N m ds with
      | bad => rw [q2] at h; exact h.elim
      | exc n ρ' =>
        rw [q2] at h
        refine sp_of r1 (fun a z => S1.trk a z.1) ?_
        rw [q2]
        exact fun H' C ex hC => h H' C (Ps.ext S1 ex) hC
      | ok d ρ' =>
        rw [q2] at h
        dsimp only at h
        cases b with
        | false =>
          refine sp_of (r2 rfl) S1.trk ?_
          rw [q2]
          exact fun H' v ex hv _ => h H' (Ps.ext S1 ex) v hv
        | true =>
          simp only [Bool.not_true, Bool.false_or] at h
          cases hl : d.lf with
          | false => rw [hl] at h; exact h.elim
          | true =>
            rw [hl] at h
            refine sp_of r1 (fun a z => S1.trk a z.1) ?_
            rw [q2]
            exact fun H' v ex hv _ => h H' (Ps.ext S1 ex) v (Rep.lf (fun a q => let ⟨vs, z⟩ := S1.trk a q; ⟨vs, ex a _ z⟩) hl hv)⟩
/-- a call that gives a new list of atoms -/
def D.atom : D → Bool
  | .non => true
  | .bl _ => true
  | .int _ => true
  | .str _ => true
  | _ => false
def callN (F : List D → Rs D) (fa : Cm (List D)) : Cm (List D) := bnd fa fun ds => fun ρ => match F ds with
  | .ok (.lst es) _ => if es.all D.atom then .ok es ρ else .bad
  | .exc n _ => .exc n ρ
  | _ => .bad
theorem atoms_rep {K : PySem.W.Frag} {O O' : Addr → Prop} {H H' : Hp} : ∀ {ds : List D} {vs : List V}, ds.all D.atom = true → RepA K O H ds vs → RepA K O' H' ds vs
  | _, _, _, .nil => .nil
  | d :: ds, _, h, .cons r rs => by
    rw [List.all_cons, Bool.and_eq_true] at h
    refine .cons ?_ (atoms_rep h.2 rs)
    cases r <;> first | exact .non | exact .bl _ | exact .int _ | exact .str _ | (have := h.1; cases this)
theorem pf_call {fa : Cm (List D)} (F : FnOk X.prog X.w X.K X.mg X.base (L2.CX X.prog X.w) k f fd ps (spF X.K X.mg np N true m)) (hK : B.K = X.K) (hM : B.mg = X.mg) (hr : Room k X.A) (hg : Gl X x) (hm : X.mg x = some (.ref f)) (hk : PySem.W.keepIn X.K (.ref f) = true) (hb : Binds X.K fd ps [])
    (ar : Air X B.W) (hf : X.env.frame = some L) (ha : PA X (e :: es) (tA B fa)) (hdb : (x == ("__debug__" : Str)) = false := by decide) (he : starEach (e :: es) X.env = (false, eval e X.env) :: starEach es X.env := by rfl) (hpl : (backTo pos (starEach es X.env)).any (·.1) = false := by rfl) :
    PE X (.Call (.Name x p) (e :: es) [] pos) (tF B (callN (runD np N m) fa)) :=
  pe_imp (pe_callS F hr hg hm hk hb (E := fun σ cls d H => B.W cls d σ H) (fun σ => ar.passes hf σ) ha hdb he hpl) fun σ H Q ⟨ρ, O, S, h⟩ => ⟨ρ, O, S, h.bind.imp fun ds ρ1 H1 P1 h xs hx => by
    have S1 := P1.st
    rw [← hK, ← hM]
    refine sp_of hx S1.trk ?_
    cases q2 : runD np N m ds with
    | bad => rw [q2] at h; exact h.elim
    | exc n ρ' =>
      rw [q2] at h
      exact fun H' C ex hC => h H' C (Ps.ext S1 ex) hC
    | ok d ρ' =>
      rw [q2] at h
      cases d <;> first | exact h.elim | skip
      rename_i es0
      dsimp only at h
      split at h
      · rename_i hat
        intro H' v ex hv hfr
        cases hv with
        | lst hl r =>
          rename_i p xs
          have hp : H1 p = none := hfr rfl p rfl
          have ex2 : Ext H1 (wout H' p) := fun a o e => by
            rw [wout_ne (fun z => by rw [z, hp] at e; cases e)]
            exact ex a o e
          have z := h (wout H' p) (Ps.ext S1 ex2) p _ (if_pos rfl) (atoms_rep hat r)
          rwa [wout_upd hl.2] at z
      · exact h.elim⟩
/-- a call with an own list lent -/
def runL (np N : Nat) (m : Cm Fl) (es ds : List D) : Rs (D × List D) := if ds.length + 1 = np then (match m (Sl.ow es :: ds.map Sl.im ++ List.replicate (N - np) .un) with
  | .ok f ρ' => match flD f, slotL ρ' 0 with
    | some d, some es' => .ok (d, es') []
    | _, _ => .bad
  | _ => .bad) else .bad
def callL (G : List D → List D → Rs (D × List D)) (k : Nat) (fa : Cm (List D)) : Cm D := bnd (V3.own k) fun _ => bnd fa fun ds => fun ρ => match slotL ρ k with
  | none => .bad
  | some es => match G es ds with
    | .ok (d, es') _ => .ok d (ρ.set k (.ow es'))
    | _ => .bad
theorem own_invE {α : Type} {O : Addr → Prop} {ρ : Ev} {σ : L2.St} {H : Hp} {k : Nat} {g : Cm α} {Q : α → Ev → Hp → Prop} (S : Stx B O ρ σ H) (h : Out B O ρ σ H (bnd (V3.own k) (fun _ => g) ρ) Q) : (∃ p, σ[k]? = some (some (.ref p))) ∧ Out B O ρ σ H (g ρ) Q := by
  unfold bnd V3.own at h
  cases e : slotL ρ k with
  | none => rw [e] at h; exact h.elim
  | some es =>
    rw [e] at h
    obtain ⟨p, _, _, h1, _⟩ := S.slotL e
    exact ⟨⟨p, h1⟩, h⟩
theorem pv_callL {y : Str} {p2 : Pos} {j : Nat} {fa : Cm (List D)} (F : FnOk X.prog X.w X.K X.mg X.base (L2.CX X.prog X.w) k f fd ps (spF X.K X.mg np N fr m)) (hK : B.K = X.K) (hM : B.mg = X.mg) (hr : Room k X.A) (hg : Gl X x) (hm : X.mg x = some (.ref f)) (hk : PySem.W.keepIn X.K (.ref f) = true) (hb : Binds X.K fd ps [])
    (ar : Air X B.W) (hf : X.env.frame = some L) (ho : PE X (.Name y p2) (tVar j)) (ha : PA X es (tA B fa)) (hdb : (x == ("__debug__" : Str)) = false := by decide) (he : starEach (.Name y p2 :: es) X.env = (false, eval (.Name y p2) X.env) :: starEach es X.env := by rfl) (hpl : (backTo pos (starEach es X.env)).any (·.1) = false := by rfl) :
    PE X (.Call (.Name x p) (.Name y p2 :: es) [] pos) (tV B (callL (runL np N m) j fa)) :=
  pe_imp (pe_callS F hr hg hm hk hb (E := fun σ cls d H => B.W cls d σ H) (fun σ => ar.passes hf σ) (pa_cons ho ha he) hdb he hpl) fun σ H Q ⟨ρ, O, S, h⟩ => by
    obtain ⟨⟨q, hq⟩, h⟩ := own_invE S h
    refine ⟨_, hq, ρ, O, S, h.bind.imp fun ds ρ1 H1 P1 h xs hx => ?_⟩
    have S1 := P1.st
    cases e1 : slotL ρ1 j with
    | none => rw [e1] at h; exact h.elim
    | some es0 =>
      rw [e1] at h
      dsimp only at h
      obtain ⟨p', vs, hown, h1, hO, hp, r⟩ := S1.slotL e1
      rw [hq] at h1
      cases h1
      rw [← hK, ← hM]
      unfold runL at h
      by_cases hl : ds.length + 1 = np
      case neg => rw [if_neg hl] at h; exact h.elim
      rw [if_pos hl] at h
      have mapS : (V.ref q :: xs).map some = some (V.ref q) :: xs.map some := rfl
      have onlyq : ∀ {i p}, OwnAt (.ow es0 :: ds.map Sl.im) ((V.ref q :: xs).map some) i p → i = 0 ∧ p = q := fun {i p} ⟨⟨ds', a⟩, b⟩ => by
        cases i with
        | zero => rw [mapS] at b; simp at b; exact ⟨rfl, b.symm⟩
        | succ i =>
          exfalso
          rw [List.getElem?_cons_succ, List.getElem?_map] at a
          cases z : ds[i]? with
          | none => rw [z] at a; cases a
          | some d => rw [z] at a; cases a
      refine ⟨by rw [List.length_cons, ← hx.length]; exact hl, .ow es0 :: ds.map Sl.im, O, by rw [List.length_cons, List.length_map]; exact hl, fun i s e => ?_, fun i i2 p a b => (onlyq a).1.trans (onlyq b).1.symm, S1.trk, ?_⟩
      · cases i with
        | zero =>
          simp at e
          subst e
          exact ⟨some (.ref q), rfl, q, vs, rfl, hO, hp, r⟩
        | succ i =>
          rw [List.getElem?_cons_succ, List.getElem?_map] at e
          cases z : ds[i]? with
          | none => rw [z] at e; cases e
          | some d =>
            rw [z] at e
            cases e
            obtain ⟨v, k1, k2⟩ := hx.get z
            refine ⟨some v, ?_, v, rfl, k2⟩
            rw [mapS, List.getElem?_cons_succ, List.getElem?_map, k1]; rfl
      · have lem : ∀ {H' : Hp} {es' : List D} {ρ' : Ev}, ρ'[0]? = some (Sl.ow es') → Chg (Own (.ow es0 :: ds.map Sl.im) ((V.ref q :: xs).map some)) H1 H' → LentOk B.K O (.ow es0 :: ds.map Sl.im) ((V.ref q :: xs).map some) ρ' H' → Ps B O ρ1 σ H1 (ρ1.set j (.ow es')) H' := fun {H' es' ρ'} e c lo => by
          obtain ⟨ds2, ws, k1, k2, k3⟩ := lo 0 q ⟨⟨es0, rfl⟩, rfl⟩
          rw [e] at k1
          cases k1
          exact S1.updOwn hown (c.sub fun a ⟨i, z⟩ => (onlyq z).2) k2 k3
        unfold EndF
        cases q1 : m (Sl.ow es0 :: ds.map Sl.im ++ List.replicate (N - np) .un) with
        | bad => rw [q1] at h; exact h.elim
        | exc n ρ' => rw [q1] at h; exact h.elim
        | ok fl ρ' =>
          rw [q1] at h
          dsimp only at h ⊢
          cases q2 : flD fl with
          | none => rw [q2] at h; exact h.elim
          | some d =>
            rw [q2] at h
            dsimp only at h ⊢
            cases q3 : slotL ρ' 0 with
            | none => rw [q3] at h; exact h.elim
            | some es' =>
              rw [q3] at h
              have q4 : ρ'[0]? = some (Sl.ow es') := by
                unfold slotL at q3
                split at q3
                · rename_i e; cases q3; exact e
                · cases q3
              exact fun H' v c lo hv _ => h H' (lem q4 c lo) v hv
end
end V3
end

section
set_option Elab.async false
set_option linter.all false
set_option maxRecDepth 100000
set_option maxHeartbeats 1000000
/-! V3k: one of several defs; an except clause that tells one text; globals. -/
namespace V3
open PySem PySem.Spec PyProof.Rows L2

/-! ### a def held by a name -/
section
variable {X : Cx} {B : Bd} {k i : Nat} {x : Str} {p pos : Pos} {e : Expr} {es : List Expr} {t : TA} {E : L2.St → XK}
structure HeldV (X : Cx) (k : Nat) (f : Addr) (sp : Sp) : Prop where
  ex : ∃ (fd : FuncData) (ps : List Str), FnOk X.prog X.w X.K X.mg X.base (L2.CX X.prog X.w) k f fd ps sp ∧ PySem.W.keepIn X.K (.ref f) = true ∧ Binds X.K fd ps []
theorem pe_pick {S : Nat → Option (Addr × Sp)} (A : ∀ n f sp, S n = some (f, sp) → HeldV X k f sp) (hr : Room k X.A) (hN : X.N[i]? = some x) (hv : Vis X.env.scope x) (hx : ∀ σ, PassesAt (L2.CX X.prog X.w) X σ (E σ)) (ha : PA X (e :: es) t)
    (hdb : (x == ("__debug__" : Str)) = false := by decide) (hcd : (x == ("__classdict__" : Str)) = false := by decide)
    (he : starEach (e :: es) X.env = (false, eval e X.env) :: starEach es X.env := by rfl) (hpl : (backTo pos (starEach es X.env)).any (·.1) = false := by rfl) :
    PE X (.Call (.Name x p) (e :: es) [] pos) (fun σ H Q => ∃ n f sp, S n = some (f, sp) ∧ σ[i]? = some (some (.ref f)) ∧ t σ H fun vs H1 => sp vs H1 Q (E σ)) := by
  refine ⟨fun pins s σ H Q I h => ?_⟩
  obtain ⟨n, f, sp, hS, hs, ht⟩ := h
  obtain ⟨fd, ps, F, hk, hb⟩ := (A n f sp hS).ex
  refine wpAny_Call_Name_kw (thn ((pe_var (pos := p) hN hv hdb hcd).run pins s σ H (fun v H1 => v = .ref f ∧ H1 = H) I ⟨.ref f, hs, rfl, rfl⟩) fun u s1 ⟨v, H1, I1, r1, q1⟩ => ?_)
  obtain ⟨rfl, rfl⟩ := q1
  cases r1
  refine PySem.W.callWith_K (h₀ := X.base) I.ok.mod.kin hk (thn (ha.run pos pins s1 σ _ _ I1 ht) fun us s2 ⟨vs, H2, I2, r, q⟩ => ⟨I2.kIn, ?_⟩) he hpl
  exact run_fnS F hr hb (hx σ) I2 r q
end
/-- x = [f, g, ..][j] ; y = x(a) -/
def pick2 (j : Nat) (F : List D → Rs D) (ds : List D) : Cm Fl := fun ρ => match F ds with
  | .ok d _ => bnd (setI j d) (fun _ => ret .nx) ρ
  | .exc m _ => .exc m ρ
  | .bad => .bad
def pick1 (Fs : List (List D → Rs D)) (i j : Nat) (fa : Cm (List D)) (n : Int) : Cm Fl := fun ρ => match ρ[i]?, Fs[n.toNat]? with
  | some .un, some F => if 0 ≤ n then bnd fa (pick2 j F) ρ else .bad
  | _, _ => .bad
def pickS (Fs : List (List D → Rs D)) (i j : Nat) (fk : Cm D) (fa : Cm (List D)) : Cm Fl := bnd fk fun d => bnd (lift (dInt d)) (pick1 Fs i j fa)
theorem thenS_bnd {α : Type} {f : Cm α} {g : α → Cm Fl} {t : Cm Fl} {ρ : Ev} : thenS (bnd f g) t ρ = bnd f (fun a => thenS (g a) t) ρ := by
  unfold thenS bnd
  cases f ρ <;> rfl
theorem thenS_congr {f g t : Cm Fl} {ρ : Ev} (h : f ρ = g ρ) : thenS f t ρ = thenS g t ρ := by
  unfold thenS
  show bnd f _ ρ = bnd g _ ρ
  unfold bnd
  rw [h]
/-- what the picked def does -/
structure Pk where
  f : Addr
  np : Nat
  N : Nat
  m : Cm Fl
def Pk.run (q : Pk) : List D → Rs D := runD q.np q.N q.m
section
variable {X : Cx} {B : Bd} {k i j : Nat} {x y : Str} {p p2 p3 p4 p5 p6 pos pos2 : Pos} {e ix : Expr} {fns : List Expr} {fk : Cm D} {fa : Cm (List D)} {L : Addr} {pks : List Pk} {rest : List Stmt} {tr : Cm Fl}
theorem ss_pick (A : ∀ (n : Nat) (q : Pk), pks[n]? = some q → HeldV X k q.f (spF X.K X.mg q.np q.N false q.m)) (hK : B.K = X.K) (hM : B.mg = X.mg) (hr : Room k X.A) (ar : Air X B.W) (hfr : X.env.frame = some L) (hND : X.N.Nodup)
    (hN : X.N[i]? = some x) (hx : Loc X.env.scope x) (hv : Vis X.env.scope x) (hNj : X.N[j]? = some y) (hy : Loc X.env.scope y) (hij : i ≠ j)
    (hl : PA X fns (fun _ H Q => Q (pks.map fun q : Pk => V.ref q.f) H)) (hn : pks.length ≤ sizeLine) (hk : PE X ix (tV B fk)) (ha : PA X [e] (tA B fa))
    (hpix : PlainIx ix := by intro _ _; rfl)
    (hs1 : swapsWith (.Subscript (.List fns p3) ix p4) (some (.Name x p)) pos.line X.env = pure false := by rfl) (hs2 : swapsWith (.Call (.Name x p5) [e] [] p2) (some (.Name y p6)) pos2.line X.env = pure false := by rfl)
    (hf1 : X.fn x = true ∨ X.env.scope.names.lookup x = some .local := by first | exact .inl rfl | exact .inr rfl | assumption) (hf2 : X.fn y = true ∨ X.env.scope.names.lookup y = some .local := by first | exact .inl rfl | exact .inr rfl | assumption)
    (hdb : (x == ("__debug__" : Str)) = false := by decide) (hcd : (x == ("__classdict__" : Str)) = false := by decide)
    (he : starEach [e] X.env = (false, eval e X.env) :: starEach [] X.env := by rfl) (hpl : (backTo p2 (starEach [] X.env)).any (·.1) = false := by rfl)
    (hrest : PSs X rest (tS B tr)) :
    PSs X (.Assign [.Name x p] (.Subscript (.List fns p3) ix p4) pos :: .Assign [.Name y p6] (.Call (.Name x p5) [e] [] p2) pos2 :: rest) (tS B (thenS (pickS (pks.map Pk.run) i j fk fa) tr)) := by
  have s1 : PS X (.Assign [.Name x p] (.Subscript (.List fns p3) ix p4) pos) _ := ps_set (i := i) hND hN hx (pe_ix ix_all (pe_lst hl) hk hpix) hs1 hf1
  have s2 : PS X (.Assign [.Name y p6] (.Call (.Name x p5) [e] [] p2) pos2) _ := ps_set (i := j) hND hNj hy (pe_pick (S := fun n : Nat => (pks[n]?).map fun q : Pk => (q.f, spF X.K X.mg q.np q.N false q.m)) (k := k) (E := fun σ cls d H => B.W cls d σ H) (fun n f sp h => by
    cases q : pks[n]? with
    | none => rw [q] at h; cases h
    | some z => rw [q] at h; cases h; exact A n z q) hr hN hv (fun σ => ar.passes hfr σ) ha hdb hcd he hpl) hs2 hf2
  refine pss_imp (pss_cons s1 (pss_cons s2 hrest)) fun En σ H ⟨ρ, O, S, h⟩ => ?_
  refine ⟨by rw [List.length_map]; exact hn, fun pl hpl => ?_⟩
  have exL : Ext H (upd H pl (.lst (pks.map fun q : Pk => V.ref q.f))) := ext_upd hpl
  have PL := Ps.ext S exL
  refine ⟨ρ, O, PL.st, ?_⟩
  have h := h.from (Pst.of S PL)
  unfold pickS at h
  rw [thenS_bnd] at h
  refine (OutS.bindE PL.st h).imp fun d ρ1 H1 P1 h v hv => ?_
  rw [thenS_bnd] at h
  obtain ⟨n, en, h2⟩ := int_lift h
  clear h
  subst en
  cases hv
  have plO : ¬ O pl := fun z => by obtain ⟨ws, e⟩ := S.trk pl z; rw [hpl] at e; cases e
  have H1pl : H1 pl = some (.lst (pks.map fun q : Pk => V.ref q.f)) := P1.chg _ _ upd_same fun z => plO (PL.st.ownO _ z)
  have nb : pick1 (pks.map Pk.run) i j fa n ρ1 ≠ .bad := fun z => by
    unfold thenS bnd at h2
    rw [z] at h2
    exact h2
  unfold pick1 at nb
  cases e1 : ρ1[i]? with
  | none => rw [e1] at nb; exact absurd rfl nb
  | some sl =>
    cases sl with
    | im _ => rw [e1] at nb; exact absurd rfl nb
    | ow _ => rw [e1] at nb; exact absurd rfl nb
    | un =>
      rw [e1, List.getElem?_map] at nb
      cases e2 : pks[n.toNat]? with
      | none => rw [e2] at nb; exact absurd rfl nb
      | some q =>
        rw [e2] at nb
        dsimp only [Option.map_some] at nb
        by_cases hn0 : 0 ≤ n
        case neg => rw [if_neg hn0] at nb; exact absurd rfl nb
        have hlt : n.toNat < pks.length := (List.getElem?_eq_some_iff.mp e2).1
        have eq1 : pick1 (pks.map Pk.run) i j fa n ρ1 = bnd fa (pick2 j q.run) ρ1 := by
          unfold pick1
          rw [e1, List.getElem?_map, e2]
          dsimp only [Option.map_some]
          rw [if_pos hn0]
        have eq2 : thenS (pick1 (pks.map Pk.run) i j fa n) tr ρ1 = thenS (bnd fa (pick2 j q.run)) tr ρ1 := by
          exact thenS_congr eq1
        rw [eq2, thenS_bnd] at h2
        have hat : atI (pks.map fun q : Pk => V.ref q.f) n = some (.ref q.f) := by
          unfold atI ixN
          rw [List.length_map, if_pos hn0, if_pos (by omega)]
          show (pks.map fun q : Pk => V.ref q.f)[n.toNat]? = _
          rw [List.getElem?_map, e2]; rfl
        refine .inl (.inl ⟨pl, _, n, .ref q.f, rfl, rfl, .inl (.inl H1pl), hat, ?_⟩)
        have hil : i < σ.length := by rw [← P1.st.len]; exact (List.getElem?_eq_some_iff.mp e1).1
        have S1 : Stx B O ρ1 (σ.set i (some (.ref q.f))) H1 := P1.st.agr List.length_set fun j0 => by
          by_cases z : i = j0
          · subst z; exact .inr e1
          · exact .inl (List.getElem?_set_ne z)
        refine ⟨n.toNat, q.f, _, by rw [e2]; rfl, List.getElem?_set_self hil, ρ1, O, S1, ?_⟩
        refine (OutS.bindE S1 h2).imp fun ds ρ2 H2 P2 h xs hx => ?_
        have S2 := P2.st
        rw [← hK, ← hM]
        refine sp_of hx S2.trk ?_
        cases q2 : runD q.np q.N q.m ds with
        | bad =>
          unfold thenS bnd pick2 at h
          rw [show q.run ds = .bad from q2] at h
          exact h.elim
        | exc m ρ' =>
          unfold thenS bnd pick2 at h
          rw [show q.run ds = .exc m ρ' from q2] at h
          exact fun H' C ex hC => h _ H' O C (Pst.of S2 (Ps.ext S2 ex)) hC
        | ok d ρ' =>
          have eq3 : thenS (pick2 j q.run ds) tr ρ2 = thenS (bnd (setI j d) fun _ => ret .nx) tr ρ2 := by
            unfold thenS bnd pick2
            rw [show q.run ds = .ok d ρ' from q2]
            rfl
          rw [eq3, thenS_bnd] at h
          intro H3 v ex hv _
          have h := h.from (Pst.of S2 (Ps.ext S2 ex))
          obtain ⟨hl3, hn3, h⟩ := setI_inv h
          exact ⟨_, O, (S2.ext ex).setI hl3 hn3 hv, h⟩
end

/-! ### an except clause that tells one text -/
def tryC (n : Str) (i : Nat) (x : Str) (b : Cm Fl) : Cm Fl := fun ρ => match b ρ with
  | .exc m ρ' => if m = n then (match ρ'[i]? with
    | some .un => .ok (.rt (.str x)) ρ'
    | _ => .bad) else .bad
  | r => r
section
variable {X : Cx} {B : Bd} {n x nm cn : Str} {c : Value} {C : Addr} {i : Nat} {body suite : List Stmt} {b₀ : Stmt} {np pos pos' : Pos} {b : Cm Fl}
theorem sv_tryC (hs : X.stack = X.env :: X.outer) (hf : X.env.frame = some X.env.locals) (hN : X.N.Nodup) (hi : X.N[i]? = some nm) (hln : X.env.kindOf nm = some .local) (hc : Names X cn c) (tk : Takes X B.W)
    (hM : B.mg n = some (.ref C)) (hex : PySem.W.exmOne X.K (.ref C) c = some true)
    (hb : ∀ (W : WX) (pn : List (Addr × Obj)) (xe : Value → Shared → Prop), Takes (X.tr pn xe) W → PassesOwn (model X.prog X.w) X.A X.env xe → PSs (X.tr pn xe) body (tS (B.at W) b))
    (hsu : ∀ (a : Addr) (oe : Obj) (pn : List (Addr × Obj)), Zc (.ref C) none oe → (∃ vs, oe.data = .fields vs) → PSs (X.suite a ((a, oe) :: pn)) (b₀ :: suite) (fun D σ H => σ[i]? = some (some (.ref a)) ∧ ∀ H', Ext H H' → D.rt (.str x) H')) :
    PS X (.Try body [.ExceptHandler (some (.Name cn np)) (some nm) (b₀ :: suite) pos'] [] [] pos) (tS B (tryC n i x b)) := by
  refine ps_imp (ps_try_as (ts := fun a cls d D σ H => cls = .ref C ∧ d = none ∧ σ[i]? = some (some (.ref a)) ∧ ∀ H', Ext H H' → D.rt (.str x) H') hs hf hN hi hln hc tk hb fun a oe cls d pn hz hd => ⟨fun pins s σ H D I ⟨e1, e2, h⟩ => ?_⟩) fun En σ H ⟨ρ, O, S, h⟩ => ?_
  · subst e1 e2
    exact (hsu a oe pn hz hd).run pins s σ H D I h
  · refine ⟨ρ, O, S.at, ?_⟩
    unfold tryC at h
    cases q : b ρ with
    | bad => rw [q] at h; exact h.elim
    | ok f ρ' =>
      rw [q] at h
      cases f with
      | nx => exact fun σ' H' O' P => h σ' H' O' ⟨P.st.un, P.sub, P.new, P.chg⟩
      | bk => exact fun σ' H' O' P => h σ' H' O' ⟨P.st.un, P.sub, P.new, P.chg⟩
      | ct => exact fun σ' H' O' P => h σ' H' O' ⟨P.st.un, P.sub, P.new, P.chg⟩
      | rt d => exact fun σ' H' O' v P => h σ' H' O' v ⟨P.st.un, P.sub, P.new, P.chg⟩
    | exc m ρ' =>
      rw [q] at h
      dsimp only at h
      by_cases hm : m = n
      case neg => rw [if_neg hm] at h; exact h.elim
      rw [if_pos hm] at h
      subst hm
      split at h
      · rename_i hun
        intro σ' H' O' C' P hC
        have hC : B.mg m = some (.ref C') := hC
        rw [hM] at hC
        cases hC
        have hl : i < σ'.length := by rw [← P.st.len]; exact (List.getElem?_eq_some_iff.mp hun).1
        exact ⟨true, hex, fun _ a ha => ⟨rfl, rfl, List.getElem?_set_self hl, fun H9 ex => h σ' H9 O' (.str x) (Pst.trans ⟨P.st.un, P.sub, P.new, P.chg⟩ (Pst.of P.st.un (Ps.ext P.st.un ex))) (.str x) fun _ p e => by cases e⟩, fun z => by cases z⟩
      · exact h.elim
end
end V3
end

section
set_option Elab.async false
set_option linter.all false
set_option maxRecDepth 100000
set_option maxHeartbeats 1000000
/-! V3l: what the printed derivations use. -/
namespace V3
open PySem PySem.Spec PyProof.Rows L2

section
variable {P : Program} {w : World} {K : PySem.W.Frag} {mg : Str → Option Value} {base : Heap} {N : List Str} {qual : Str} {scope : Scope} {f : Addr} {cd : Value} {A : Around} {outer : List PySem.Env} {s : Shared} {H : Hp} {E : XK}
theorem air_cx : Air (cxOf (L2.CX P w) P w K mg base N qual scope f cd A outer s H E) (fun cls d _ H' => E cls d H') := air_of rfl (L2.takes_of rfl rfl rfl rfl)
theorem tk_cx : Takes (cxOf (L2.CX P w) P w K mg base N qual scope f cd A outer s H E) (fun cls d _ H' => E cls d H') := L2.takes_of rfl rfl rfl rfl
theorem pas_cx : PassesOwn (model P w) (A.deeper (envOfC qual scope s.heap.objs.size f cd)) (envOfC qual scope s.heap.objs.size f cd) (cxOf (L2.CX P w) P w K mg base N qual scope f cd A outer s H E).xe := L2.passes_of (X := cxOf (L2.CX P w) P w K mg base N qual scope f cd A outer s H E) rfl
theorem frm_cx : Frm (cxOf (L2.CX P w) P w K mg base N qual scope f cd A outer s H E) s.heap.objs.size := ⟨rfl, _, _, rfl, rfl⟩
end
theorem air_no {X : Cx} : Air X NW := fun u z ⟨_, _, _, _, _, _, _, _, _, _, _, _, _, _, _, _, _, _, h⟩ => h.elim
theorem air_tr {X : Cx} {W : WX} {pn : List (Addr × Obj)} {xe : Value → Shared → Prop} (hf : X.env.frame = some X.env.locals) (tk : Takes (X.tr pn xe) W) : Air (X.tr pn xe) W := air_of hf tk
theorem u65 {k : Nat} {A : Around} (r : Room k A) : A.units + 65 < cLine := by have := r.un; omega

/-- a def that keeps its promise, under its name -/
structure FD (P : Program) (w : World) (K : PySem.W.Frag) (mg : Str → Option Value) (base : Heap) (k : Nat) (x : Str) (sp : Sp) : Prop where
  ex : ∃ (f : Addr) (fd : FuncData) (ps : List Str), FnOk P w K mg base (L2.CX P w) k f fd ps sp ∧ mg x = some (.ref f) ∧ PySem.W.keepIn K (.ref f) = true ∧ Binds K fd ps []
theorem fd_mk {P : Program} {w : World} {K : PySem.W.Frag} {mg : Str → Option Value} {base : Heap} {k : Nat} {x : Str} {st : Stmt} {f : Addr} {fd : FuncData} {ps : List Str} {sp : Sp} (d : Fun K x x st f fd) (hm : mg x = some (.ref f)) (b : Binds K fd ps []) (F : FnOk P w K mg base (L2.CX P w) k f fd ps sp) : FD P w K mg base k x sp :=
  ⟨f, fd, ps, F, hm, d.kp, b⟩
section
variable {X : Cx} {B : Bd} {k np N : Nat} {fr : Bool} {m : Cm Fl} {x : Str} {p pos : Pos} {e : Expr} {es : List Expr} {L : Addr}
theorem cv {fa : Cm (List Ar)} (F : FD X.prog X.w X.K X.mg X.base k x (spF X.K X.mg np N fr m)) (hr : Room k X.A) (hK : B.K = X.K) (hM : B.mg = X.mg) (hg : Gl X x) 
    (ar : Air X B.W) (hf : X.env.frame = some L) (ha : PA X (e :: es) (tG B fa)) (hdb : (x == ("__debug__" : Str)) = false := by decide) (he : starEach (e :: es) X.env = (false, eval e X.env) :: starEach es X.env := by rfl) (hpl : (backTo pos (starEach es X.env)).any (·.1) = false := by rfl) :
    PE X (.Call (.Name x p) (e :: es) [] pos) (tV B (callA (runD np N m) fa)) := by
  obtain ⟨f, fd, ps, F, hm, hk, hb⟩ := F.ex
  exact pv_call F hK hM hr hg hm hk hb ar hf ha hdb he hpl
theorem cf {fa : Cm (List D)} (F : FD X.prog X.w X.K X.mg X.base k x (spF X.K X.mg np N true m)) (hr : Room k X.A) (hK : B.K = X.K) (hM : B.mg = X.mg) (hg : Gl X x)
    (ar : Air X B.W) (hf : X.env.frame = some L) (ha : PA X (e :: es) (tA B fa)) (hdb : (x == ("__debug__" : Str)) = false := by decide) (he : starEach (e :: es) X.env = (false, eval e X.env) :: starEach es X.env := by rfl) (hpl : (backTo pos (starEach es X.env)).any (·.1) = false := by rfl) :
    PE X (.Call (.Name x p) (e :: es) [] pos) (tF B (callN (runD np N m) fa)) := by
  obtain ⟨f, fd, ps, F, hm, hk, hb⟩ := F.ex
  exact pf_call F hK hM hr hg hm hk hb ar hf ha hdb he hpl
theorem cl {fa : Cm (List D)} {y : Str} {p2 : Pos} {j : Nat} (F : FD X.prog X.w X.K X.mg X.base k x (spF X.K X.mg np N fr m)) (hr : Room k X.A) (hK : B.K = X.K) (hM : B.mg = X.mg) (hg : Gl X x)
    (ar : Air X B.W) (hf : X.env.frame = some L) (ho : PE X (.Name y p2) (tVar j)) (ha : PA X es (tA B fa)) (hdb : (x == ("__debug__" : Str)) = false := by decide) (he : starEach (.Name y p2 :: es) X.env = (false, eval (.Name y p2) X.env) :: starEach es X.env := by rfl) (hpl : (backTo pos (starEach es X.env)).any (·.1) = false := by rfl) :
    PE X (.Call (.Name x p) (.Name y p2 :: es) [] pos) (tV B (callL (runL np N m) j fa)) := by
  obtain ⟨f, fd, ps, F, hm, hk, hb⟩ := F.ex
  exact pv_callL F hK hM hr hg hm hk hb ar hf ho ha hdb he hpl
open Classical in
/-- list(range(n)) -/
noncomputable def lrgD : D → Option (List D)
  | .int n => if -(2 ^ 62) ≤ n ∧ n < 2 ^ 62 ∧ n.toNat ≤ 2 ^ 24 then some (intsD 0 n.toNat) else none
  | _ => none
noncomputable def lrgF (fa : Cm D) : Cm (List D) := bnd fa fun d => lift (lrgD d)
theorem rep_ints {K : PySem.W.Frag} {O : Addr → Prop} {H : Hp} {lo : Int} : ∀ (l : List Nat), RepA K O H (l.map fun i : Nat => D.int (lo + (i : Int))) (l.map fun i : Nat => V.int (lo + (i : Int)))
  | [] => .nil
  | _ :: l => .cons (.int _) (rep_ints l)
theorem pf_lrg {a : Expr} {fa : Cm D} {p2 pos2 : Pos} (hc : X.calm = true) (hg : Gl X "list") (hm : X.mg "list" = none) (hg2 : Gl X "range") (hm2 : X.mg "range" = none) (ha : PE X a (tV B fa)) (na : starEach [a] X.env = (false, eval a X.env) :: starEach [] X.env := by rfl) (na2 : starEach [.Call (.Name "range" p2) [a] [] pos2] X.env = (false, eval (.Call (.Name "range" p2) [a] [] pos2) X.env) :: starEach [] X.env := by rfl) :
    PE X (.Call (.Name "list" p) [.Call (.Name "range" p2) [a] [] pos2] [] pos) (tF B (lrgF fa)) :=
  pe_imp (pe_listRg hc hg hm (prg_1 hg2 hm2 ha na) na2) fun σ H Q ⟨ρ, O, S, h⟩ => ⟨ρ, O, S, h.bind.imp fun d ρ1 H1 P1 h v hv => by
    obtain ⟨z, hz, h9⟩ := h.lift
    cases hv <;> first | (cases hz; done) | skip
    rename_i n
    unfold lrgD at hz
    dsimp only at hz
    split at hz
    · rename_i hn
      cases hz
      refine ⟨n, rfl, ⟨by decide, by decide, hn.1, hn.2.1, by rw [Int.sub_zero]; exact hn.2.2⟩, fun q hq => h9 H1 (Ps.refl P1.st) q _ hq ?_⟩
      unfold rgV intsD
      rw [Int.sub_zero]
      exact rep_ints _
    · cases hz⟩
end
end V3
end

section
set_option Elab.async false
set_option linter.all false
set_option maxRecDepth 100000
set_option maxHeartbeats 1000000
/-! V3m: own error classes, the built-ins' names. -/
namespace PySem
theorem boot_len' : bootBuiltins "len" = some (.builtin "len") := by decide +kernel
theorem boot_abs' : bootBuiltins "abs" = some (.builtin "abs") := by decide +kernel
theorem boot_max' : bootBuiltins "max" = some (.builtin "max") := by decide +kernel
theorem boot_min' : bootBuiltins "min" = some (.builtin "min") := by decide +kernel
theorem boot_all' : bootBuiltins "all" = some (.builtin "all") := by decide +kernel
theorem boot_sum' : bootBuiltins "sum" = some (.builtin "sum") := by decide +kernel
theorem boot_int' : bootBuiltins "int" = some (.type "int") := by decide +kernel
theorem boot_str' : bootBuiltins "str" = some (.type "str") := by decide +kernel
theorem boot_list' : bootBuiltins "list" = some (.type "list") := by decide +kernel
theorem boot_tuple' : bootBuiltins "tuple" = some (.type "tuple") := by decide +kernel
theorem boot_isinstance'' : bootBuiltins "isinstance" = some (.builtin "isinstance") := by decide +kernel
theorem boot_bool' : bootBuiltins "bool" = some (.type "bool") := by decide +kernel
theorem boot_ValueError' : bootBuiltins "ValueError" = some (.type "ValueError") := by decide +kernel
end PySem
namespace V3
open PySem PySem.Spec PyProof.Rows L2
/-- the bases that an own error's class ends in -/
abbrev bmVE : List Value := [Value.type "ValueError", Value.type "Exception", Value.type "BaseException", Value.type "object"]
/-- what the text says of an own error's class -/
structure ExcT (K : PySem.W.Frag) (mg : Str → Option Value) (x : Str) : Prop where
  ex : ∃ C : Addr, mg x = some (.ref C) ∧ PySem.W.keepIn K (.ref C) = true ∧ PySem.W.excIn K C bmVE "ValueError.__new__" = true ∧ PySem.W.subIn K (.ref C) (.type "BaseException") = some true ∧ PySem.W.typeIn K (.ref C) = some (.type "type")
theorem sv_raiseC {X : Cx} {B : Bd} {x m : Str} {j : Nat} {p p2 pos pos2 : Pos} (hc : X.calm = true) (tk : Takes X B.W) (hM : B.mg = X.mg) (hg : Gl X x) (T : ExcT X.K X.mg x) (hdb : (x == ("__debug__" : Str)) = false := by decide) :
    PS X (.Raise (some (.Call (.Name x p) [.Constant (.str m) j p2] [] pos)) none pos2) (tS B (raiseS x)) := by
  obtain ⟨C, h1, h2, h3, h4, h5⟩ := T.ex
  refine sv_raise (W := B.W) hc tk (pmk_own PySem.F.excBase_ValueError h3 h1 h2 (raises_own h4 h5) hg hdb) fun σ H Q h => h C (by rw [hM]; exact h1)
section
variable {X : Cx} {B : Bd} {elt tg iter : Expr} {ifs : List Expr} {scope : Scope} {own : List (Str × Nat)} {vs : List Nat} {pos spos py : Pos} {y : Str} {i : Nat} {src : Cm (List D)} {s : D → Cm Unit} {tt : Cm Bool} {el : Cm D} {L : Addr}
/-- name = [..] -/
theorem sv_asgLc (hy : X.N[i]? = some y) (loc : X.env.scope.names.lookup y = some .local) (sw : swapsWith (.ListComp elt [⟨tg, iter, ifs, 0⟩] scope pos) (some (.Name y py)) spos.line X.env = pure true) (fm : Frm X L) (ar : Air X B.W) (calm : X.calm = true) (nd : X.N.Nodup) (pi : PI X tg iter (tI B src)) (ok : BlkOk X.N X.env.scope scope own) (hv : own.map (·.2) = vs)
    (pg : ∀ (s' : Shared) (H : Hp) (C : Addr) (cl : List (Str × Addr)) (fp : List Addr) (E : XK), PG (blkE X s' H scope (compEnvC scope cl C X.env) fp E) tg (tGt B vs s))
    (pt : ∀ (s' : Shared) (H : Hp) (C : Addr) (cl : List (Str × Addr)) (fp : List Addr) (E : XK), PTs (blkE X s' H scope (compEnvC scope cl C X.env) fp E) ifs (tT (B.at NW) tt))
    (pe : ∀ (s' : Shared) (H : Hp) (C : Addr) (cl : List (Str × Addr)) (fp : List Addr) (σ : L2.St), PE (blkE X s' H scope (compEnvC scope cl C X.env) fp fun cls d H' => B.W cls d σ H') elt (tV (B.at fun cls d _ H' => B.W cls d σ H') el)) (fold : ∀ x, foldedSetIterable iter X.env x = pure x := by intro _; rfl) :
    PS X (.Assign [.Name y py] (.ListComp elt [⟨tg, iter, ifs, 0⟩] scope pos) spos) (tS B (asgS i (lsE (lcE vs src s tt el)))) := by
  subst hv
  refine ps_imp (ps_lcx fm ar calm nd hy loc sw pi ok pg pt pe fold) fun En σ H ⟨ρ, O, S, h⟩ => ?_
  show tLc _ _ _ _ _ σ H fun x H1 => En.nx (σ.set i (some x)) H1
  refine lc_to ⟨ρ, O, S, ?_⟩
  have h2 : OutS B O H (bnd (lsE (lcE (own.map (·.2)) src s tt el)) (fun d => bnd (setI i d) fun _ => ret .nx) ρ) En := h
  refine (OutS.bindE S h2).bind.imp fun ds ρ1 H1 P1 h p vs hp r => ?_
  have ex : Ext H1 (upd H1 p (.lst vs)) := ext_upd hp
  have h := h _ (Ps.ext P1.st ex)
  obtain ⟨hl, hn, h⟩ := setI_inv h
  exact h _ _ O (Pst.refl ((P1.st.ext ex).setI hl hn (newL r (fun a q => let ⟨vs, e⟩ := P1.st.trk a q; ⟨_, e⟩) hp)))
end
theorem pe_gstr {X : Cx} {x y : Str} {pos : Pos} (hg : Gl X x) (hm : ∃ t, X.mg x = some (.str y t)) (hd : (x == ("__debug__" : Str)) = false := by decide) : PE X (.Name x pos) (tC (.str y)) := by
  obtain ⟨t, h⟩ := hm
  exact pe_glob hg h ⟨t, rfl⟩ hd
end V3
end

section
set_option Elab.async false
set_option linter.all false
set_option maxRecDepth 100000
set_option maxHeartbeats 1000000
/-! V3n: a def with defaults, all given; the except suite that tells an own error's class. -/
namespace V3
open PySem PySem.Spec PyProof.Rows L2

section
variable {P : Program} {w : World} {K : PySem.W.Frag} {mg : Str → Option Value} {base : Heap}
theorem fnVD {x qual : Str} {st : Stmt} {dvs : List V} {f : Addr} {fd : FuncData} {N ps : List Str} {k np : Nat} {fr : Bool} {m : Cm Fl} (F : FunD K x qual (defArgs st) (defBody st) (defScope st) dvs [] f fd) (S : FnScope N ps (defScope st)) (hp : ps.length = np)
    (hbody : ∀ (cdv : Value) (A : Around) (outer : List PySem.Env) (s : Shared) (H : Hp) (E : XK) (O : Addr → Prop) (ρ : Ev) (vs : List V), Room k (A.deeper (envOfC qual (defScope st) s.heap.objs.size f cdv)) →
      PSs (cxOf (L2.CX P w) P w K mg base N qual (defScope st) f cdv A outer s H E) (defBody st) (tS (bdOf K mg E H O ρ vs np fr) m)) : FnOk P w K mg base (L2.CX P w) (k + 1) f fd ps (spF K mg np N.length fr m) :=
  F.ok S (fun vs H Q E h => h.1.trans hp.symm) fun cdv A outer s H vs Q E hr hsp => by
    have hNp : np ≤ N.length := by
      have := congrArg List.length S.pre
      rw [List.length_take] at this
      omega
    obtain ⟨ρ, O, h⟩ := body_of (np := np) hNp hsp
    exact ⟨_, hbody cdv A outer s H E O ρ vs hr, h⟩
theorem fd_mkD {k : Nat} {x : Str} {st : Stmt} {dvs : List V} {f : Addr} {fd : FuncData} {ps : List Str} {sp : Sp} (d : FunD K x x (defArgs st) (defBody st) (defScope st) dvs [] f fd) (hm : mg x = some (.ref f)) (hd : dvs ≠ []) (n : Nat) (hn : n = ps.length)
    (h : ∀ (T : Addr) (kV doc pm : Value) (an : Option Addr) (cdv ct : Value) (us its : List Value), us.length = n → its.length = dvs.length →
      ∃ k, bindArgs (PySem.W.fnOf x x (defArgs st) (defBody st) (defScope st) (.ref T) kV doc pm an cdv ct) ⟨us, []⟩ = seqItems? (.ref T) >>= k ∧ k (some its.toArray) = pure (ps.zip (us ++ its.drop dvs.length)))
    (F : FnOk P w K mg base (L2.CX P w) k f fd ps sp) : FD P w K mg base k x sp := by
  obtain ⟨ds, v, b⟩ := d.binds1 (ps := ps) n dvs.length hd (by rw [hn]; omega) h
  rw [List.drop_length] at v
  cases v
  exact ⟨f, fd, ps, F, hm, d.kp, b⟩
theorem fun_mkD {x qual : Str} {st : Stmt} {f T : Addr} {oc : Value} {od an : Option Addr} {osl : Array (Option Value)} {kV doc pm cdv ct : Value} {o : Obj} {i : Int} {t : Tok} {n : Nat} (l : K.lookup f = some ⟨oc, od, .func (PySem.W.fnOf x qual (defArgs st) (defBody st) (defScope st) (.ref T) kV doc pm an cdv ct), osl⟩)
    (c : PySem.W.codeIn K cdv qual = true) (k : PySem.W.keepIn K (.ref f) = true) (lT : K.lookup T = some o) (oT : o.data = .seq [Value.int i t].toArray n) : FunD K x qual (defArgs st) (defBody st) (defScope st) [.int i] [] f (PySem.W.fnOf x qual (defArgs st) (defBody st) (defScope st) (.ref T) kV doc pm an cdv ct) :=
  ⟨⟨oc, od, .ref T, kV, doc, pm, an, cdv, ct, osl, rfl, l, c, .inr ⟨by simp, T, o, [Value.int i t], n, rfl, lT, oT, .cons ⟨t, rfl⟩ .nil⟩, .inl rfl⟩, k⟩
end

/-! ### isinstance of the error that a suite holds -/
section
variable {X : Cx} {a D0 : Addr} {oe : Obj} {pn : List (Addr × Obj)}
def rIsET (K : PySem.W.Frag) (D0 a : Addr) : List V → Hp → VK → Prop := fun xs H Q => ∃ (tp : Addr) (cs : List V) (us : List Value) (b : Bool), xs = [.ref a, .ref tp] ∧ H tp = some (.tup cs) ∧ Paired ClsV cs us ∧ PySem.W.kitAny K (.ref D0) us = some b ∧ Q (.bl b) H
theorem call_isET (C : ExcC X.K D0) (hz : Zc (.ref D0) none oe) (hf : ∃ vs, oe.data = .fields vs) : CallR (X.suite a ((a, oe) :: pn)) (.builtin "isinstance") (rIsET X.K D0 a) := by
  intro pins s σ H xs us Q I r h
  obtain ⟨tp, cs, ws, b, rfl, hT, k, e, q⟩ := h
  obtain ⟨u1, u2, rfl, r1, r2⟩ := vals2 r
  cases (show u2 = Value.ref tp from r2)
  cases (show u1 = Value.ref a from r1)
  obtain ⟨_, its, rv, o, h1, h2, n, h3⟩ := (show ObjOk X.prog X.w H s.heap tp (.tup cs) from I.hok tp _ hT)
  have e3 := ClsV.all k rv
  subst e3
  obtain ⟨oc, od, dt, sl⟩ := o
  simp only at h2 h3
  subst h2 h3
  obtain ⟨hget, _⟩ := I.pin (a, oe) (List.mem_append.mpr (.inl List.mem_cons_self))
  obtain ⟨vs, hv⟩ := hf
  have J : PySem.W.InstAt s.heap a oe D0 none := by
    obtain ⟨oc, od, oda, osl⟩ := oe
    obtain ⟨h1, h2⟩ := hz
    dsimp only at h1 h2 hv
    subst h1 h2 hv
    exact ⟨hget, rfl, rfl, trivial⟩
  exact PySem.W.kia_tup (PySem.W.handS_kitx_exc C.hg C.hk C.hs C.hd C.ha C.hn C.ht C.hm) I.kIn J h1 e (fun z => nomatch z) fun tk => ⟨.bl b, H, I.kept (t' := tk) fun _ _ z => z, rfl, q⟩
variable {i : Nat} {nm : Str} {p1 p2 p3 p4 p5 p6 p7 p8 p9 p10 p11 p12 p13 p14 p15 p16 p17 p18 p19 p20 p21 p22 : Pos}
def tIs (i : Nat) (a : Addr) (b : Bool) : TE := fun σ H Q => σ[i]? = some (some (.ref a)) ∧ ∀ H', Ext H H' → Q (.bl b) H'
theorem pe_isE1 (C : ExcC X.K D0) (hz : Zc (.ref D0) none oe) (hf : ∃ vs, oe.data = .fields vs) {c : Expr} {cv : V} {cu : Value} {b : Bool} (hN : X.N[i]? = some nm) (hv : Vis X.env.scope nm) (hg : Gl X "isinstance") (hm : X.mg "isinstance" = none) (hc : PE (X.suite a ((a, oe) :: pn)) c (tC cv)) (hcv : ClsV cv cu) (hk : PySem.W.kitOne X.K (.ref D0) cu = some b)
    (hd : (nm == ("__debug__" : Str)) = false) (hcd : (nm == ("__classdict__" : Str)) = false) (he : starEach [.Name nm p2, c] X.env = (false, eval (.Name nm p2) X.env) :: starEach [c] X.env) (he2 : starEach [c] X.env = (false, eval c X.env) :: starEach [] X.env) (hpl : (backTo p4 (starEach [c] X.env)).any (·.1) = false) :
    PE (X.suite a ((a, oe) :: pn)) (.Call (.Name "isinstance" p1) [.Name nm p2, c] [] p4) (tIs i a b) :=
  pe_imp (pe_callB (X := X.suite a ((a, oe) :: pn)) (call_isE C hz hf) hg hm PySem.boot_isinstance'' (pa_cons (pe_var (i := i) hN hv hd hcd) (pa_cons hc pa_nil he2) he) (by decide) (by decide) he hpl) fun σ H Q ⟨h1, h2⟩ =>
    ⟨_, h1, cv, cu, b, rfl, fun u r => hcv.eq r, hk, h2 H fun _ _ z => z⟩
theorem pe_isET1 (C : ExcC X.K D0) (hz : Zc (.ref D0) none oe) (hf : ∃ vs, oe.data = .fields vs) {cs : List Expr} {k : Nat} {cv : List V} {cu : List Value} {b : Bool} (hN : X.N[i]? = some nm) (hv : Vis X.env.scope nm) (hg : Gl X "isinstance") (hm : X.mg "isinstance" = none) (hc : PA (X.suite a ((a, oe) :: pn)) cs (fun _ H Q => Q cv H)) (hl : cv.length ≤ sizeLine) (hcv : Paired ClsV cv cu) (hk : PySem.W.kitAny X.K (.ref D0) cu = some b)
    (hd : (nm == ("__debug__" : Str)) = false) (hcd : (nm == ("__classdict__" : Str)) = false) (he : starEach [.Name nm p2, .Tuple cs k p3] X.env = (false, eval (.Name nm p2) X.env) :: starEach [.Tuple cs k p3] X.env) (he2 : starEach [.Tuple cs k p3] X.env = (false, eval (.Tuple cs k p3) X.env) :: starEach [] X.env) (hpl : (backTo p4 (starEach [.Tuple cs k p3] X.env)).any (·.1) = false) :
    PE (X.suite a ((a, oe) :: pn)) (.Call (.Name "isinstance" p1) [.Name nm p2, .Tuple cs k p3] [] p4) (tIs i a b) :=
  pe_imp (pe_callB (X := X.suite a ((a, oe) :: pn)) (call_isET C hz hf) hg hm PySem.boot_isinstance'' (pa_cons (pe_var (i := i) hN hv hd hcd) (pa_cons (pe_tup hc) pa_nil he2) he) (by decide) (by decide) he hpl) fun σ H Q ⟨h1, h2⟩ =>
    ⟨_, h1, hl, fun p hp => ⟨p, cv, cu, b, rfl, upd_same, hcv, hk, h2 _ (ext_upd hp)⟩⟩
theorem pt_is {Xs : Cx} {e : Expr} {b : Bool} (h : PE Xs e (tIs i a b)) (he : ∀ whole, isTrue e Xs.env whole = (do let v ← whole; standAt e.pos; holding [v] (truthy v))) : PT Xs e (fun σ H Q => σ[i]? = some (some (.ref a)) ∧ ∀ H', Ext H H' → Q b H') :=
  pt_imp (pt_truth h he) fun σ H Q ⟨h1, h2⟩ => ⟨h1, fun H' ex => ⟨b, rfl, h2 H' ex⟩⟩
theorem hs_read {Xs : Cx} {e1 e2 e3 e9 : Expr} {x : Str} {j : Nat} {t9 : TE} (h1 : PE Xs e1 (tIs i a true)) (h2 : PE Xs e2 (tIs i a false)) (h3 : PE Xs e3 (tIs i a true)) (h9 : PE Xs e9 t9) (hg : Gl Xs "int") (hm : Xs.mg "int" = none)
    (he1 : ∀ whole, isTrue e1 Xs.env whole = (do let v ← whole; standAt e1.pos; holding [v] (truthy v))) (he2 : ∀ whole, isTrue e2 Xs.env whole = (do let v ← whole; standAt e2.pos; holding [v] (truthy v)))
    (hs : starEach [e3] Xs.env = (false, eval e3 Xs.env) :: starEach [] Xs.env) :
    PSs Xs [.If (.BoolOp .And [e1, .UnaryOp .Not e2 p9] p10) [.Return (some (.BinOp (.Constant (.str x) j p11) .Mult (.Call (.Name "int" p12) [e3] [] p17) p18)) p19] [] p20, .Return (some e9) p22]
      (fun D σ H => σ[i]? = some (some (.ref a)) ∧ ∀ H', Ext H H' → D.rt (.str x) H') := by
  refine pss_imp (pss_cons (ps_if (PW.pt (pw_and (pt_is h1 he1) (pw_and1 (pt_not (pt_is h2 he2))))) (pss_one (ps_ret (pe_op op_repS pe_str (pe_callTy call_int1 hg hm PySem.boot_int' (pa_cons h3 pa_nil hs) (by decide) (by decide) hs rfl)))) pss_nil) (pss_one (ps_ret h9))) fun D σ H ⟨hi, h⟩ => ?_
  refine ⟨hi, fun H1 x1 => ⟨hi, fun H2 x2 => ?_⟩⟩
  refine ⟨hi, fun H3 x3 => .inr ⟨true, rfl, x, 1, rfl, rfl, by decide, by decide, h H3 (Ext.trans (Ext.trans x1 x2) x3)⟩⟩
end
/-! classes asked -/
theorem kit_self {K : PySem.W.Frag} {t : Value} : PySem.W.kitOne K t t = some true := by
  unfold PySem.W.kitOne
  rw [if_pos (beq_self_eq_true t)]
theorem kit_bt {K : PySem.W.Frag} {C : Addr} {T : String} {b : Bool} (hm : PySem.W.kitMeta T = true) (h : PySem.W.subIn K (.ref C) (.type T) = some b) : PySem.W.kitOne K (.ref C) (.type T) = some b := by
  unfold PySem.W.kitOne
  rw [if_neg (by simp)]
  show (if PySem.W.kitMeta T = true then PySem.W.subIn K (.ref C) (.type T) else none) = some b
  rw [if_pos hm]
  exact h
theorem kit_ref {K : PySem.W.Frag} {C C1 : Addr} {b : Bool} (hd : PySem.W.hasDictIn K C1 = true) (ht : PySem.W.typeIn K (.ref C1) = some (.type "type")) (h : PySem.W.subIn K (.ref C) (.ref C1) = some b) (hn : C ≠ C1) : PySem.W.kitOne K (.ref C) (.ref C1) = some b := by
  obtain ⟨cd, hc, _⟩ := PySem.W.any_some hd
  unfold PySem.W.kitOne
  rw [if_neg (by simpa using hn)]
  show (if ((PySem.W.clsIn K C1).isSome && PySem.W.typeIn K (.ref C1) == some (.type "type")) = true then PySem.W.subIn K (.ref C) (.ref C1) else none) = some b
  rw [if_pos (by rw [hc, ht]; rfl)]
  exact h
theorem kit_no {K : PySem.W.Frag} {t c : Value} {cs : List Value} (h : PySem.W.kitOne K t c = some false) (hr : PySem.W.kitAny K t cs = some false) : PySem.W.kitAny K t (c :: cs) = some false := kitAny_cons h (fun _ => hr) (fun z => by cases z)
end V3
end

section
set_option Elab.async false
set_option linter.all false
set_option maxRecDepth 100000
set_option maxHeartbeats 1000000
/-! Vev: the mirrors' words at slots, for simp (printed by genev.py). -/
namespace V3
open PySem (Str sizeLine)
open L2 (ixN atI)
@[simp] theorem ret_ap {α : Type} {a : α} {ρ : Ev} : V3.ret a ρ = (fun ρ => .ok a ρ) ρ := id rfl
@[simp] theorem bnd_ap {α β : Type} {f : Cm α} {g : α → Cm β} {ρ : Ev} : V3.bnd f g ρ = (fun ρ => match f ρ with
  | .ok a ρ' => g a ρ'
  | .exc n ρ' => .exc n ρ'
  | .bad => .bad) ρ := id rfl
@[simp] theorem lift_ap {α : Type} {o : Option α} {ρ : Ev} : V3.lift o ρ = (fun ρ => match o with
  | some a => .ok a ρ
  | none => .bad) ρ := id rfl
@[simp] theorem vl_ap {f : Cm D} {ρ : Ev} : V3.vl f ρ = (bnd f fun d => ret (.v d)) ρ := id rfl
@[simp] theorem var_ap {i : Nat} {ρ : Ev} : V3.var i ρ = (fun ρ => match ρ[i]? with
  | some (.im d) => .ok d ρ
  | _ => .bad) ρ := id rfl
@[simp] theorem own_ap {i : Nat} {ρ : Ev} : V3.own i ρ = (fun ρ => match slotL ρ i with
  | some _ => .ok (.o i) ρ
  | none => .bad) ρ := id rfl
@[simp] theorem op2_ap {g : D → D → Option D} {fa fb : Cm D} {ρ : Ev} : V3.op2 g fa fb ρ = (bnd fa fun d => bnd fb fun e => lift (g d e)) ρ := id rfl
@[simp] theorem op2g_ap {g : D → D → Option D} {fa fb : Cm Ar} {ρ : Ev} : V3.op2g g fa fb ρ = (bnd fa fun a => bnd fb fun b => fin (L2g g) [a, b]) ρ := id rfl
@[simp] theorem op1_ap {g : D → Option D} {fa : Cm D} {ρ : Ev} : V3.op1 g fa ρ = (bnd fa fun d => lift (g d)) ρ := id rfl
@[simp] theorem opA_ap {g : List D → Option D} {fa : Cm (List Ar)} {ρ : Ev} : V3.opA g fa ρ = (bnd fa fun as => fin g as) ρ := id rfl
@[simp] theorem consG_ap {fa : Cm Ar} {fr : Cm (List Ar)} {ρ : Ev} : V3.consG fa fr ρ = (bnd fa fun a => bnd fr fun as => ret (a :: as)) ρ := id rfl
@[simp] theorem consA_ap {fa : Cm D} {fr : Cm (List D)} {ρ : Ev} : V3.consA fa fr ρ = (bnd fa fun a => bnd fr fun as => ret (a :: as)) ρ := id rfl
@[simp] theorem tupE_ap {fa : Cm (List D)} {ρ : Ev} : V3.tupE fa ρ = (bnd fa fun ds => lift (if ds.length ≤ sizeLine then some (.tup ds) else none)) ρ := id rfl
@[simp] theorem lstE_ap {fa : Cm (List D)} {ρ : Ev} : V3.lstE fa ρ = (bnd fa fun ds => lift (if ds.length ≤ sizeLine then some (.lst ds) else none)) ρ := id rfl
@[simp] theorem tst_ap {f : Cm D} {ρ : Ev} : V3.tst f ρ = (bnd f fun d => lift (truD d)) ρ := id rfl
@[simp] theorem ifE_ap {α : Type} {c : Cm Bool} {fa fb : Cm α} {ρ : Ev} : V3.ifE c fa fb ρ = (bnd c fun b => if b = true then fa else fb) ρ := id rfl
@[simp] theorem andT_ap {a b : Cm Bool} {ρ : Ev} : V3.andT a b ρ = (bnd a fun c => if c = true then b else ret false) ρ := id rfl
@[simp] theorem orT_ap {a b : Cm Bool} {ρ : Ev} : V3.orT a b ρ = (bnd a fun c => if c = true then ret true else b) ρ := id rfl
@[simp] theorem notT_ap {a : Cm Bool} {ρ : Ev} : V3.notT a ρ = (bnd a fun c => ret (!c)) ρ := id rfl
@[simp] theorem blE_ap {f : Cm D} {ρ : Ev} : V3.blE f ρ = (bnd f fun d => lift (match d with | .bl b => some b | _ => none)) ρ := id rfl
@[simp] theorem andE_ap {a b : Cm D} {ρ : Ev} : V3.andE a b ρ = (bnd (blE a) fun c => if c = true then b else ret (.bl false)) ρ := id rfl
@[simp] theorem orE_ap {a b : Cm D} {ρ : Ev} : V3.orE a b ρ = (bnd (blE a) fun c => if c = true then ret (.bl true) else b) ρ := id rfl
@[simp] theorem intE_ap {f : Cm D} {ρ : Ev} : V3.intE f ρ = (bnd f fun d => lift (match d with | .int i => some i | _ => none)) ρ := id rfl
@[simp] theorem strE_ap {f : Cm D} {ρ : Ev} : V3.strE f ρ = (bnd f fun d => lift (match d with | .str i => some i | _ => none)) ρ := id rfl
@[simp] theorem m1_ap {g : Str → D → Option D} {fa fb : Cm D} {ρ : Ev} : V3.m1 g fa fb ρ = (bnd (strE fa) fun s => bnd fb fun e => lift (g s e)) ρ := id rfl
@[simp] theorem partN_ap  {ρ : Ev} : V3.partN  ρ = (ret none) ρ := id rfl
@[simp] theorem partS_ap {f : Cm D} {ρ : Ev} : V3.partS f ρ = (bnd (intE f) fun i => ret (some i)) ρ := id rfl
@[simp] theorem slE_ap {fa : Cm Ar} {fl fh : Cm (Option Int)} {ρ : Ev} : V3.slE fa fl fh ρ = (bnd fa fun a => bnd fl fun l => bnd fh fun h => fin (fun ds => match ds with | [d] => slD d l h | _ => none) [a]) ρ := id rfl
@[simp] theorem fin_ap {g : List D → Option D} {as : List Ar} {ρ : Ev} : V3.fin g as ρ = (fun ρ => match resA ρ as with
  | none => .bad
  | some (ds, b) => match g ds with
    | none => .bad
    | some z => if !b || z.lf then .ok z ρ else .bad) ρ := id rfl
@[simp] theorem thenS_ap {a b : Cm Fl} {ρ : Ev} : V3.thenS a b ρ = (bnd a fun f => match f with
  | .nx => b
  | f => ret f) ρ := id rfl
@[simp] theorem skipS_ap  {ρ : Ev} : V3.skipS  ρ = (ret .nx) ρ := id rfl
@[simp] theorem setI_ap {i : Nat} {d : D} {ρ : Ev} : V3.setI i d ρ = (fun ρ => match ρ[i]? with
  | some (.im _) => .ok () (ρ.set i (.im d))
  | some .un => .ok () (ρ.set i (.im d))
  | _ => .bad) ρ := id rfl
@[simp] theorem asgS_ap {i : Nat} {f : Cm D} {ρ : Ev} : V3.asgS i f ρ = (bnd f fun d => bnd (setI i d) fun _ => ret .nx) ρ := id rfl
@[simp] theorem retS_ap {f : Cm D} {ρ : Ev} : V3.retS f ρ = (bnd f fun d => ret (.rt d)) ρ := id rfl
@[simp] theorem exprS_ap {f : Cm D} {ρ : Ev} : V3.exprS f ρ = (bnd f fun _ => ret .nx) ρ := id rfl
@[simp] theorem ifS_ap {c : Cm Bool} {a b : Cm Fl} {ρ : Ev} : V3.ifS c a b ρ = (ifE c a b) ρ := id rfl
@[simp] theorem raiseS_ap {n : Str} {ρ : Ev} : V3.raiseS n ρ = (fun ρ => .exc n ρ) ρ := id rfl
@[simp] theorem brkS_ap  {ρ : Ev} : V3.brkS  ρ = (ret .bk) ρ := id rfl
@[simp] theorem ctS_ap  {ρ : Ev} : V3.ctS  ρ = (ret .ct) ρ := id rfl
@[simp] theorem parS_ap {i j : Nat} {F : Cm (List D)} {ρ : Ev} : V3.parS i j F ρ = (bnd F fun ds => match ds with
  | [d, e] => bnd (setI i d) fun _ => bnd (setI j e) fun _ => ret .nx
  | _ => fun _ => .bad) ρ := id rfl
@[simp] theorem updO_ap {k : Nat} {i : Int} {d : D} {ρ : Ev} : V3.updO k i d ρ = (fun ρ => match slotL ρ k with
  | some ds => match ixN ds.length i with
    | some j => .ok .nx (ρ.set k (.ow (ds.set j d)))
    | none => .bad
  | none => .bad) ρ := id rfl
@[simp] theorem getO_ap {k : Nat} {i : Int} {ρ : Ev} : V3.getO k i ρ = (fun ρ => match slotL ρ k with
  | some ds => match atI ds i with
    | some d => .ok d ρ
    | none => .bad
  | none => .bad) ρ := id rfl
@[simp] theorem setIx_ap {k : Nat} {fe fi : Cm D} {ρ : Ev} : V3.setIx k fe fi ρ = (bnd fe fun d => bnd (V3.own k) fun _ => bnd fi fun i => bnd (lift (dInt i)) fun i => updO k i d) ρ := id rfl
@[simp] theorem augIx_ap {k : Nat} {fi : Cm D} {g : Int → Int → Int} {fe : Cm D} {ρ : Ev} : V3.augIx k fi g fe ρ = (bnd (V3.own k) fun _ => bnd fi fun i => bnd (lift (dInt i)) fun i => bnd (getO k i) fun old => bnd (lift (dInt old)) fun x => bnd fe fun d => bnd (lift (dInt d)) fun y => updO k i (.int (g x y))) ρ := id rfl
@[simp] theorem augN_ap {i : Nat} {g : Int → Int → Int} {fe : Cm D} {ρ : Ev} : V3.augN i g fe ρ = (bnd (var i) fun x => bnd (lift (dInt x)) fun x => bnd fe fun y => bnd (lift (dInt y)) fun y => bnd (setI i (.int (g x y))) fun _ => ret .nx) ρ := id rfl
@[simp] theorem asgO_ap {i n : Nat} {f : Cm (List D)} {ρ : Ev} : V3.asgO i n f ρ = (bnd f fun ds => fun ρ => if n ≤ i ∧ i < ρ.length then .ok .nx (ρ.set i (.ow ds)) else .bad) ρ := id rfl
@[simp] theorem retF_ap {f : Cm (List D)} {ρ : Ev} : V3.retF f ρ = (bnd f fun ds => ret (.rt (.lst ds))) ρ := id rfl
@[simp] theorem repF_ap {fa fb : Cm D} {ρ : Ev} : V3.repF fa fb ρ = (bnd fa fun d => bnd fb fun e => lift (repD d e)) ρ := id rfl
@[simp] theorem dispF_ap {F : Cm (List D)} {ρ : Ev} : V3.dispF F ρ = (bnd F fun ds => lift (if ds.length ≤ sizeLine then some ds else none)) ρ := id rfl
@[simp] theorem lsE_ap {f : Cm (List D)} {ρ : Ev} : V3.lsE f ρ = (bnd f fun ds => ret (.lst ds)) ρ := id rfl
theorem lcE_ap {vs : List Nat} {src : Cm (List D)} {s : D → Cm Unit} {tt : Cm Bool} {el : Cm D} {ρ : Ev} : V3.lcE vs src s tt el ρ = (bnd src fun ds => fun ρ => if noOw vs ρ = true then lcR vs (lcL vs s tt el ds [] ρ) else .bad) ρ := id rfl
@[simp] theorem callA_ap {F : List D → Rs D} {fa : Cm (List Ar)} {ρ : Ev} : V3.callA F fa ρ = (bnd fa fun as => fun ρ => match resA ρ as with
  | none => .bad
  | some (ds, b) => match F ds with
    | .ok d _ => if !b || d.lf then .ok d ρ else .bad
    | .exc n _ => .exc n ρ
    | .bad => .bad) ρ := id rfl
@[simp] theorem callN_ap {F : List D → Rs D} {fa : Cm (List D)} {ρ : Ev} : V3.callN F fa ρ = (bnd fa fun ds => fun ρ => match F ds with
  | .ok (.lst es) _ => if es.all D.atom then .ok es ρ else .bad
  | .exc n _ => .exc n ρ
  | _ => .bad) ρ := id rfl
@[simp] theorem callL_ap {G : List D → List D → Rs (D × List D)} {k : Nat} {fa : Cm (List D)} {ρ : Ev} : V3.callL G k fa ρ = (bnd (V3.own k) fun _ => bnd fa fun ds => fun ρ => match slotL ρ k with
  | none => .bad
  | some es => match G es ds with
    | .ok (d, es') _ => .ok d (ρ.set k (.ow es'))
    | _ => .bad) ρ := id rfl
@[simp] theorem lrgF_ap {fa : Cm D} {ρ : Ev} : V3.lrgF fa ρ = (bnd fa fun d => lift (lrgD d)) ρ := id rfl
@[simp] theorem forS_ap {src : Cm (List D)} {s : D → Cm Unit} {b : Cm Fl} {ρ : Ev} : V3.forS src s b ρ = (bnd src fun ds => forL s b ds) ρ := id rfl
@[simp] theorem lstS_ap {f : Cm D} {ρ : Ev} : V3.lstS f ρ = (bnd f fun d => lift (match d with | .lst ds => some ds | .fz ds => some ds | _ => none)) ρ := id rfl
@[simp] theorem tupS_ap {f : Cm D} {ρ : Ev} : V3.tupS f ρ = (bnd f fun d => lift (match d with | .tup ds => some ds | _ => none)) ρ := id rfl
@[simp] theorem strS_ap {f : Cm D} {ρ : Ev} : V3.strS f ρ = (bnd f fun d => lift (match d with | .str z => some (chrs z) | _ => none)) ρ := id rfl
@[simp] theorem rng1S_ap {f : Cm (List D)} {ρ : Ev} : V3.rng1S f ρ = (bnd f fun ds => lift (rng1D ds)) ρ := id rfl
@[simp] theorem rng2S_ap {f : Cm (List D)} {ρ : Ev} : V3.rng2S f ρ = (bnd f fun ds => lift (rng2D ds)) ρ := id rfl
@[simp] theorem aft_ap {α : Type} {f : Cm Unit} {g : Cm α} {ρ : Ev} : V3.aft f g ρ = (fun ρ => match f ρ with
  | .ok _ ρ' => g ρ'
  | _ => .bad) ρ := id rfl
@[simp] theorem nox_ap {α : Type} {f : Cm α} {ρ : Ev} : V3.nox f ρ = (fun ρ => match f ρ with
  | .ok a ρ' => .ok a ρ'
  | _ => .bad) ρ := id rfl
@[simp] theorem pick1_ap {Fs : List (List D → Rs D)} {i j : Nat} {fa : Cm (List D)} {n : Int} {ρ : Ev} : V3.pick1 Fs i j fa n ρ = (fun ρ => match ρ[i]?, Fs[n.toNat]? with
  | some .un, some F => if 0 ≤ n then bnd fa (pick2 j F) ρ else .bad
  | _, _ => .bad) ρ := id rfl
@[simp] theorem pick2_ap {j : Nat} {F : List D → Rs D} {ds : List D} {ρ : Ev} : V3.pick2 j F ds ρ = (fun ρ => match F ds with
  | .ok d _ => bnd (setI j d) (fun _ => ret .nx) ρ
  | .exc m _ => .exc m ρ
  | .bad => .bad) ρ := id rfl
@[simp] theorem pickS_ap {Fs : List (List D → Rs D)} {i j : Nat} {fk : Cm D} {fa : Cm (List D)} {ρ : Ev} : V3.pickS Fs i j fk fa ρ = (bnd fk fun d => bnd (lift (dInt d)) (pick1 Fs i j fa)) ρ := id rfl
@[simp] theorem tryC_ap {n : Str} {i : Nat} {x : Str} {b : Cm Fl} {ρ : Ev} : V3.tryC n i x b ρ = (fun ρ => match b ρ with
  | .exc m ρ' => if m = n then (match ρ'[i]? with
    | some .un => .ok (.rt (.str x)) ρ'
    | _ => .bad) else .bad
  | r => r) ρ := id rfl
section
variable {ρ : Ev} {i : Nat}
@[simp] theorem slotL_0 {es : List D} : slotL (.ow es :: ρ) 0 = some es := id rfl
theorem slotL_s {x : Sl} : slotL (x :: ρ) (i + 1) = slotL ρ i := by unfold slotL; rw [List.getElem?_cons_succ]
@[simp] theorem slotL_1 {x : Sl} : slotL (x :: ρ) 1 = slotL ρ 0 := slotL_s
@[simp] theorem slotL_2 {x : Sl} : slotL (x :: ρ) 2 = slotL ρ 1 := slotL_s
@[simp] theorem slotL_3 {x : Sl} : slotL (x :: ρ) 3 = slotL ρ 2 := slotL_s
@[simp] theorem slotL_4 {x : Sl} : slotL (x :: ρ) 4 = slotL ρ 3 := slotL_s
@[simp] theorem slotL_5 {x : Sl} : slotL (x :: ρ) 5 = slotL ρ 4 := slotL_s
@[simp] theorem resA_nil : resA ρ [] = some ([], false) := id rfl
@[simp] theorem resA_v {d : D} {r : List Ar} : resA ρ (.v d :: r) = (match resA ρ r with | some (ds, b) => some (d :: ds, b) | none => none) := id rfl
@[simp] theorem resA_o {r : List Ar} : resA ρ (.o i :: r) = (match slotL ρ i, resA ρ r with | some es, some (ds, _) => some (.lst es :: ds, true) | _, _ => none) := id rfl
@[simp] theorem L2g_ap {g : D → D → Option D} {d e : D} : L2g g [d, e] = g d e := id rfl
@[simp] theorem flD_rt {d : D} : flD (.rt d) = some d := id rfl
@[simp] theorem flD_nx : flD .nx = some .non := id rfl
@[simp] theorem lcR_ok {vs : List Nat} {a : List D} : lcR vs (.ok a ρ) = .ok a (wipeE vs ρ) := id rfl
@[simp] theorem lcR_exc {vs : List Nat} {x : Str} : lcR vs (.exc x ρ) = .exc x (wipeE vs ρ) := id rfl
@[simp] theorem wipeE_cons {v : Nat} {vs : List Nat} : wipeE (v :: vs) ρ = (wipeE vs ρ).set v .un := id rfl
@[simp] theorem wipeE_nil : wipeE [] ρ = ρ := id rfl
@[simp] theorem dInt_int {i : Int} : dInt (.int i) = some i := id rfl
@[simp] theorem lf_int {i : Int} : D.lf (.int i) = true := id rfl
@[simp] theorem lf_bl {i : Bool} : D.lf (.bl i) = true := id rfl
@[simp] theorem lf_str {i : Str} : D.lf (.str i) = true := id rfl
@[simp] theorem lf_non : D.lf .non = true := id rfl
@[simp] theorem lf_tup {ds : List D} : D.lf (.tup ds) = D.lf.lfA ds := id rfl
@[simp] theorem lfA_nil : D.lf.lfA [] = true := id rfl
@[simp] theorem lfA_cons {d : D} {ds : List D} : D.lf.lfA (d :: ds) = (d.lf && D.lf.lfA ds) := id rfl
end
end V3
end

section
set_option Elab.async false
set_option linter.all false
set_option maxRecDepth 100000
set_option maxHeartbeats 1000000
/-! Vgo: one step lemma for each word of the mirrors; a walk by head symbols. -/
namespace V3
open PySem (Str sizeLine)
open L2 (ixN atI)
section
variable {α β : Type} {ρ ρ1 ρ2 ρ3 ρ4 : Ev} {X : Rs Fl}
theorem b_ok {f : Cm α} {g : α → Cm β} {a : α} (h : f ρ = .ok a ρ1) : bnd f g ρ = g a ρ1 := by unfold bnd; rw [h]
theorem b_exc {f : Cm α} {g : α → Cm β} {n : Str} (h : f ρ = .exc n ρ1) : bnd f g ρ = .exc n ρ1 := by unfold bnd; rw [h]
theorem l_ok {o : Option α} {a : α} (h : o = some a) : lift o ρ = .ok a ρ := by rw [h]; rfl
/-- a call's promise at data -/
def Cok (R : List D → Rs D) (ds : List D) (z : D) : Prop := ∃ ρ, R ds = .ok z ρ
def Cex (R : List D → Rs D) (ds : List D) (n : Str) : Prop := ∃ ρ, R ds = .exc n ρ
def CokL (G : List D → List D → Rs (D × List D)) (es ds : List D) (z : D) (es' : List D) : Prop := ∃ ρ, G es ds = .ok (z, es') ρ
theorem cok {R : List D → Rs D} {ds : List D} {z : D} {ρ : Ev} (h : R ds = .ok z ρ) : Cok R ds z := ⟨ρ, h⟩
theorem cex {R : List D → Rs D} {ds : List D} {z : Str} {ρ : Ev} (h : R ds = .exc z ρ) : Cex R ds z := ⟨ρ, h⟩
theorem thenS_go {a b : Cm Fl} (h : a ρ = .ok .nx ρ1) (h2 : b ρ1 = X) : thenS a b ρ = X := by unfold thenS; rw [b_ok h]; exact h2
theorem thenS_r {a b : Cm Fl} {d : D} (h : a ρ = .ok (.rt d) ρ1) : thenS a b ρ = .ok (.rt d) ρ1 := by unfold thenS; rw [b_ok h]; rfl
theorem thenS_x {a b : Cm Fl} {n : Str} (h : a ρ = .exc n ρ1) : thenS a b ρ = .exc n ρ1 := by unfold thenS; rw [b_exc h]
theorem asgS_go {k : Nat} {f : Cm D} {d : D} (h : f ρ = .ok d ρ1) (h2 : setI k d ρ1 = .ok () ρ2) : asgS k f ρ = .ok .nx ρ2 := by unfold asgS; rw [b_ok h, b_ok h2]; rfl
theorem asgS_x {k : Nat} {f : Cm D} {n : Str} (h : f ρ = .exc n ρ1) : asgS k f ρ = .exc n ρ1 := by unfold asgS; rw [b_exc h]
theorem retS_go {f : Cm D} {d : D} (h : f ρ = .ok d ρ1) : retS f ρ = .ok (.rt d) ρ1 := by unfold retS; rw [b_ok h]; rfl
theorem retS_x {f : Cm D} {n : Str} (h : f ρ = .exc n ρ1) : retS f ρ = .exc n ρ1 := by unfold retS; rw [b_exc h]
theorem exprS_go {f : Cm D} {d : D} (h : f ρ = .ok d ρ1) : exprS f ρ = .ok .nx ρ1 := by unfold exprS; rw [b_ok h]; rfl
theorem exprS_x {f : Cm D} {n : Str} (h : f ρ = .exc n ρ1) : exprS f ρ = .exc n ρ1 := by unfold exprS; rw [b_exc h]
theorem ifE_go {c : Cm Bool} {a b : Cm α} {t : Bool} {Y : Rs α} (h : c ρ = .ok t ρ1) (h2 : (if t = true then a else b) ρ1 = Y) : ifE c a b ρ = Y := by unfold ifE; rw [b_ok h]; exact h2
theorem ifE_gt {c : Cm Bool} {a b : Cm α} {Y : Rs α} (h : c ρ = .ok true ρ1) (h2 : a ρ1 = Y) : ifE c a b ρ = Y := by unfold ifE; rw [b_ok h]; exact h2
theorem ifE_gf {c : Cm Bool} {a b : Cm α} {Y : Rs α} (h : c ρ = .ok false ρ1) (h2 : b ρ1 = Y) : ifE c a b ρ = Y := by unfold ifE; rw [b_ok h]; exact h2
theorem ifS_go {c : Cm Bool} {a b : Cm Fl} {t : Bool} (h : c ρ = .ok t ρ1) (h2 : (if t = true then a else b) ρ1 = X) : ifS c a b ρ = X := ifE_go h h2
theorem ifS_gt {c : Cm Bool} {a b : Cm Fl} (h : c ρ = .ok true ρ1) (h2 : a ρ1 = X) : ifS c a b ρ = X := ifE_gt h h2
theorem ifS_gf {c : Cm Bool} {a b : Cm Fl} (h : c ρ = .ok false ρ1) (h2 : b ρ1 = X) : ifS c a b ρ = X := ifE_gf h h2
theorem skipS_go : skipS ρ = .ok .nx ρ := rfl
theorem op2_go {g : D → D → Option D} {f f2 : Cm D} {d e z : D} (h : f ρ = .ok d ρ1) (h2 : f2 ρ1 = .ok e ρ2) (hg : g d e = some z) : op2 g f f2 ρ = .ok z ρ2 := by unfold op2; rw [b_ok h, b_ok h2]; exact l_ok hg
theorem op2_x1 {g : D → D → Option D} {f f2 : Cm D} {n : Str} (h : f ρ = .exc n ρ1) : op2 g f f2 ρ = .exc n ρ1 := by unfold op2; rw [b_exc h]
theorem op2_x2 {g : D → D → Option D} {f f2 : Cm D} {d : D} {n : Str} (h : f ρ = .ok d ρ1) (h2 : f2 ρ1 = .exc n ρ2) : op2 g f f2 ρ = .exc n ρ2 := by unfold op2; rw [b_ok h, b_exc h2]
theorem op1_go {g : D → Option D} {f : Cm D} {d z : D} (h : f ρ = .ok d ρ1) (hg : g d = some z) : op1 g f ρ = .ok z ρ1 := by unfold op1; rw [b_ok h]; exact l_ok hg
theorem vl_go {f : Cm D} {d : D} (h : f ρ = .ok d ρ1) : vl f ρ = .ok (.v d) ρ1 := by unfold vl; rw [b_ok h]; rfl
theorem consG_go {f : Cm Ar} {F : Cm (List Ar)} {a : Ar} {as : List Ar} (h : f ρ = .ok a ρ1) (h2 : F ρ1 = .ok as ρ2) : consG f F ρ = .ok (a :: as) ρ2 := by unfold consG; rw [b_ok h, b_ok h2]; rfl
theorem consA_go {f : Cm D} {F : Cm (List D)} {a : D} {as : List D} (h : f ρ = .ok a ρ1) (h2 : F ρ1 = .ok as ρ2) : consA f F ρ = .ok (a :: as) ρ2 := by unfold consA; rw [b_ok h, b_ok h2]; rfl
theorem fin_go {g : List D → Option D} {as : List Ar} {ds : List D} {b : Bool} {z : D} (h : resA ρ as = some (ds, b)) (hg : g ds = some z) (hb : (!b || z.lf) = true) : fin g as ρ = .ok z ρ := by
  unfold fin; rw [h]; dsimp only; rw [hg]; dsimp only; rw [if_pos hb]
theorem opA_go {g : List D → Option D} {F : Cm (List Ar)} {as : List Ar} {ds : List D} {b : Bool} {z : D} (h : F ρ = .ok as ρ1) (hr : resA ρ1 as = some (ds, b)) (hg : g ds = some z) (hb : (!b || z.lf) = true) : opA g F ρ = .ok z ρ1 := by
  unfold opA; rw [b_ok h]; exact fin_go hr hg hb
theorem op2g_go {g : D → D → Option D} {f f2 : Cm Ar} {a a2 : Ar} {ds : List D} {b : Bool} {z : D} (h : f ρ = .ok a ρ1) (h2 : f2 ρ1 = .ok a2 ρ2) (hr : resA ρ2 [a, a2] = some (ds, b)) (hg : L2g g ds = some z) (hb : (!b || z.lf) = true) : op2g g f f2 ρ = .ok z ρ2 := by
  unfold op2g; rw [b_ok h, b_ok h2]; exact fin_go hr hg hb
theorem callA_go {R : List D → Rs D} {F : Cm (List Ar)} {as : List Ar} {ds : List D} {b : Bool} {z : D} (h : F ρ = .ok as ρ1) (hr : resA ρ1 as = some (ds, b)) (hR : Cok R ds z) (hb : (!b || z.lf) = true) : callA R F ρ = .ok z ρ1 := by
  obtain ⟨ρx, hR⟩ := hR
  unfold callA; rw [b_ok h]; try dsimp only
  rw [hr]; dsimp only; rw [hR]; dsimp only; rw [if_pos hb]
theorem callA_x {R : List D → Rs D} {F : Cm (List Ar)} {as : List Ar} {ds : List D} {b : Bool} {n : Str} (h : F ρ = .ok as ρ1) (hr : resA ρ1 as = some (ds, b)) (hR : Cex R ds n) : callA R F ρ = .exc n ρ1 := by
  obtain ⟨ρx, hR⟩ := hR
  unfold callA; rw [b_ok h]; try dsimp only
  rw [hr]; dsimp only; rw [hR]
theorem callN_go {R : List D → Rs D} {F : Cm (List D)} {ds es : List D} (h : F ρ = .ok ds ρ1) (hR : Cok R ds (.lst es)) (hb : es.all D.atom = true) : callN R F ρ = .ok es ρ1 := by
  obtain ⟨ρx, hR⟩ := hR
  unfold callN; rw [b_ok h]; try dsimp only
  rw [hR]; dsimp only; rw [if_pos hb]
theorem callL_go {G : List D → List D → Rs (D × List D)} {k : Nat} {F : Cm (List D)} {ds es es' : List D} {z : D} (h0 : V3.own k ρ = .ok (.o k) ρ) (h : F ρ = .ok ds ρ1) (hs : slotL ρ1 k = some es) (hR : CokL G es ds z es') : callL G k F ρ = .ok z (ρ1.set k (.ow es')) := by
  obtain ⟨ρx, hR⟩ := hR
  unfold callL; rw [b_ok h0, b_ok h]; try dsimp only
  rw [hs]; dsimp only; rw [hR]
theorem tupE_go {F : Cm (List D)} {ds : List D} (h : F ρ = .ok ds ρ1) (hl : ds.length ≤ sizeLine) : tupE F ρ = .ok (.tup ds) ρ1 := by unfold tupE; rw [b_ok h]; exact l_ok (if_pos hl)
theorem lstE_go {F : Cm (List D)} {ds : List D} (h : F ρ = .ok ds ρ1) (hl : ds.length ≤ sizeLine) : lstE F ρ = .ok (.lst ds) ρ1 := by unfold lstE; rw [b_ok h]; exact l_ok (if_pos hl)
theorem dispF_go {F : Cm (List D)} {ds : List D} (h : F ρ = .ok ds ρ1) (hl : ds.length ≤ sizeLine) : dispF F ρ = .ok ds ρ1 := by unfold dispF; rw [b_ok h]; exact l_ok (if_pos hl)
theorem lsE_go {f : Cm (List D)} {ds : List D} (h : f ρ = .ok ds ρ1) : lsE f ρ = .ok (.lst ds) ρ1 := by unfold lsE; rw [b_ok h]; rfl
theorem lsE_x {f : Cm (List D)} {n : Str} (h : f ρ = .exc n ρ1) : lsE f ρ = .exc n ρ1 := by unfold lsE; rw [b_exc h]
theorem vl_x {f : Cm D} {n : Str} (h : f ρ = .exc n ρ1) : vl f ρ = .exc n ρ1 := by unfold vl; rw [b_exc h]
theorem consG_x1 {f : Cm Ar} {F : Cm (List Ar)} {n : Str} (h : f ρ = .exc n ρ1) : consG f F ρ = .exc n ρ1 := by unfold consG; rw [b_exc h]
theorem consG_x2 {f : Cm Ar} {F : Cm (List Ar)} {a : Ar} {n : Str} (h : f ρ = .ok a ρ1) (h2 : F ρ1 = .exc n ρ2) : consG f F ρ = .exc n ρ2 := by unfold consG; rw [b_ok h, b_exc h2]
theorem consA_x1 {f : Cm D} {F : Cm (List D)} {n : Str} (h : f ρ = .exc n ρ1) : consA f F ρ = .exc n ρ1 := by unfold consA; rw [b_exc h]
theorem consA_x2 {f : Cm D} {F : Cm (List D)} {a : D} {n : Str} (h : f ρ = .ok a ρ1) (h2 : F ρ1 = .exc n ρ2) : consA f F ρ = .exc n ρ2 := by unfold consA; rw [b_ok h, b_exc h2]
theorem opA_x {g : List D → Option D} {F : Cm (List Ar)} {n : Str} (h : F ρ = .exc n ρ1) : opA g F ρ = .exc n ρ1 := by unfold opA; rw [b_exc h]
theorem callA_xa {R : List D → Rs D} {F : Cm (List Ar)} {n : Str} (h : F ρ = .exc n ρ1) : callA R F ρ = .exc n ρ1 := by unfold callA; rw [b_exc h]
theorem tupE_x {F : Cm (List D)} {n : Str} (h : F ρ = .exc n ρ1) : tupE F ρ = .exc n ρ1 := by unfold tupE; rw [b_exc h]
theorem tst_go {f : Cm D} {d : D} {t : Bool} (h : f ρ = .ok d ρ1) (ht : truD d = some t) : tst f ρ = .ok t ρ1 := by unfold tst; rw [b_ok h]; exact l_ok ht
theorem notT_go {a : Cm Bool} {t : Bool} (h : a ρ = .ok t ρ1) : notT a ρ = .ok (!t) ρ1 := by unfold notT; rw [b_ok h]; rfl
theorem andT_go {a b : Cm Bool} {s t : Bool} (h : a ρ = .ok s ρ1) (h2 : b ρ1 = .ok t ρ1) : andT a b ρ = .ok (s && t) ρ1 := by
  unfold andT; rw [b_ok h]; cases s
  · rfl
  · exact h2
theorem andT_f {a b : Cm Bool} (h : a ρ = .ok false ρ1) : andT a b ρ = .ok false ρ1 := by unfold andT; rw [b_ok h]; rfl
theorem andT_t {a b : Cm Bool} {Y : Rs Bool} (h : a ρ = .ok true ρ1) (h2 : b ρ1 = Y) : andT a b ρ = Y := by unfold andT; rw [b_ok h]; exact h2
theorem orT_go {a b : Cm Bool} {s t : Bool} (h : a ρ = .ok s ρ1) (h2 : b ρ1 = .ok t ρ1) : orT a b ρ = .ok (s || t) ρ1 := by
  unfold orT; rw [b_ok h]; cases s
  · exact h2
  · rfl
theorem orT_t {a b : Cm Bool} (h : a ρ = .ok true ρ1) : orT a b ρ = .ok true ρ1 := by unfold orT; rw [b_ok h]; rfl
theorem orT_f {a b : Cm Bool} {Y : Rs Bool} (h : a ρ = .ok false ρ1) (h2 : b ρ1 = Y) : orT a b ρ = Y := by unfold orT; rw [b_ok h]; exact h2
theorem blE_go {f : Cm D} {t : Bool} (h : f ρ = .ok (.bl t) ρ1) : blE f ρ = .ok t ρ1 := by unfold blE; rw [b_ok h]; rfl
theorem andE_go {a b : Cm D} {s t : Bool} (h : a ρ = .ok (.bl s) ρ1) (h2 : b ρ1 = .ok (.bl t) ρ1) : andE a b ρ = .ok (.bl (s && t)) ρ1 := by
  unfold andE; rw [b_ok (blE_go h)]; cases s
  · rfl
  · exact h2
theorem andE_f {a b : Cm D} (h : a ρ = .ok (.bl false) ρ1) : andE a b ρ = .ok (.bl false) ρ1 := by unfold andE; rw [b_ok (blE_go h)]; rfl
theorem andE_t {a b : Cm D} {Y : Rs D} (h : a ρ = .ok (.bl true) ρ1) (h2 : b ρ1 = Y) : andE a b ρ = Y := by unfold andE; rw [b_ok (blE_go h)]; exact h2
theorem orE_go {a b : Cm D} {s t : Bool} (h : a ρ = .ok (.bl s) ρ1) (h2 : b ρ1 = .ok (.bl t) ρ1) : orE a b ρ = .ok (.bl (s || t)) ρ1 := by
  unfold orE; rw [b_ok (blE_go h)]; cases s
  · exact h2
  · rfl
theorem orE_t {a b : Cm D} (h : a ρ = .ok (.bl true) ρ1) : orE a b ρ = .ok (.bl true) ρ1 := by unfold orE; rw [b_ok (blE_go h)]; rfl
theorem orE_f {a b : Cm D} {Y : Rs D} (h : a ρ = .ok (.bl false) ρ1) (h2 : b ρ1 = Y) : orE a b ρ = Y := by unfold orE; rw [b_ok (blE_go h)]; exact h2
theorem intE_go {f : Cm D} {t : Int} (h : f ρ = .ok (.int t) ρ1) : intE f ρ = .ok t ρ1 := by unfold intE; rw [b_ok h]; rfl
theorem strE_go {f : Cm D} {t : Str} (h : f ρ = .ok (.str t) ρ1) : strE f ρ = .ok t ρ1 := by unfold strE; rw [b_ok h]; rfl
theorem m1_go {g : Str → D → Option D} {f f2 : Cm D} {s : Str} {e z : D} (h : f ρ = .ok (.str s) ρ1) (h2 : f2 ρ1 = .ok e ρ2) (hg : g s e = some z) : m1 g f f2 ρ = .ok z ρ2 := by
  unfold m1; rw [b_ok (strE_go h), b_ok h2]; exact l_ok hg
theorem partN_go : partN ρ = .ok none ρ := rfl
theorem partS_go {f : Cm D} {i : Int} (h : f ρ = .ok (.int i) ρ1) : partS f ρ = .ok (some i) ρ1 := by unfold partS; rw [b_ok (intE_go h)]; rfl
def sl1 (lo hi : Option Int) (ds : List D) : Option D := match ds with | [d] => slD d lo hi | _ => none
theorem slE_go {f : Cm Ar} {fl fh : Cm (Option Int)} {a : Ar} {lo hi : Option Int} {ds : List D} {b : Bool} {z : D} (h : f ρ = .ok a ρ1) (h1 : fl ρ1 = .ok lo ρ2) (h2 : fh ρ2 = .ok hi ρ3) (hr : resA ρ3 [a] = some (ds, b)) (hg : sl1 lo hi ds = some z) (hb : (!b || z.lf) = true) : slE f fl fh ρ = .ok z ρ3 := by
  unfold slE; rw [b_ok h, b_ok h1, b_ok h2]; exact fin_go hr hg hb
theorem parS_go {i j : Nat} {F : Cm (List D)} {d e : D} (h : F ρ = .ok [d, e] ρ1) (h1 : setI i d ρ1 = .ok () ρ2) (h2 : setI j e ρ2 = .ok () ρ3) : parS i j F ρ = .ok .nx ρ3 := by
  unfold parS; rw [b_ok h]; show bnd _ _ _ = _; rw [b_ok h1, b_ok h2]; rfl
theorem augN_go {i : Nat} {g : Int → Int → Int} {f : Cm D} {x y : Int} (h : var i ρ = .ok (.int x) ρ) (h1 : f ρ = .ok (.int y) ρ1) (h2 : setI i (.int (g x y)) ρ1 = .ok () ρ2) : augN i g f ρ = .ok .nx ρ2 := by
  unfold augN; rw [b_ok h, b_ok (l_ok (show dInt (.int x) = some x from rfl)), b_ok h1, b_ok (l_ok (show dInt (.int y) = some y from rfl)), b_ok h2]; rfl
theorem setIx_go {k j : Nat} {i : Int} {fe fi : Cm D} {d : D} {es : List D} (h : fe ρ = .ok d ρ1) (h0 : V3.own k ρ1 = .ok (.o k) ρ1) (h1 : fi ρ1 = .ok (.int i) ρ2) (hs : slotL ρ2 k = some es) (hi : ixN es.length i = some j) : setIx k fe fi ρ = .ok .nx (ρ2.set k (.ow (es.set j d))) := by
  unfold setIx; rw [b_ok h, b_ok h0, b_ok h1, b_ok (l_ok (show dInt (.int i) = some i from rfl))]
  unfold updO; rw [hs]; dsimp only; rw [hi]
theorem asgO_go {i n : Nat} {f : Cm (List D)} {ds : List D} (h : f ρ = .ok ds ρ1) (hc : n ≤ i ∧ i < ρ1.length) : asgO i n f ρ = .ok .nx (ρ1.set i (.ow ds)) := by
  unfold asgO; rw [b_ok h]; try dsimp only
  rw [if_pos hc]
theorem retF_go {f : Cm (List D)} {ds : List D} (h : f ρ = .ok ds ρ1) : retF f ρ = .ok (.rt (.lst ds)) ρ1 := by unfold retF; rw [b_ok h]; rfl
theorem repF_go {f f2 : Cm D} {d e : D} {es : List D} (h : f ρ = .ok d ρ1) (h2 : f2 ρ1 = .ok e ρ2) (hg : repD d e = some es) : repF f f2 ρ = .ok es ρ2 := by unfold repF; rw [b_ok h, b_ok h2]; exact l_ok hg
theorem lrgF_go {f : Cm D} {d : D} {es : List D} (h : f ρ = .ok d ρ1) (hg : lrgD d = some es) : lrgF f ρ = .ok es ρ1 := by unfold lrgF; rw [b_ok h]; exact l_ok hg
theorem tupS_go {f : Cm D} {ds : List D} (h : f ρ = .ok (.tup ds) ρ1) : tupS f ρ = .ok ds ρ1 := by unfold tupS; rw [b_ok h]; rfl
theorem lstS_go {f : Cm D} {ds : List D} (h : f ρ = .ok (.lst ds) ρ1) : lstS f ρ = .ok ds ρ1 := by unfold lstS; rw [b_ok h]; rfl
theorem lstS_gz {f : Cm D} {ds : List D} (h : f ρ = .ok (.fz ds) ρ1) : lstS f ρ = .ok ds ρ1 := by unfold lstS; rw [b_ok h]; rfl
theorem strS_go {f : Cm D} {s : Str} (h : f ρ = .ok (.str s) ρ1) : strS f ρ = .ok (chrs s) ρ1 := by unfold strS; rw [b_ok h]; rfl
theorem rng1S_go {f : Cm (List D)} {ds es : List D} (h : f ρ = .ok ds ρ1) (hg : rng1D ds = some es) : rng1S f ρ = .ok es ρ1 := by unfold rng1S; rw [b_ok h]; exact l_ok hg
theorem forS_go {src : Cm (List D)} {s : D → Cm Unit} {b : Cm Fl} {ds : List D} {X : Rs Fl} (h : src ρ = .ok ds ρ1) (h2 : forL s b ds ρ1 = X) : forS src s b ρ = X := by unfold forS; rw [b_ok h]; exact h2
theorem forL_nil {s : D → Cm Unit} {b : Cm Fl} : forL s b [] ρ = .ok .nx ρ := rfl
theorem forL_go {s : D → Cm Unit} {b : Cm Fl} {d : D} {ds : List D} (h : s d ρ = .ok () ρ1) (h2 : b ρ1 = .ok .nx ρ2) (h3 : forL s b ds ρ2 = X) : forL s b (d :: ds) ρ = X := by
  show aft (s d) (bnd b _) ρ = _
  unfold aft; rw [h]; dsimp only; rw [b_ok h2]; exact h3
theorem forL_rt {s : D → Cm Unit} {b : Cm Fl} {d z : D} {ds : List D} (h : s d ρ = .ok () ρ1) (h2 : b ρ1 = .ok (.rt z) ρ2) : forL s b (d :: ds) ρ = .ok (.rt z) ρ2 := by
  show aft (s d) (bnd b _) ρ = _
  unfold aft; rw [h]; dsimp only; rw [b_ok h2]; rfl
theorem whl_go {c : Cm Bool} {b : Cm Fl} (h : c ρ = .ok true ρ1) (h2 : b ρ1 = .ok .nx ρ2) (h3 : whl c b ρ2 = X) : whl c b ρ = X := by
  rw [whl_eq, b_ok h]; show bnd _ _ _ = _; rw [b_ok h2]; exact h3
theorem whl_end {c : Cm Bool} {b : Cm Fl} (h : c ρ = .ok false ρ1) : whl c b ρ = .ok .nx ρ1 := by
  rw [whl_eq, b_ok h]; rfl
theorem raiseS_go {n : Str} : raiseS n ρ = .exc n ρ := rfl
theorem isl {n k : Nat} (h : n ≤ 1000) (hk : 1000 ≤ k) : n ≤ k := Nat.le_trans h hk
theorem sizeLine_big : 1000 ≤ sizeLine := by decide
theorem run_ok {np N : Nat} {m : Cm Fl} {ds : List D} {ρ' : Ev} {d : D} (hl : ds.length = np) (h : m (ds.map Sl.im ++ List.replicate (N - np) .un) = .ok (.rt d) ρ') : runD np N m ds = .ok d [] := by
  unfold runD; rw [if_pos hl, h]; rfl
theorem run_nx {np N : Nat} {m : Cm Fl} {ds : List D} {ρ' : Ev} (hl : ds.length = np) (h : m (ds.map Sl.im ++ List.replicate (N - np) .un) = .ok .nx ρ') : runD np N m ds = .ok .non [] := by
  unfold runD; rw [if_pos hl, h]; rfl
theorem run_x {np N : Nat} {m : Cm Fl} {ds : List D} {ρ' : Ev} {n : Str} (hl : ds.length = np) (h : m (ds.map Sl.im ++ List.replicate (N - np) .un) = .exc n ρ') : runD np N m ds = .exc n [] := by
  unfold runD; rw [if_pos hl, h]
end
theorem shb {n : Nat} (h : Nat.ble n 1000 = true) : n ≤ sizeLine := Nat.le_trans (Nat.le_of_ble_eq_true h) sizeLine_big
theorem shl {n : Nat} (h : n ≤ 1000) : n ≤ sizeLine := Nat.le_trans h sizeLine_big
theorem lenD_tup {ds : List D} : lenD [.tup ds] = some (.int ds.length) := rfl
theorem lenD_lst {ds : List D} : lenD [.lst ds] = some (.int ds.length) := rfl
theorem cmp_t {p : Int → Int → Bool} {i j : Int} (h : p i j = true) : cmpI p (.int i) (.int j) = some (.bl true) := by show some (D.bl (p i j)) = _; rw [h]
theorem cmp_f {p : Int → Int → Bool} {i j : Int} (h : p i j = false) : cmpI p (.int i) (.int j) = some (.bl false) := by show some (D.bl (p i j)) = _; rw [h]
theorem eqI {a b : Int} : eqD (.int a) (.int b) = some (.bl (decide (a = b))) := by
  simp [eqD, D.py, PySem.SeqAt.shaped, PySem.PyData.canLay0, PySem.PyData.depth, PySem.PyData.eqv]
  by_cases h : a = b <;> simp [h]
theorem neI {a b : Int} : neD (.int a) (.int b) = some (.bl (!decide (a = b))) := by
  simp [neD, D.py, PySem.SeqAt.shaped, PySem.PyData.canLay0, PySem.PyData.depth, PySem.PyData.eqv]
  by_cases h : a = b <;> simp [h]
theorem eqI_t {a b : Int} (h : a = b) : eqD (.int a) (.int b) = some (.bl true) := by rw [eqI, decide_eq_true h]
theorem eqI_f {a b : Int} (h : a ≠ b) : eqD (.int a) (.int b) = some (.bl false) := by rw [eqI, decide_eq_false h]
theorem neI_f {a b : Int} (h : a = b) : neD (.int a) (.int b) = some (.bl false) := by rw [neI, decide_eq_true h]; rfl
theorem neI_t {a b : Int} (h : a ≠ b) : neD (.int a) (.int b) = some (.bl true) := by rw [neI, decide_eq_false h]; rfl
theorem modI {a b : Int} (h : b ≠ 0) : modD (.int a) (.int b) = some (.int (a.fmod b)) := if_pos h
theorem mulI {a b : Int} (h : mulOk a b = true) : mulD (.int a) (.int b) = some (.int (a * b)) := if_pos h
theorem fdivI {a b : Int} (h : fdivOk a b = true) : fdivD (.int a) (.int b) = some (.int (a.fdiv b)) := if_pos h
theorem setI_any {k : Nat} {d : D} {s : Sl} {ρ : Ev} (h : ρ[k]? = some s) (hs : ∀ es, s ≠ .ow es) : setI k d ρ = .ok () (ρ.set k (.im d)) := by
  unfold setI
  rw [h]
  cases s with
  | ow es => exact absurd rfl (hs es)
  | un => rfl
  | im d => rfl
theorem notT_f {a : Cm Bool} {ρ ρ1 : Ev} (h : a ρ = .ok true ρ1) : notT a ρ = .ok false ρ1 := notT_go h
theorem notT_t {a : Cm Bool} {ρ ρ1 : Ev} (h : a ρ = .ok false ρ1) : notT a ρ = .ok true ρ1 := notT_go h
theorem callL_gs {G : List D → List D → Rs (D × List D)} {k : Nat} {F : Cm (List D)} {ds es es' : List D} {z : D} {ρ ρ1 ρ2 : Ev} (h0 : V3.own k ρ = .ok (.o k) ρ) (h : F ρ = .ok ds ρ1) (hs : slotL ρ1 k = some es) (hR : CokL G es ds z es') (he : ρ1.set k (.ow es') = ρ2) : callL G k F ρ = .ok z ρ2 := he ▸ callL_go h0 h hs hR
theorem setIx_gs {k j : Nat} {i : Int} {fe fi : Cm D} {d : D} {es : List D} {ρ ρ1 ρ2 ρ3 : Ev} (h : fe ρ = .ok d ρ1) (h0 : V3.own k ρ1 = .ok (.o k) ρ1) (h1 : fi ρ1 = .ok (.int i) ρ2) (hs : slotL ρ2 k = some es) (hi : ixN es.length i = some j) (he : ρ2.set k (.ow (es.set j d)) = ρ3) : setIx k fe fi ρ = .ok .nx ρ3 := he ▸ setIx_go h h0 h1 hs hi
end V3
end

section
set_option Elab.async false
set_option linter.all false
set_option maxRecDepth 100000
set_option maxHeartbeats 1000000
/-! Veq: equality of data without truths. -/
namespace V3
open PySem (Str sizeLine PyData)
/-- data without truths and without lists that nobody writes, at most n deep -/
def D.nb : Nat → D → Prop
  | _, .non => True
  | _, .int _ => True
  | _, .str s => PyData.strOk s = true
  | n + 1, .lst ds => ∀ d ∈ ds, D.nb n d
  | n + 1, .tup ds => ∀ d ∈ ds, D.nb n d
  | _, _ => False
theorem D.nb.up {m : Nat} : ∀ {n : Nat} {d : D}, n ≤ m → D.nb n d → D.nb m d := by
  induction m with
  | zero =>
    intro n d h hd
    have : n = 0 := by omega
    subst this; exact hd
  | succ m ih =>
    intro n d h hd
    cases n with
    | zero => cases d <;> first | trivial | exact hd | exact hd.elim
    | succ n =>
      cases d with
      | lst ds => exact fun d hm => ih (by omega) (hd d hm)
      | tup ds => exact fun d hm => ih (by omega) (hd d hm)
      | _ => first | trivial | exact hd | exact hd.elim
theorem pyA_of {n : Nat} (h : ∀ d, D.nb n d → ∃ p, d.py = some p ∧ p.canLay0 = true ∧ p.depth ≤ n) : ∀ ds : List D, (∀ d ∈ ds, D.nb n d) → ∃ ps, D.pyA ds = some ps ∧ PyData.canLayAll0 ps = true ∧ PyData.depthAll ps ≤ n
  | [], _ => ⟨[], rfl, by simp [PyData.canLayAll0], by simp [PyData.depthAll]⟩
  | d :: ds, hd => by
    obtain ⟨p, h1, h2, h3⟩ := h d (hd d (List.mem_cons_self ..))
    obtain ⟨ps, q1, q2, q3⟩ := pyA_of h ds fun e he => hd e (List.mem_cons_of_mem _ he)
    refine ⟨p :: ps, ?_, ?_, ?_⟩
    · simp [D.pyA, h1, q1]
    · simp [PyData.canLayAll0, h2, q2]
    · simp [PyData.depthAll]; omega
theorem py_of : ∀ (n : Nat) (d : D), D.nb n d → ∃ p, d.py = some p ∧ p.canLay0 = true ∧ p.depth ≤ n := by
  intro n
  induction n with
  | zero =>
    intro d h
    cases d with
    | non => exact ⟨_, rfl, by simp [PyData.canLay0], by simp [PyData.depth]⟩
    | int i => exact ⟨_, rfl, by simp [PyData.canLay0], by simp [PyData.depth]⟩
    | str s => exact ⟨_, rfl, (by simp only [PyData.canLay0]; exact h), by simp [PyData.depth]⟩
    | _ => exact h.elim
  | succ n ih =>
    intro d h
    cases d with
    | non => exact ⟨_, rfl, by simp [PyData.canLay0], by simp [PyData.depth]⟩
    | int i => exact ⟨_, rfl, by simp [PyData.canLay0], by simp [PyData.depth]⟩
    | str s => exact ⟨_, rfl, (by simp only [PyData.canLay0]; exact h), by simp [PyData.depth]⟩
    | lst ds =>
      obtain ⟨ps, q1, q2, q3⟩ := pyA_of ih ds h
      exact ⟨.list ps, by simp [D.py, q1], by simpa [PyData.canLay0] using q2, by simp [PyData.depth]; omega⟩
    | tup ds =>
      obtain ⟨ps, q1, q2, q3⟩ := pyA_of ih ds h
      exact ⟨.tuple ps, by simp [D.py, q1], by simpa [PyData.canLay0] using q2, by simp [PyData.depth]; omega⟩
    | _ => exact h.elim
theorem eqvA_of {n : Nat} (h : ∀ d e, D.nb n d → D.nb n e → ∀ p q, d.py = some p → e.py = some q → (PyData.eqv p q = true ↔ d = e)) : ∀ (ds es : List D), (∀ d ∈ ds, D.nb n d) → (∀ d ∈ es, D.nb n d) → ∀ ps qs, D.pyA ds = some ps → D.pyA es = some qs → (PyData.eqvAll ps qs = true ↔ ds = es)
  | [], [], _, _, ps, qs, h1, h2 => by
    cases h1; cases h2; simp [PyData.eqvAll]
  | [], e :: es, _, he, ps, qs, h1, h2 => by
    obtain ⟨q, q1, _⟩ := py_of n e (he e (List.mem_cons_self ..))
    obtain ⟨qs', q2, _⟩ := pyA_of (py_of n) es fun d hd => he d (List.mem_cons_of_mem _ hd)
    cases h1
    simp [D.pyA, q1, q2] at h2
    subst h2
    simp [PyData.eqvAll]
  | d :: ds, [], hd, _, ps, qs, h1, h2 => by
    obtain ⟨q, q1, _⟩ := py_of n d (hd d (List.mem_cons_self ..))
    obtain ⟨qs', q2, _⟩ := pyA_of (py_of n) ds fun e he => hd e (List.mem_cons_of_mem _ he)
    cases h2
    simp [D.pyA, q1, q2] at h1
    subst h1
    simp [PyData.eqvAll]
  | d :: ds, e :: es, hd, he, ps, qs, h1, h2 => by
    obtain ⟨p, p1, _⟩ := py_of n d (hd d (List.mem_cons_self ..))
    obtain ⟨ps', p2, _⟩ := pyA_of (py_of n) ds fun e he => hd e (List.mem_cons_of_mem _ he)
    obtain ⟨q, q1, _⟩ := py_of n e (he e (List.mem_cons_self ..))
    obtain ⟨qs', q2, _⟩ := pyA_of (py_of n) es fun d hd => he d (List.mem_cons_of_mem _ hd)
    simp [D.pyA, q1, q2] at h2
    simp [D.pyA, p1, p2] at h1
    subst h1 h2
    have a := h d e (hd d (List.mem_cons_self ..)) (he e (List.mem_cons_self ..)) p q p1 q1
    have b := eqvA_of h ds es (fun e he => hd e (List.mem_cons_of_mem _ he)) (fun d hd => he d (List.mem_cons_of_mem _ hd)) ps' qs' p2 q2
    simp only [PyData.eqvAll, Bool.and_eq_true, a, b, List.cons.injEq]
theorem eqv_of : ∀ (n : Nat) (d e : D), D.nb n d → D.nb n e → ∀ p q, d.py = some p → e.py = some q → (PyData.eqv p q = true ↔ d = e) := by
  intro n
  induction n with
  | zero =>
    intro d e hd he p q h1 h2
    cases d <;> first | exact hd.elim | skip
    all_goals (cases e <;> first | exact he.elim | skip)
    all_goals (cases h1; cases h2; simp [PyData.eqv])
  | succ n ih =>
    intro d e hd he p q h1 h2
    cases d <;> first | exact hd.elim | skip
    all_goals (cases e <;> first | exact he.elim | skip)
    case lst.lst ds es =>
      obtain ⟨ps, p1, _⟩ := pyA_of (py_of n) ds hd
      obtain ⟨qs, q1, _⟩ := pyA_of (py_of n) es he
      simp [D.py, p1] at h1
      simp [D.py, q1] at h2
      subst h1 h2
      rw [D.lst.injEq, ← eqvA_of ih ds es hd he ps qs p1 q1]
      simp [PyData.eqv]
    case tup.tup ds es =>
      obtain ⟨ps, p1, _⟩ := pyA_of (py_of n) ds hd
      obtain ⟨qs, q1, _⟩ := pyA_of (py_of n) es he
      simp [D.py, p1] at h1
      simp [D.py, q1] at h2
      subst h1 h2
      rw [D.tup.injEq, ← eqvA_of ih ds es hd he ps qs p1 q1]
      simp [PyData.eqv]
    all_goals simp only [D.py, Option.map_eq_some_iff, Option.some.injEq] at h1 h2
    all_goals first
      | (subst h1; subst h2; simp [PyData.eqv]; done)
      | (obtain ⟨_, _, h1⟩ := h1; subst h1; subst h2; simp [PyData.eqv]; done)
      | (obtain ⟨_, _, h2⟩ := h2; subst h1; subst h2; simp [PyData.eqv]; done)
      | (obtain ⟨_, _, h1⟩ := h1; obtain ⟨_, _, h2⟩ := h2; subst h1; subst h2; simp [PyData.eqv]; done)
theorem shaped_of {n : Nat} {d : D} {p : PyData} (h : D.nb n d) (hn : n ≤ 64) (e : d.py = some p) : PySem.SeqAt.shaped p = true := by
  obtain ⟨p', h1, h2, h3⟩ := py_of n d h
  rw [e] at h1
  cases h1
  unfold PySem.SeqAt.shaped
  rw [h2, decide_eq_true (by omega)]
  rfl
open Classical in
theorem eqD_nb {n : Nat} {d e : D} (hd : D.nb n d) (he : D.nb n e) (hn : n ≤ 64) : eqD d e = some (.bl (decide (d = e))) := by
  obtain ⟨p, p1, _⟩ := py_of n d hd
  obtain ⟨q, q1, _⟩ := py_of n e he
  unfold eqD
  rw [p1, q1]
  dsimp only
  rw [if_pos ⟨shaped_of hd hn p1, shaped_of he hn q1⟩]
  congr 2
  rw [Bool.eq_iff_iff, decide_eq_true_iff]
  exact eqv_of n d e hd he p q p1 q1
open Classical in
theorem neD_nb {n : Nat} {d e : D} (hd : D.nb n d) (he : D.nb n e) (hn : n ≤ 64) : neD d e = some (.bl (!decide (d = e))) := by
  obtain ⟨p, p1, _⟩ := py_of n d hd
  obtain ⟨q, q1, _⟩ := py_of n e he
  unfold neD
  rw [p1, q1]
  dsimp only
  rw [if_pos ⟨shaped_of hd hn p1, shaped_of he hn q1⟩]
  congr 3
  rw [Bool.eq_iff_iff, decide_eq_true_iff]
  exact eqv_of n d e hd he p q p1 q1
open Classical in
theorem eqD_t {n : Nat} {d e : D} (hd : D.nb n d) (he : D.nb n e) (hn : n ≤ 64) (h : d = e) : eqD d e = some (.bl true) := by
  rw [eqD_nb hd he hn, decide_eq_true h]
open Classical in
theorem eqD_f {n : Nat} {d e : D} (hd : D.nb n d) (he : D.nb n e) (hn : n ≤ 64) (h : d ≠ e) : eqD d e = some (.bl false) := by
  rw [eqD_nb hd he hn, decide_eq_false h]
open Classical in
theorem neD_t {n : Nat} {d e : D} (hd : D.nb n d) (he : D.nb n e) (hn : n ≤ 64) (h : d ≠ e) : neD d e = some (.bl true) := by
  rw [neD_nb hd he hn, decide_eq_false h]; rfl
open Classical in
theorem neD_f {n : Nat} {d e : D} (hd : D.nb n d) (he : D.nb n e) (hn : n ≤ 64) (h : d = e) : neD d e = some (.bl false) := by
  rw [neD_nb hd he hn, decide_eq_true h]; rfl
open Classical in
theorem inD_nb {n : Nat} {d : D} {ds : List D} (hd : D.nb n d) (he : ∀ e ∈ ds, D.nb n e) (hn : n ≤ 60) (hs : ∀ s, d ≠ .str s) : inD d (.lst ds) = some (.bl (decide (d ∈ ds))) := by
  obtain ⟨p, p1, _⟩ := py_of n d hd
  obtain ⟨qs, q1, q2, q3⟩ := pyA_of (py_of n) ds he
  have hs2 : PySem.SeqAt.shaped (.list qs) = true := by
    unfold PySem.SeqAt.shaped
    simp [PyData.canLay0, PyData.depth, q2]
    omega
  have e1 : inD d (.lst ds) = some (.bl (qs.any fun z => PyData.eqv z p)) := by
    cases d with
    | str s => exact absurd rfl (hs s)
    | _ => simp only [inD, p1, q1, shaped_of hd (by omega) p1, hs2, and_self, if_true]
  rw [e1]
  congr 2
  have key : ∀ (ds : List D), (∀ e ∈ ds, D.nb n e) → ∀ qs, D.pyA ds = some qs → ((qs.any fun z => PyData.eqv z p) = true ↔ d ∈ ds) := by
    intro ds
    induction ds with
    | nil => intro _ qs h; cases h; simp
    | cons a r ih =>
      intro h qs hq
      obtain ⟨pa, a1, _⟩ := py_of n a (h a (List.mem_cons_self ..))
      obtain ⟨pr, r1, _⟩ := pyA_of (py_of n) r fun e he => h e (List.mem_cons_of_mem _ he)
      simp [D.pyA, a1, r1] at hq
      subst hq
      rw [List.any_cons, Bool.or_eq_true, ih (fun e he => h e (List.mem_cons_of_mem _ he)) pr r1, eqv_of n a d (h a (List.mem_cons_self ..)) hd pa p a1 p1, List.mem_cons]
      exact ⟨fun z => z.imp Eq.symm id, fun z => z.imp Eq.symm id⟩
  rw [Bool.eq_iff_iff, decide_eq_true_iff]
  exact key ds he qs q1
end V3
end

section
set_option Elab.async false
set_option linter.all false
set_option maxRecDepth 100000
set_option maxHeartbeats 4000000
/-! printed by gen.py -/
namespace K82
open PySem PySem.Spec PyProof.Rows L2 V3
variable {P : Program} {w : World} {K : PySem.W.Frag} {mg : Str → Option Value} {base : Heap}
def topS (i : Nat) : Stmt := PySem.Challenge.pw_slopeverdict_k82_texts_of_numbers_and_qu.main.body.getD i (.Pass ⟨0, 0, 0, 0⟩)
structure Bi (mg : Str → Option Value) : Prop where
  ValueError : mg "ValueError" = none
  abs : mg "abs" = none
  all : mg "all" = none
  bool : mg "bool" = none
  int : mg "int" = none
  isinstance : mg "isinstance" = none
  len : mg "len" = none
  list : mg "list" = none
  max : mg "max" = none
  min : mg "min" = none
  range : mg "range" = none
  str : mg "str" = none
  tuple : mg "tuple" = none
structure RdT (K : PySem.W.Frag) (mg : Str → Option Value) : Prop where
  ex : ∃ C_NoText C_SlopeError C_NoNumber C_NoPlace C_NoStep C_NoRow C_NoName : Addr, mg "NoText" = some (.ref C_NoText) ∧ mg "SlopeError" = some (.ref C_SlopeError) ∧ mg "NoNumber" = some (.ref C_NoNumber) ∧ mg "NoPlace" = some (.ref C_NoPlace) ∧ mg "NoStep" = some (.ref C_NoStep) ∧ mg "NoRow" = some (.ref C_NoRow) ∧ mg "NoName" = some (.ref C_NoName) ∧ ExcC K C_NoText ∧ PySem.W.exmOne K (.ref C_NoText) (.ref C_SlopeError) = some true ∧ PySem.W.kitOne K (.ref C_NoText) (.type "ValueError") = some true ∧ PySem.W.kitAny K (.ref C_NoText) [.ref C_NoNumber, .ref C_NoPlace, .ref C_NoStep, .ref C_NoRow, .ref C_NoName] = some false ∧ PySem.W.kitOne K (.ref C_NoText) (.ref C_NoText) = some true
/-! ### divisor -/
abbrev s_divisor : Stmt := topS 9
theorem sc_divisor : FnScope ["one", "other"] ["one", "other"] (defScope s_divisor) := ⟨rfl, rfl, rfl, by decide +kernel, rfl, by decide +kernel, by decide +kernel⟩
noncomputable def m_divisor : Cm Fl := (thenS (asgS 0 (opA absD (consG (vl (var 0)) (ret [])))) (thenS (asgS 1 (opA absD (consG (vl (var 1)) (ret [])))) (thenS (whl (blE (op2 (cmpI fun i j => decide (j < i)) (var 1) (ret (.int 0)))) (parS 0 1 (consA (var 1) (consA (op2 modD (var 0) (var 1)) (ret []))))) (retS (var 0)))))
noncomputable def R_divisor : List D → Rs D := runD 2 2 m_divisor
theorem ok_divisor {f : Addr} {fd : FuncData} (D0 : Fun K "divisor" "divisor" s_divisor f fd) (hm : mg "divisor" = some (.ref f)) (b : Bi mg)  : FD P w K mg base 1 "divisor" (spF K mg 2 2 false m_divisor) :=
  fd_mk (ps := ["one", "other"]) D0 hm (D0.binds (ps := ["one", "other"]) fun _ _ _ _ _ _ us hl => match us, hl with | [_, _], _ => rfl) (fnV (np := 2) (fr := false) D0 sc_divisor rfl fun cdv A outer s H E O ρ vs hr => by
    have nd := sc_divisor.nd
    exact (ss_cons (sv_asg nd rfl (.inl rfl) (pv_callB call_abs prim_abs rfl b.abs PySem.boot_abs' (ga_cons (pg_vl (pv_var 0 (pe_var (i := 0) rfl (by exact Or.inl rfl)))) ga_nil))) (ss_cons (sv_asg nd rfl (.inl rfl) (pv_callB call_abs prim_abs rfl b.abs PySem.boot_abs' (ga_cons (pg_vl (pv_var 1 (pe_var (i := 1) rfl (by exact Or.inl rfl)))) ga_nil))) (ss_cons (sv_while pas_cx (tt_cmp op_gt prim_cmpI rfl (pv_var 1 (pe_var (i := 1) rfl (by exact Or.inl rfl))) pv_int) (ss_one (sv_par rfl nd rfl rfl (by decide) rfl rfl (av_cons (pv_var 1 (pe_var (i := 1) rfl (by exact Or.inl rfl))) (av_cons (pv_op2 op_modN prim_mod (pv_var 0 (pe_var (i := 0) rfl (by exact Or.inl rfl))) (pv_var 1 (pe_var (i := 1) rfl (by exact Or.inl rfl)))) av_nil)) rfl))) (ss_one (sv_ret rfl (pv_var 0 (pe_var (i := 0) rfl (by exact Or.inl rfl)))))))))
/-! ### number -/
abbrev s_number : Stmt := topS 10
theorem sc_number : FnScope ["top", "bottom", "part"] ["top", "bottom"] (defScope s_number) := ⟨rfl, rfl, rfl, by decide +kernel, rfl, by decide +kernel, by decide +kernel⟩
noncomputable def m_number : Cm Fl := (thenS (ifS (blE (op2 eqD (var 1) (ret (.int 0)))) (raiseS "NoNumber") skipS) (thenS (asgS 2 (callA R_divisor (consG (vl (var 0)) (consG (vl (var 1)) (ret []))))) (thenS (ifS (blE (op2 (cmpI fun i j => decide (i < j)) (var 1) (ret (.int 0)))) (asgS 2 (op1 negD (var 2))) skipS) (retS (tupE (consA (op2 fdivD (var 0) (var 2)) (consA (op2 fdivD (var 1) (var 2)) (ret []))))))))
noncomputable def R_number : List D → Rs D := runD 2 3 m_number
theorem ok_number {f : Addr} {fd : FuncData} (D0 : FunD K "number" "number" (defArgs s_number) (defBody s_number) (defScope s_number) [.int 1] [] f fd) (hm : mg "number" = some (.ref f)) (b : Bi mg) (F_divisor : FD P w K mg base 1 "divisor" (spF K mg 2 2 false m_divisor)) (k_NoNumber : ExcT K mg "NoNumber") : FD P w K mg base 2 "number" (spF K mg 2 3 false m_number) :=
  fd_mkD (ps := ["top", "bottom"]) D0 hm (by simp) 2 rfl (fun _ _ _ _ _ _ _ us its h1 h2 => match us, its, h1, h2 with | [_, _], [_], _, _ => ⟨_, rfl, rfl⟩) (fnVD (np := 2) (fr := false) D0 sc_number rfl fun cdv A outer s H E O ρ vs hr => by
    have nd := sc_number.nd
    exact (ss_cons (sv_if (tt_cmp (op_eqD (Room.units hr)) prim_eq rfl (pv_var 1 (pe_var (i := 1) rfl (by exact Or.inl rfl))) pv_int) (ss_one (sv_raiseC rfl tk_cx rfl rfl k_NoNumber)) ss_nil) (ss_cons (sv_asg nd rfl (.inl rfl) (cv F_divisor (Room.mono hr (by decide : 1 ≤ 1)) rfl rfl rfl air_cx rfl (ga_cons (pg_vl (pv_var 0 (pe_var (i := 0) rfl (by exact Or.inl rfl)))) (ga_cons (pg_vl (pv_var 1 (pe_var (i := 1) rfl (by exact Or.inl rfl)))) ga_nil)))) (ss_cons (sv_if (tt_cmp op_lt prim_cmpI rfl (pv_var 1 (pe_var (i := 1) rfl (by exact Or.inl rfl))) pv_int) (ss_one (sv_asg nd rfl (.inl rfl) (pv_op1 un_neg prim_neg (pv_var 2 (pe_var (i := 2) rfl (by exact Or.inl rfl)))))) ss_nil) (ss_one (sv_ret rfl (pv_tup (av_cons (pv_op2 op_fdivV prim_fdiv (pv_var 0 (pe_var (i := 0) rfl (by exact Or.inl rfl))) (pv_var 2 (pe_var (i := 2) rfl (by exact Or.inl rfl)))) (av_cons (pv_op2 op_fdivV prim_fdiv (pv_var 1 (pe_var (i := 1) rfl (by exact Or.inl rfl))) (pv_var 2 (pe_var (i := 2) rfl (by exact Or.inl rfl)))) av_nil)))))))))
/-! ### poly -/
abbrev s_poly : Stmt := topS 12
theorem sc_poly : FnScope ["figures", "many"] ["figures"] (defScope s_poly) := ⟨rfl, rfl, rfl, by decide +kernel, rfl, by decide +kernel, by decide +kernel⟩
noncomputable def m_poly : Cm Fl := (thenS (asgS 1 (opA lenD (consG (vl (var 0)) (ret [])))) (thenS (whl (andT (blE (op2 (cmpI fun i j => decide (j < i)) (var 1) (ret (.int 0)))) (blE (op2 eqD (op2 ixD (var 0) (op2 subD (var 1) (ret (.int 1)))) (ret (.int 0))))) (asgS 1 (op2 subD (var 1) (ret (.int 1))))) (retS (opA tupleD (consG (vl (slE (vl (var 0)) partN (partS (var 1)))) (ret []))))))
noncomputable def R_poly : List D → Rs D := runD 1 2 m_poly
theorem ok_poly {f : Addr} {fd : FuncData} (D0 : Fun K "poly" "poly" s_poly f fd) (hm : mg "poly" = some (.ref f)) (b : Bi mg)  : FD P w K mg base 1 "poly" (spF K mg 1 2 false m_poly) :=
  fd_mk (ps := ["figures"]) D0 hm (D0.binds (ps := ["figures"]) fun _ _ _ _ _ _ us hl => match us, hl with | [_], _ => rfl) (fnV (np := 1) (fr := false) D0 sc_poly rfl fun cdv A outer s H E O ρ vs hr => by
    have nd := sc_poly.nd
    exact (ss_cons (sv_asg nd rfl (.inl rfl) (pv_callB call_lenV prim_len rfl b.len PySem.boot_len' (ga_cons (pg_vl (pv_var 0 (pe_var (i := 0) rfl (by exact Or.inl rfl)))) ga_nil))) (ss_cons (sv_while pas_cx (PW.pt (wt_and (tt_cmp op_gt prim_cmpI rfl (pv_var 1 (pe_var (i := 1) rfl (by exact Or.inl rfl))) pv_int) (wt_and1 (tt_cmp (op_eqD (Room.units hr)) prim_eq rfl (pv_ix prim_ix (pv_var 0 (pe_var (i := 0) rfl (by exact Or.inl rfl))) (pv_op2 op_sub prim_sub (pv_var 1 (pe_var (i := 1) rfl (by exact Or.inl rfl))) pv_int) (fun _ _ => rfl)) pv_int)))) (ss_one (sv_asg nd rfl (.inl rfl) (pv_op2 op_sub prim_sub (pv_var 1 (pe_var (i := 1) rfl (by exact Or.inl rfl))) pv_int)))) (ss_one (sv_ret rfl (pv_callTy call_tuple_of prim_tuple rfl b.tuple PySem.boot_tuple' (ga_cons (pg_vl (pv_sl rfl (pg_vl (pv_var 0 (pe_var (i := 0) rfl (by exact Or.inl rfl)))) pp_none (pp_some (pv_var 1 (pe_var (i := 1) rfl (by exact Or.inl rfl)))))) ga_nil)))))))
/-! ### figure_at -/
abbrev s_figure_at : Stmt := topS 13
theorem sc_figure_at : FnScope ["one", "power"] ["one", "power"] (defScope s_figure_at) := ⟨rfl, rfl, rfl, by decide +kernel, rfl, by decide +kernel, by decide +kernel⟩
noncomputable def m_figure_at : Cm Fl := (retS (ifE (blE (op2 (cmpI fun i j => decide (i < j)) (var 1) (opA lenD (consG (vl (var 0)) (ret []))))) (op2 ixD (var 0) (var 1)) (ret (.int 0))))
noncomputable def R_figure_at : List D → Rs D := runD 2 2 m_figure_at
theorem ok_figure_at {f : Addr} {fd : FuncData} (D0 : Fun K "figure_at" "figure_at" s_figure_at f fd) (hm : mg "figure_at" = some (.ref f)) (b : Bi mg)  : FD P w K mg base 1 "figure_at" (spF K mg 2 2 false m_figure_at) :=
  fd_mk (ps := ["one", "power"]) D0 hm (D0.binds (ps := ["one", "power"]) fun _ _ _ _ _ _ us hl => match us, hl with | [_, _], _ => rfl) (fnV (np := 2) (fr := false) D0 sc_figure_at rfl fun cdv A outer s H E O ρ vs hr => by
    have nd := sc_figure_at.nd
    exact (ss_one (sv_ret rfl (pv_if (tt_cmp op_lt prim_cmpI rfl (pv_var 1 (pe_var (i := 1) rfl (by exact Or.inl rfl))) (pv_callB call_lenV prim_len rfl b.len PySem.boot_len' (ga_cons (pg_vl (pv_var 0 (pe_var (i := 0) rfl (by exact Or.inl rfl)))) ga_nil))) (pv_ix prim_ix (pv_var 0 (pe_var (i := 0) rfl (by exact Or.inl rfl))) (pv_var 1 (pe_var (i := 1) rfl (by exact Or.inl rfl))) (fun _ _ => rfl)) pv_int))))
/-! ### poly_minus -/
abbrev s_poly_minus : Stmt := topS 14
theorem sc_poly_minus : FnScope ["one", "other", "many", "k"] ["one", "other"] (defScope s_poly_minus) := ⟨rfl, rfl, rfl, by decide +kernel, rfl, by decide +kernel, by decide +kernel⟩
noncomputable def m_poly_minus : Cm Fl := (thenS (asgS 2 (opA maxD (consG (vl (opA lenD (consG (vl (var 0)) (ret [])))) (consG (vl (opA lenD (consG (vl (var 1)) (ret [])))) (ret []))))) (retS (callA R_poly (consG (vl (lsE (lcE [3] (rng1S (consA (var 2) (ret []))) (setI 3) (ret true) (op2 subD (callA R_figure_at (consG (vl (var 0)) (consG (vl (var 3)) (ret [])))) (callA R_figure_at (consG (vl (var 1)) (consG (vl (var 3)) (ret [])))))))) (ret [])))))
noncomputable def R_poly_minus : List D → Rs D := runD 2 4 m_poly_minus
theorem ok_poly_minus {f : Addr} {fd : FuncData} (D0 : Fun K "poly_minus" "poly_minus" s_poly_minus f fd) (hm : mg "poly_minus" = some (.ref f)) (b : Bi mg) (F_poly : FD P w K mg base 1 "poly" (spF K mg 1 2 false m_poly)) (F_figure_at : FD P w K mg base 1 "figure_at" (spF K mg 2 2 false m_figure_at)) : FD P w K mg base 2 "poly_minus" (spF K mg 2 4 false m_poly_minus) :=
  fd_mk (ps := ["one", "other"]) D0 hm (D0.binds (ps := ["one", "other"]) fun _ _ _ _ _ _ us hl => match us, hl with | [_, _], _ => rfl) (fnV (np := 2) (fr := false) D0 sc_poly_minus rfl fun cdv A outer s H E O ρ vs hr => by
    have nd := sc_poly_minus.nd
    exact (ss_cons (sv_asg nd rfl (.inl rfl) (pv_callB (call_max2 rfl) prim_max rfl b.max PySem.boot_max' (ga_cons (pg_vl (pv_callB call_lenV prim_len rfl b.len PySem.boot_len' (ga_cons (pg_vl (pv_var 0 (pe_var (i := 0) rfl (by exact Or.inr (Or.inl rfl))))) ga_nil))) (ga_cons (pg_vl (pv_callB call_lenV prim_len rfl b.len PySem.boot_len' (ga_cons (pg_vl (pv_var 1 (pe_var (i := 1) rfl (by exact Or.inr (Or.inl rfl))))) ga_nil))) ga_nil)))) (ss_one (sv_ret rfl (cv F_poly (Room.mono hr (by decide : 1 ≤ 1)) rfl rfl rfl air_cx rfl (ga_cons (pg_vl (pv_fresh (pf_lc (own := [("k", 3)]) (vs := [3]) frm_cx air_cx rfl nd (iv_rng1 rfl b.range (av_cons (pv_var 2 (pe_var (i := 2) rfl (by exact Or.inl rfl))) av_nil)) (blkOk_by (N := ["one", "other", "many", "k"]) (sc := defScope s_poly_minus) (own := [("k", 3)]) (by decide +kernel)) rfl (fun _ _ _ _ _ _ => gv_name (i := 3) nd rfl (.inl rfl)) (fun _ _ _ _ _ _ => tt_nil) (fun _ _ _ _ _ _ => (pv_op2 op_sub prim_sub (cv F_figure_at (Room.mono hr (by decide : 1 ≤ 1)) rfl rfl rfl air_blk rfl (ga_cons (pg_vl (pv_var 0 (pe_var (i := 0) rfl (by exact Or.inr (Or.inl rfl))))) (ga_cons (pg_vl (pv_var 3 (pe_var (i := 3) rfl (by exact Or.inl rfl)))) ga_nil))) (cv F_figure_at (Room.mono hr (by decide : 1 ≤ 1)) rfl rfl rfl air_blk rfl (ga_cons (pg_vl (pv_var 1 (pe_var (i := 1) rfl (by exact Or.inr (Or.inl rfl))))) (ga_cons (pg_vl (pv_var 3 (pe_var (i := 3) rfl (by exact Or.inl rfl)))) ga_nil)))))))) ga_nil))))))
/-! ### scaled -/
abbrev s_scaled : Stmt := topS 15
theorem sc_scaled : FnScope ["one", "often", "figure"] ["one", "often"] (defScope s_scaled) := ⟨rfl, rfl, rfl, by decide +kernel, rfl, by decide +kernel, by decide +kernel⟩
noncomputable def m_scaled : Cm Fl := (retS (callA R_poly (consG (vl (lsE (lcE [2] (tupS (var 0)) (setI 2) (ret true) (op2 mulD (var 2) (var 1))))) (ret []))))
noncomputable def R_scaled : List D → Rs D := runD 2 3 m_scaled
theorem ok_scaled {f : Addr} {fd : FuncData} (D0 : Fun K "scaled" "scaled" s_scaled f fd) (hm : mg "scaled" = some (.ref f)) (b : Bi mg) (F_poly : FD P w K mg base 1 "poly" (spF K mg 1 2 false m_poly)) : FD P w K mg base 2 "scaled" (spF K mg 2 3 false m_scaled) :=
  fd_mk (ps := ["one", "often"]) D0 hm (D0.binds (ps := ["one", "often"]) fun _ _ _ _ _ _ us hl => match us, hl with | [_, _], _ => rfl) (fnV (np := 2) (fr := false) D0 sc_scaled rfl fun cdv A outer s H E O ρ vs hr => by
    have nd := sc_scaled.nd
    exact (ss_one (sv_ret rfl (cv F_poly (Room.mono hr (by decide : 1 ≤ 1)) rfl rfl rfl air_cx rfl (ga_cons (pg_vl (pv_fresh (pf_lc (own := [("figure", 2)]) (vs := [2]) frm_cx air_cx rfl nd (iv_tup rfl (pv_var 0 (pe_var (i := 0) rfl (by exact Or.inl rfl)))) (blkOk_by (N := ["one", "often", "figure"]) (sc := defScope s_scaled) (own := [("figure", 2)]) (by decide +kernel)) rfl (fun _ _ _ _ _ _ => gv_name (i := 2) nd rfl (.inl rfl)) (fun _ _ _ _ _ _ => tt_nil) (fun _ _ _ _ _ _ => (pv_op2 op_mulAll prim_mul (pv_var 2 (pe_var (i := 2) rfl (by exact Or.inl rfl))) (pv_var 1 (pe_var (i := 1) rfl (by exact Or.inr (Or.inl rfl))))))))) ga_nil)))))
/-! ### raised -/
abbrev s_raised : Stmt := topS 16
theorem sc_raised : FnScope ["one", "power"] ["one", "power"] (defScope s_raised) := ⟨rfl, rfl, rfl, by decide +kernel, rfl, by decide +kernel, by decide +kernel⟩
noncomputable def m_raised : Cm Fl := (retS (ifE (blE (op2 neD (var 0) (tupE (ret [])))) (op2 addD (op2 mulD (tupE (consA (ret (.int 0)) (ret []))) (var 1)) (var 0)) (tupE (ret []))))
noncomputable def R_raised : List D → Rs D := runD 2 2 m_raised
theorem ok_raised {f : Addr} {fd : FuncData} (D0 : Fun K "raised" "raised" s_raised f fd) (hm : mg "raised" = some (.ref f)) (b : Bi mg)  : FD P w K mg base 1 "raised" (spF K mg 2 2 false m_raised) :=
  fd_mk (ps := ["one", "power"]) D0 hm (D0.binds (ps := ["one", "power"]) fun _ _ _ _ _ _ us hl => match us, hl with | [_, _], _ => rfl) (fnV (np := 2) (fr := false) D0 sc_raised rfl fun cdv A outer s H E O ρ vs hr => by
    have nd := sc_raised.nd
    exact (ss_one (sv_ret rfl (pv_if (tt_cmp (op_neD (Room.units hr)) prim_ne rfl (pv_var 0 (pe_var (i := 0) rfl (by exact Or.inl rfl))) (pv_tup av_nil)) (pv_op2 op_addV prim_add (pv_op2 op_mulAll prim_mul (pv_tup (av_cons pv_int av_nil)) (pv_var 1 (pe_var (i := 1) rfl (by exact Or.inl rfl)))) (pv_var 0 (pe_var (i := 0) rfl (by exact Or.inl rfl)))) (pv_tup av_nil)))))
/-! ### content -/
abbrev s_content : Stmt := topS 17
theorem sc_content : FnScope ["one", "found", "figure"] ["one"] (defScope s_content) := ⟨rfl, rfl, rfl, by decide +kernel, rfl, by decide +kernel, by decide +kernel⟩
noncomputable def m_content : Cm Fl := (thenS (asgS 1 (ret (.int 0))) (thenS (forS (tupS (var 0)) (setI 2) (asgS 1 (callA R_divisor (consG (vl (var 1)) (consG (vl (var 2)) (ret [])))))) (retS (var 1))))
noncomputable def R_content : List D → Rs D := runD 1 3 m_content
theorem ok_content {f : Addr} {fd : FuncData} (D0 : Fun K "content" "content" s_content f fd) (hm : mg "content" = some (.ref f)) (b : Bi mg) (F_divisor : FD P w K mg base 1 "divisor" (spF K mg 2 2 false m_divisor)) : FD P w K mg base 2 "content" (spF K mg 1 3 false m_content) :=
  fd_mk (ps := ["one"]) D0 hm (D0.binds (ps := ["one"]) fun _ _ _ _ _ _ us hl => match us, hl with | [_], _ => rfl) (fnV (np := 1) (fr := false) D0 sc_content rfl fun cdv A outer s H E O ρ vs hr => by
    have nd := sc_content.nd
    exact (ss_cons (sv_asg nd rfl (.inl rfl) pv_int) (ss_cons (sv_for pas_cx rfl (iv_tup rfl (pv_var 0 (pe_var (i := 0) rfl (by exact Or.inl rfl)))) (gv_name (i := 2) nd rfl (.inl rfl)) (ss_one (sv_asg nd rfl (.inl rfl) (cv F_divisor (Room.mono hr (by decide : 1 ≤ 1)) rfl rfl rfl air_cx rfl (ga_cons (pg_vl (pv_var 1 (pe_var (i := 1) rfl (by exact Or.inl rfl)))) (ga_cons (pg_vl (pv_var 2 (pe_var (i := 2) rfl (by exact Or.inl rfl)))) ga_nil)))))) (ss_one (sv_ret rfl (pv_var 1 (pe_var (i := 1) rfl (by exact Or.inl rfl))))))))
/-! ### parted -/
abbrev s_parted : Stmt := topS 18
theorem sc_parted : FnScope ["one", "whole", "figure"] ["one", "whole"] (defScope s_parted) := ⟨rfl, rfl, rfl, by decide +kernel, rfl, by decide +kernel, by decide +kernel⟩
noncomputable def m_parted : Cm Fl := (retS (opA tupleD (consG (vl (lsE (lcE [2] (tupS (var 0)) (setI 2) (ret true) (op2 fdivD (var 2) (var 1))))) (ret []))))
noncomputable def R_parted : List D → Rs D := runD 2 3 m_parted
theorem ok_parted {f : Addr} {fd : FuncData} (D0 : Fun K "parted" "parted" s_parted f fd) (hm : mg "parted" = some (.ref f)) (b : Bi mg)  : FD P w K mg base 1 "parted" (spF K mg 2 3 false m_parted) :=
  fd_mk (ps := ["one", "whole"]) D0 hm (D0.binds (ps := ["one", "whole"]) fun _ _ _ _ _ _ us hl => match us, hl with | [_, _], _ => rfl) (fnV (np := 2) (fr := false) D0 sc_parted rfl fun cdv A outer s H E O ρ vs hr => by
    have nd := sc_parted.nd
    exact (ss_one (sv_ret rfl (pv_callTy call_tuple_of prim_tuple rfl b.tuple PySem.boot_tuple' (ga_cons (pg_vl (pv_fresh (pf_lc (own := [("figure", 2)]) (vs := [2]) frm_cx air_cx rfl nd (iv_tup rfl (pv_var 0 (pe_var (i := 0) rfl (by exact Or.inl rfl)))) (blkOk_by (N := ["one", "whole", "figure"]) (sc := defScope s_parted) (own := [("figure", 2)]) (by decide +kernel)) rfl (fun _ _ _ _ _ _ => gv_name (i := 2) nd rfl (.inl rfl)) (fun _ _ _ _ _ _ => tt_nil) (fun _ _ _ _ _ _ => (pv_op2 op_fdivV prim_fdiv (pv_var 2 (pe_var (i := 2) rfl (by exact Or.inl rfl))) (pv_var 1 (pe_var (i := 1) rfl (by exact Or.inr (Or.inl rfl))))))))) ga_nil)))))
/-! ### plain -/
abbrev s_plain : Stmt := topS 19
theorem sc_plain : FnScope ["one", "part"] ["one"] (defScope s_plain) := ⟨rfl, rfl, rfl, by decide +kernel, rfl, by decide +kernel, by decide +kernel⟩
noncomputable def m_plain : Cm Fl := (thenS (ifS (blE (op2 eqD (var 0) (tupE (ret [])))) (retS (tupE (ret []))) skipS) (thenS (asgS 1 (callA R_content (consG (vl (var 0)) (ret [])))) (retS (callA R_parted (consG (vl (var 0)) (consG (vl (ifE (blE (op2 (cmpI fun i j => decide (j < i)) (op2 ixD (var 0) (op1 negD (ret (.int 1)))) (ret (.int 0)))) (var 1) (op1 negD (var 1)))) (ret [])))))))
noncomputable def R_plain : List D → Rs D := runD 1 2 m_plain
theorem ok_plain {f : Addr} {fd : FuncData} (D0 : Fun K "plain" "plain" s_plain f fd) (hm : mg "plain" = some (.ref f)) (b : Bi mg) (F_content : FD P w K mg base 2 "content" (spF K mg 1 3 false m_content)) (F_parted : FD P w K mg base 1 "parted" (spF K mg 2 3 false m_parted)) : FD P w K mg base 3 "plain" (spF K mg 1 2 false m_plain) :=
  fd_mk (ps := ["one"]) D0 hm (D0.binds (ps := ["one"]) fun _ _ _ _ _ _ us hl => match us, hl with | [_], _ => rfl) (fnV (np := 1) (fr := false) D0 sc_plain rfl fun cdv A outer s H E O ρ vs hr => by
    have nd := sc_plain.nd
    exact (ss_cons (sv_if (tt_cmp (op_eqD (Room.units hr)) prim_eq rfl (pv_var 0 (pe_var (i := 0) rfl (by exact Or.inl rfl))) (pv_tup av_nil)) (ss_one (sv_ret rfl (pv_tup av_nil))) ss_nil) (ss_cons (sv_asg nd rfl (.inl rfl) (cv F_content (Room.mono hr (by decide : 2 ≤ 2)) rfl rfl rfl air_cx rfl (ga_cons (pg_vl (pv_var 0 (pe_var (i := 0) rfl (by exact Or.inl rfl)))) ga_nil))) (ss_one (sv_ret rfl (cv F_parted (Room.mono hr (by decide : 1 ≤ 2)) rfl rfl rfl air_cx rfl (ga_cons (pg_vl (pv_var 0 (pe_var (i := 0) rfl (by exact Or.inl rfl)))) (ga_cons (pg_vl (pv_if (tt_cmp op_gt prim_cmpI rfl (pv_ix prim_ix (pv_var 0 (pe_var (i := 0) rfl (by exact Or.inl rfl))) (pv_op1 un_neg prim_neg pv_int) (fun _ _ => rfl)) pv_int) (pv_var 1 (pe_var (i := 1) rfl (by exact Or.inl rfl))) (pv_op1 un_neg prim_neg (pv_var 1 (pe_var (i := 1) rfl (by exact Or.inl rfl)))))) ga_nil))))))))
/-! ### without_head -/
abbrev s_without_head : Stmt := topS 20
theorem sc_without_head : FnScope ["one", "other", "part", "often", "head", "power"] ["one", "other"] (defScope s_without_head) := ⟨rfl, rfl, rfl, by decide +kernel, rfl, by decide +kernel, by decide +kernel⟩
noncomputable def m_without_head : Cm Fl := (thenS (asgS 2 (callA R_divisor (consG (vl (op2 ixD (var 0) (op1 negD (ret (.int 1))))) (consG (vl (op2 ixD (var 1) (op1 negD (ret (.int 1))))) (ret []))))) (thenS (asgS 3 (op2 fdivD (op2 ixD (var 1) (op1 negD (ret (.int 1)))) (var 2))) (thenS (asgS 4 (op2 fdivD (op2 ixD (var 0) (op1 negD (ret (.int 1)))) (var 2))) (thenS (ifS (blE (op2 (cmpI fun i j => decide (i < j)) (var 3) (ret (.int 0)))) (parS 3 4 (consA (op1 negD (var 3)) (consA (op1 negD (var 4)) (ret [])))) skipS) (thenS (asgS 5 (op2 subD (opA lenD (consG (vl (var 0)) (ret []))) (opA lenD (consG (vl (var 1)) (ret []))))) (retS (tupE (consA (callA R_poly_minus (consG (vl (callA R_scaled (consG (vl (var 0)) (consG (vl (var 3)) (ret []))))) (consG (vl (callA R_raised (consG (vl (callA R_scaled (consG (vl (var 1)) (consG (vl (var 4)) (ret []))))) (consG (vl (var 5)) (ret []))))) (ret [])))) (consA (var 3) (consA (callA R_raised (consG (vl (tupE (consA (var 4) (ret [])))) (consG (vl (var 5)) (ret [])))) (ret [])))))))))))
noncomputable def R_without_head : List D → Rs D := runD 2 6 m_without_head
theorem ok_without_head {f : Addr} {fd : FuncData} (D0 : Fun K "without_head" "without_head" s_without_head f fd) (hm : mg "without_head" = some (.ref f)) (b : Bi mg) (F_divisor : FD P w K mg base 1 "divisor" (spF K mg 2 2 false m_divisor)) (F_poly_minus : FD P w K mg base 2 "poly_minus" (spF K mg 2 4 false m_poly_minus)) (F_raised : FD P w K mg base 1 "raised" (spF K mg 2 2 false m_raised)) (F_scaled : FD P w K mg base 2 "scaled" (spF K mg 2 3 false m_scaled)) : FD P w K mg base 3 "without_head" (spF K mg 2 6 false m_without_head) :=
  fd_mk (ps := ["one", "other"]) D0 hm (D0.binds (ps := ["one", "other"]) fun _ _ _ _ _ _ us hl => match us, hl with | [_, _], _ => rfl) (fnV (np := 2) (fr := false) D0 sc_without_head rfl fun cdv A outer s H E O ρ vs hr => by
    have nd := sc_without_head.nd
    exact (ss_cons (sv_asg nd rfl (.inl rfl) (cv F_divisor (Room.mono hr (by decide : 1 ≤ 2)) rfl rfl rfl air_cx rfl (ga_cons (pg_vl (pv_ix prim_ix (pv_var 0 (pe_var (i := 0) rfl (by exact Or.inl rfl))) (pv_op1 un_neg prim_neg pv_int) (fun _ _ => rfl))) (ga_cons (pg_vl (pv_ix prim_ix (pv_var 1 (pe_var (i := 1) rfl (by exact Or.inl rfl))) (pv_op1 un_neg prim_neg pv_int) (fun _ _ => rfl))) ga_nil)))) (ss_cons (sv_asg nd rfl (.inl rfl) (pv_op2 op_fdivV prim_fdiv (pv_ix prim_ix (pv_var 1 (pe_var (i := 1) rfl (by exact Or.inl rfl))) (pv_op1 un_neg prim_neg pv_int) (fun _ _ => rfl)) (pv_var 2 (pe_var (i := 2) rfl (by exact Or.inl rfl))))) (ss_cons (sv_asg nd rfl (.inl rfl) (pv_op2 op_fdivV prim_fdiv (pv_ix prim_ix (pv_var 0 (pe_var (i := 0) rfl (by exact Or.inl rfl))) (pv_op1 un_neg prim_neg pv_int) (fun _ _ => rfl)) (pv_var 2 (pe_var (i := 2) rfl (by exact Or.inl rfl))))) (ss_cons (sv_if (tt_cmp op_lt prim_cmpI rfl (pv_var 3 (pe_var (i := 3) rfl (by exact Or.inl rfl))) pv_int) (ss_one (sv_par rfl nd rfl rfl (by decide) rfl rfl (av_cons (pv_op1 un_neg prim_neg (pv_var 3 (pe_var (i := 3) rfl (by exact Or.inl rfl)))) (av_cons (pv_op1 un_neg prim_neg (pv_var 4 (pe_var (i := 4) rfl (by exact Or.inl rfl)))) av_nil)) rfl)) ss_nil) (ss_cons (sv_asg nd rfl (.inl rfl) (pv_op2 op_sub prim_sub (pv_callB call_lenV prim_len rfl b.len PySem.boot_len' (ga_cons (pg_vl (pv_var 0 (pe_var (i := 0) rfl (by exact Or.inl rfl)))) ga_nil)) (pv_callB call_lenV prim_len rfl b.len PySem.boot_len' (ga_cons (pg_vl (pv_var 1 (pe_var (i := 1) rfl (by exact Or.inl rfl)))) ga_nil)))) (ss_one (sv_ret rfl (pv_tup (av_cons (cv F_poly_minus (Room.mono hr (by decide : 2 ≤ 2)) rfl rfl rfl air_cx rfl (ga_cons (pg_vl (cv F_scaled (Room.mono hr (by decide : 2 ≤ 2)) rfl rfl rfl air_cx rfl (ga_cons (pg_vl (pv_var 0 (pe_var (i := 0) rfl (by exact Or.inl rfl)))) (ga_cons (pg_vl (pv_var 3 (pe_var (i := 3) rfl (by exact Or.inl rfl)))) ga_nil)))) (ga_cons (pg_vl (cv F_raised (Room.mono hr (by decide : 1 ≤ 2)) rfl rfl rfl air_cx rfl (ga_cons (pg_vl (cv F_scaled (Room.mono hr (by decide : 2 ≤ 2)) rfl rfl rfl air_cx rfl (ga_cons (pg_vl (pv_var 1 (pe_var (i := 1) rfl (by exact Or.inl rfl)))) (ga_cons (pg_vl (pv_var 4 (pe_var (i := 4) rfl (by exact Or.inl rfl)))) ga_nil)))) (ga_cons (pg_vl (pv_var 5 (pe_var (i := 5) rfl (by exact Or.inl rfl)))) ga_nil)))) ga_nil))) (av_cons (pv_var 3 (pe_var (i := 3) rfl (by exact Or.inl rfl))) (av_cons (cv F_raised (Room.mono hr (by decide : 1 ≤ 2)) rfl rfl rfl air_cx rfl (ga_cons (pg_vl (pv_tup (av_cons (pv_var 4 (pe_var (i := 4) rfl (by exact Or.inl rfl))) av_nil))) (ga_cons (pg_vl (pv_var 5 (pe_var (i := 5) rfl (by exact Or.inl rfl)))) ga_nil))) av_nil))))))))))))
/-! ### rest_by -/
abbrev s_rest_by : Stmt := topS 21
theorem sc_rest_by : FnScope ["one", "other"] ["one", "other"] (defScope s_rest_by) := ⟨rfl, rfl, rfl, by decide +kernel, rfl, by decide +kernel, by decide +kernel⟩
noncomputable def m_rest_by : Cm Fl := (thenS (whl (blE (op2 (cmpI fun i j => decide (j ≤ i)) (opA lenD (consG (vl (var 0)) (ret []))) (opA lenD (consG (vl (var 1)) (ret []))))) (asgS 0 (op2 ixD (callA R_without_head (consG (vl (var 0)) (consG (vl (var 1)) (ret [])))) (ret (.int 0))))) (retS (var 0)))
noncomputable def R_rest_by : List D → Rs D := runD 2 2 m_rest_by
theorem ok_rest_by {f : Addr} {fd : FuncData} (D0 : Fun K "rest_by" "rest_by" s_rest_by f fd) (hm : mg "rest_by" = some (.ref f)) (b : Bi mg) (F_without_head : FD P w K mg base 3 "without_head" (spF K mg 2 6 false m_without_head)) : FD P w K mg base 4 "rest_by" (spF K mg 2 2 false m_rest_by) :=
  fd_mk (ps := ["one", "other"]) D0 hm (D0.binds (ps := ["one", "other"]) fun _ _ _ _ _ _ us hl => match us, hl with | [_, _], _ => rfl) (fnV (np := 2) (fr := false) D0 sc_rest_by rfl fun cdv A outer s H E O ρ vs hr => by
    have nd := sc_rest_by.nd
    exact (ss_cons (sv_while pas_cx (tt_cmp op_ge prim_cmpI rfl (pv_callB call_lenV prim_len rfl b.len PySem.boot_len' (ga_cons (pg_vl (pv_var 0 (pe_var (i := 0) rfl (by exact Or.inl rfl)))) ga_nil)) (pv_callB call_lenV prim_len rfl b.len PySem.boot_len' (ga_cons (pg_vl (pv_var 1 (pe_var (i := 1) rfl (by exact Or.inl rfl)))) ga_nil))) (ss_one (sv_asg nd rfl (.inl rfl) (pv_ix prim_ix (cv F_without_head (Room.mono hr (by decide : 3 ≤ 3)) rfl rfl rfl air_cx rfl (ga_cons (pg_vl (pv_var 0 (pe_var (i := 0) rfl (by exact Or.inl rfl)))) (ga_cons (pg_vl (pv_var 1 (pe_var (i := 1) rfl (by exact Or.inl rfl)))) ga_nil))) pv_int (fun _ _ => rfl))))) (ss_one (sv_ret rfl (pv_var 0 (pe_var (i := 0) rfl (by exact Or.inl rfl)))))))
/-! ### common -/
abbrev s_common : Stmt := topS 22
theorem sc_common : FnScope ["one", "other"] ["one", "other"] (defScope s_common) := ⟨rfl, rfl, rfl, by decide +kernel, rfl, by decide +kernel, by decide +kernel⟩
noncomputable def m_common : Cm Fl := (thenS (parS 0 1 (consA (callA R_plain (consG (vl (var 0)) (ret []))) (consA (callA R_plain (consG (vl (var 1)) (ret []))) (ret [])))) (thenS (whl (blE (op2 neD (var 1) (tupE (ret [])))) (parS 0 1 (consA (var 1) (consA (callA R_plain (consG (vl (callA R_rest_by (consG (vl (var 0)) (consG (vl (var 1)) (ret []))))) (ret []))) (ret []))))) (retS (var 0))))
noncomputable def R_common : List D → Rs D := runD 2 2 m_common
theorem ok_common {f : Addr} {fd : FuncData} (D0 : Fun K "common" "common" s_common f fd) (hm : mg "common" = some (.ref f)) (b : Bi mg) (F_plain : FD P w K mg base 3 "plain" (spF K mg 1 2 false m_plain)) (F_rest_by : FD P w K mg base 4 "rest_by" (spF K mg 2 2 false m_rest_by)) : FD P w K mg base 5 "common" (spF K mg 2 2 false m_common) :=
  fd_mk (ps := ["one", "other"]) D0 hm (D0.binds (ps := ["one", "other"]) fun _ _ _ _ _ _ us hl => match us, hl with | [_, _], _ => rfl) (fnV (np := 2) (fr := false) D0 sc_common rfl fun cdv A outer s H E O ρ vs hr => by
    have nd := sc_common.nd
    exact (ss_cons (sv_par rfl nd rfl rfl (by decide) rfl rfl (av_cons (cv F_plain (Room.mono hr (by decide : 3 ≤ 4)) rfl rfl rfl air_cx rfl (ga_cons (pg_vl (pv_var 0 (pe_var (i := 0) rfl (by exact Or.inl rfl)))) ga_nil)) (av_cons (cv F_plain (Room.mono hr (by decide : 3 ≤ 4)) rfl rfl rfl air_cx rfl (ga_cons (pg_vl (pv_var 1 (pe_var (i := 1) rfl (by exact Or.inl rfl)))) ga_nil)) av_nil)) rfl) (ss_cons (sv_while pas_cx (tt_cmp (op_neD (Room.units hr)) prim_ne rfl (pv_var 1 (pe_var (i := 1) rfl (by exact Or.inl rfl))) (pv_tup av_nil)) (ss_one (sv_par rfl nd rfl rfl (by decide) rfl rfl (av_cons (pv_var 1 (pe_var (i := 1) rfl (by exact Or.inl rfl))) (av_cons (cv F_plain (Room.mono hr (by decide : 3 ≤ 4)) rfl rfl rfl air_cx rfl (ga_cons (pg_vl (cv F_rest_by (Room.mono hr (by decide : 4 ≤ 4)) rfl rfl rfl air_cx rfl (ga_cons (pg_vl (pv_var 0 (pe_var (i := 0) rfl (by exact Or.inl rfl)))) (ga_cons (pg_vl (pv_var 1 (pe_var (i := 1) rfl (by exact Or.inl rfl)))) ga_nil)))) ga_nil)) av_nil)) rfl))) (ss_one (sv_ret rfl (pv_var 0 (pe_var (i := 0) rfl (by exact Or.inl rfl))))))))
/-! ### is_poly -/
abbrev s_is_poly : Stmt := topS 24
theorem sc_is_poly : FnScope ["thing", "one"] ["thing"] (defScope s_is_poly) := ⟨rfl, rfl, rfl, by decide +kernel, rfl, by decide +kernel, by decide +kernel⟩
noncomputable def m_is_poly : Cm Fl := (thenS (ifS (orT (notT (tst (op1 (isiD "tuple") (var 0)))) (notT (tst (opA allD (consG (vl (lsE (lcE [1] (tupS (var 0)) (setI 1) (ret true) (andE (op1 (isiD "int") (var 1)) (op1 notD (op1 (isiD "bool") (var 1))))))) (ret [])))))) (retS (ret (.bl false))) skipS) (retS (orE (op2 eqD (var 0) (tupE (ret []))) (op2 neD (op2 ixD (var 0) (op1 negD (ret (.int 1)))) (ret (.int 0))))))
noncomputable def R_is_poly : List D → Rs D := runD 1 2 m_is_poly
theorem ok_is_poly {f : Addr} {fd : FuncData} (D0 : Fun K "is_poly" "is_poly" s_is_poly f fd) (hm : mg "is_poly" = some (.ref f)) (b : Bi mg)  : FD P w K mg base 1 "is_poly" (spF K mg 1 2 false m_is_poly) :=
  fd_mk (ps := ["thing"]) D0 hm (D0.binds (ps := ["thing"]) fun _ _ _ _ _ _ us hl => match us, hl with | [_], _ => rfl) (fnV (np := 1) (fr := false) D0 sc_is_poly rfl fun cdv A outer s H E O ρ vs hr => by
    have nd := sc_is_poly.nd
    exact (ss_cons (sv_if (PW.pt (wt_or (tt_not (tt_tru rfl (pv_isi rfl rfl b.isinstance (pv_var 0 (pe_var (i := 0) rfl (by exact Or.inl rfl))) (pe_bltn rfl b.tuple PySem.boot_tuple' rfl)))) (wt_or1 (tt_not (tt_tru rfl (pv_callB (cr_all rfl) prim_all rfl b.all PySem.boot_all' (ga_cons (pg_vl (pv_fresh (pf_lc (own := [("one", 1)]) (vs := [1]) frm_cx air_cx rfl nd (iv_tup rfl (pv_var 0 (pe_var (i := 0) rfl (by exact Or.inl rfl)))) (blkOk_by (N := ["thing", "one"]) (sc := defScope s_is_poly) (own := [("one", 1)]) (by decide +kernel)) rfl (fun _ _ _ _ _ _ => gv_name (i := 1) nd rfl (.inl rfl)) (fun _ _ _ _ _ _ => tt_nil) (fun _ _ _ _ _ _ => (pv_and (pv_isi rfl rfl b.isinstance (pv_var 1 (pe_var (i := 1) rfl (by exact Or.inl rfl))) (pe_bltn rfl b.int PySem.boot_int' rfl)) (pv_one (pv_not (pv_isi rfl rfl b.isinstance (pv_var 1 (pe_var (i := 1) rfl (by exact Or.inl rfl))) (pe_bltn rfl b.bool PySem.boot_bool' rfl))))))))) ga_nil))))))) (ss_one (sv_ret rfl pv_bl)) ss_nil) (ss_one (sv_ret rfl (pv_or (pv_cmp (op_eqD (Room.units hr)) prim_eq rfl (pv_var 0 (pe_var (i := 0) rfl (by exact Or.inl rfl))) (pv_tup av_nil)) (pv_one (pv_cmp (op_neD (Room.units hr)) prim_ne rfl (pv_ix prim_ix (pv_var 0 (pe_var (i := 0) rfl (by exact Or.inl rfl))) (pv_op1 un_neg prim_neg pv_int) (fun _ _ => rfl)) pv_int)))))))
/-! ### is_quotient -/
abbrev s_is_quotient : Stmt := topS 25
theorem sc_is_quotient : FnScope ["thing"] ["thing"] (defScope s_is_quotient) := ⟨rfl, rfl, rfl, by decide +kernel, rfl, by decide +kernel, by decide +kernel⟩
noncomputable def m_is_quotient : Cm Fl := (thenS (ifS (orT (notT (tst (op1 (isiD "tuple") (var 0)))) (orT (blE (op2 neD (opA lenD (consG (vl (var 0)) (ret []))) (ret (.int 2)))) (orT (notT (tst (callA R_is_poly (consG (vl (op2 ixD (var 0) (ret (.int 0)))) (ret []))))) (notT (tst (callA R_is_poly (consG (vl (op2 ixD (var 0) (ret (.int 1)))) (ret [])))))))) (retS (ret (.bl false))) skipS) (thenS (ifS (orT (blE (op2 eqD (op2 ixD (var 0) (ret (.int 1))) (tupE (ret [])))) (orT (blE (op2 (cmpI fun i j => decide (i < j)) (op2 ixD (op2 ixD (var 0) (ret (.int 1))) (op1 negD (ret (.int 1)))) (ret (.int 0)))) (blE (op2 neD (callA R_divisor (consG (vl (callA R_content (consG (vl (op2 ixD (var 0) (ret (.int 0)))) (ret [])))) (consG (vl (callA R_content (consG (vl (op2 ixD (var 0) (ret (.int 1)))) (ret [])))) (ret [])))) (ret (.int 1)))))) (retS (ret (.bl false))) skipS) (retS (op2 eqD (opA lenD (consG (vl (callA R_common (consG (vl (op2 ixD (var 0) (ret (.int 0)))) (consG (vl (op2 ixD (var 0) (ret (.int 1)))) (ret []))))) (ret []))) (ret (.int 1))))))
noncomputable def R_is_quotient : List D → Rs D := runD 1 1 m_is_quotient
theorem ok_is_quotient {f : Addr} {fd : FuncData} (D0 : Fun K "is_quotient" "is_quotient" s_is_quotient f fd) (hm : mg "is_quotient" = some (.ref f)) (b : Bi mg) (F_is_poly : FD P w K mg base 1 "is_poly" (spF K mg 1 2 false m_is_poly)) (F_divisor : FD P w K mg base 1 "divisor" (spF K mg 2 2 false m_divisor)) (F_common : FD P w K mg base 5 "common" (spF K mg 2 2 false m_common)) (F_content : FD P w K mg base 2 "content" (spF K mg 1 3 false m_content)) : FD P w K mg base 6 "is_quotient" (spF K mg 1 1 false m_is_quotient) :=
  fd_mk (ps := ["thing"]) D0 hm (D0.binds (ps := ["thing"]) fun _ _ _ _ _ _ us hl => match us, hl with | [_], _ => rfl) (fnV (np := 1) (fr := false) D0 sc_is_quotient rfl fun cdv A outer s H E O ρ vs hr => by
    have nd := sc_is_quotient.nd
    exact (ss_cons (sv_if (PW.pt (wt_or (tt_not (tt_tru rfl (pv_isi rfl rfl b.isinstance (pv_var 0 (pe_var (i := 0) rfl (by exact Or.inl rfl))) (pe_bltn rfl b.tuple PySem.boot_tuple' rfl)))) (wt_or (tt_cmp (op_neD (Room.units hr)) prim_ne rfl (pv_callB call_lenV prim_len rfl b.len PySem.boot_len' (ga_cons (pg_vl (pv_var 0 (pe_var (i := 0) rfl (by exact Or.inl rfl)))) ga_nil)) pv_int) (wt_or (tt_not (tt_tru rfl (cv F_is_poly (Room.mono hr (by decide : 1 ≤ 5)) rfl rfl rfl air_cx rfl (ga_cons (pg_vl (pv_ix prim_ix (pv_var 0 (pe_var (i := 0) rfl (by exact Or.inl rfl))) pv_int (fun _ _ => rfl))) ga_nil)))) (wt_or1 (tt_not (tt_tru rfl (cv F_is_poly (Room.mono hr (by decide : 1 ≤ 5)) rfl rfl rfl air_cx rfl (ga_cons (pg_vl (pv_ix prim_ix (pv_var 0 (pe_var (i := 0) rfl (by exact Or.inl rfl))) pv_int (fun _ _ => rfl))) ga_nil))))))))) (ss_one (sv_ret rfl pv_bl)) ss_nil) (ss_cons (sv_if (PW.pt (wt_or (tt_cmp (op_eqD (Room.units hr)) prim_eq rfl (pv_ix prim_ix (pv_var 0 (pe_var (i := 0) rfl (by exact Or.inl rfl))) pv_int (fun _ _ => rfl)) (pv_tup av_nil)) (wt_or (tt_cmp op_lt prim_cmpI rfl (pv_ix prim_ix (pv_ix prim_ix (pv_var 0 (pe_var (i := 0) rfl (by exact Or.inl rfl))) pv_int (fun _ _ => rfl)) (pv_op1 un_neg prim_neg pv_int) (fun _ _ => rfl)) pv_int) (wt_or1 (tt_cmp (op_neD (Room.units hr)) prim_ne rfl (cv F_divisor (Room.mono hr (by decide : 1 ≤ 5)) rfl rfl rfl air_cx rfl (ga_cons (pg_vl (cv F_content (Room.mono hr (by decide : 2 ≤ 5)) rfl rfl rfl air_cx rfl (ga_cons (pg_vl (pv_ix prim_ix (pv_var 0 (pe_var (i := 0) rfl (by exact Or.inl rfl))) pv_int (fun _ _ => rfl))) ga_nil))) (ga_cons (pg_vl (cv F_content (Room.mono hr (by decide : 2 ≤ 5)) rfl rfl rfl air_cx rfl (ga_cons (pg_vl (pv_ix prim_ix (pv_var 0 (pe_var (i := 0) rfl (by exact Or.inl rfl))) pv_int (fun _ _ => rfl))) ga_nil))) ga_nil))) pv_int))))) (ss_one (sv_ret rfl pv_bl)) ss_nil) (ss_one (sv_ret rfl (pv_cmp (op_eqD (Room.units hr)) prim_eq rfl (pv_callB call_lenV prim_len rfl b.len PySem.boot_len' (ga_cons (pg_vl (cv F_common (Room.mono hr (by decide : 5 ≤ 5)) rfl rfl rfl air_cx rfl (ga_cons (pg_vl (pv_ix prim_ix (pv_var 0 (pe_var (i := 0) rfl (by exact Or.inl rfl))) pv_int (fun _ _ => rfl))) (ga_cons (pg_vl (pv_ix prim_ix (pv_var 0 (pe_var (i := 0) rfl (by exact Or.inl rfl))) pv_int (fun _ _ => rfl))) ga_nil)))) ga_nil)) pv_int))))))
/-! ### show_number -/
abbrev s_show_number : Stmt := topS 28
theorem sc_show_number : FnScope ["one"] ["one"] (defScope s_show_number) := ⟨rfl, rfl, rfl, by decide +kernel, rfl, by decide +kernel, by decide +kernel⟩
noncomputable def m_show_number : Cm Fl := (retS (ifE (blE (op2 eqD (op2 ixD (var 0) (ret (.int 1))) (ret (.int 1)))) (opA strD (consG (vl (op2 ixD (var 0) (ret (.int 0)))) (ret []))) (op2 addD (op2 addD (opA strD (consG (vl (op2 ixD (var 0) (ret (.int 0)))) (ret []))) (ret (.str "/"))) (opA strD (consG (vl (op2 ixD (var 0) (ret (.int 1)))) (ret []))))))
noncomputable def R_show_number : List D → Rs D := runD 1 1 m_show_number
theorem ok_show_number {f : Addr} {fd : FuncData} (D0 : Fun K "show_number" "show_number" s_show_number f fd) (hm : mg "show_number" = some (.ref f)) (b : Bi mg)  : FD P w K mg base 1 "show_number" (spF K mg 1 1 false m_show_number) :=
  fd_mk (ps := ["one"]) D0 hm (D0.binds (ps := ["one"]) fun _ _ _ _ _ _ us hl => match us, hl with | [_], _ => rfl) (fnV (np := 1) (fr := false) D0 sc_show_number rfl fun cdv A outer s H E O ρ vs hr => by
    have nd := sc_show_number.nd
    exact (ss_one (sv_ret rfl (pv_if (tt_cmp (op_eqD (Room.units hr)) prim_eq rfl (pv_ix prim_ix (pv_var 0 (pe_var (i := 0) rfl (by exact Or.inl rfl))) pv_int (fun _ _ => rfl)) pv_int) (pv_callTy call_str_int prim_str rfl b.str PySem.boot_str' (ga_cons (pg_vl (pv_ix prim_ix (pv_var 0 (pe_var (i := 0) rfl (by exact Or.inl rfl))) pv_int (fun _ _ => rfl))) ga_nil)) (pv_op2 op_addV prim_add (pv_op2 op_addV prim_add (pv_callTy call_str_int prim_str rfl b.str PySem.boot_str' (ga_cons (pg_vl (pv_ix prim_ix (pv_var 0 (pe_var (i := 0) rfl (by exact Or.inl rfl))) pv_int (fun _ _ => rfl))) ga_nil)) pv_str) (pv_callTy call_str_int prim_str rfl b.str PySem.boot_str' (ga_cons (pg_vl (pv_ix prim_ix (pv_var 0 (pe_var (i := 0) rfl (by exact Or.inl rfl))) pv_int (fun _ _ => rfl))) ga_nil)))))))
/-! ### show_poly -/
abbrev s_show_poly : Stmt := topS 29
theorem sc_show_poly : FnScope ["one", "figure"] ["one"] (defScope s_show_poly) := ⟨rfl, rfl, rfl, by decide +kernel, rfl, by decide +kernel, by decide +kernel⟩
noncomputable def m_show_poly : Cm Fl := (retS (ifE (blE (op2 neD (var 0) (tupE (ret [])))) (m1 (fun s => joinD (.str s)) (ret (.str " ")) (lsE (lcE [1] (tupS (var 0)) (setI 1) (ret true) (opA strD (consG (vl (var 1)) (ret [])))))) (ret (.str "0"))))
noncomputable def R_show_poly : List D → Rs D := runD 1 2 m_show_poly
theorem ok_show_poly {f : Addr} {fd : FuncData} (D0 : Fun K "show_poly" "show_poly" s_show_poly f fd) (hm : mg "show_poly" = some (.ref f)) (b : Bi mg)  : FD P w K mg base 1 "show_poly" (spF K mg 1 2 false m_show_poly) :=
  fd_mk (ps := ["one"]) D0 hm (D0.binds (ps := ["one"]) fun _ _ _ _ _ _ us hl => match us, hl with | [_], _ => rfl) (fnV (np := 1) (fr := false) D0 sc_show_poly rfl fun cdv A outer s H E O ρ vs hr => by
    have nd := sc_show_poly.nd
    exact (ss_one (sv_ret rfl (pv_if (tt_cmp (op_neD (Room.units hr)) prim_ne rfl (pv_var 0 (pe_var (i := 0) rfl (by exact Or.inl rfl))) (pv_tup av_nil)) (pv_join rfl pv_str (pv_fresh (pf_lc (own := [("figure", 1)]) (vs := [1]) frm_cx air_cx rfl nd (iv_tup rfl (pv_var 0 (pe_var (i := 0) rfl (by exact Or.inl rfl)))) (blkOk_by (N := ["one", "figure"]) (sc := defScope s_show_poly) (own := [("figure", 1)]) (by decide +kernel)) rfl (fun _ _ _ _ _ _ => gv_name (i := 1) nd rfl (.inl rfl)) (fun _ _ _ _ _ _ => tt_nil) (fun _ _ _ _ _ _ => (pv_callTy call_str_int prim_str rfl b.str PySem.boot_str' (ga_cons (pg_vl (pv_var 1 (pe_var (i := 1) rfl (by exact Or.inl rfl)))) ga_nil)))))) pv_str))))
/-! ### show_quotient -/
abbrev s_show_quotient : Stmt := topS 30
theorem sc_show_quotient : FnScope ["one"] ["one"] (defScope s_show_quotient) := ⟨rfl, rfl, rfl, by decide +kernel, rfl, by decide +kernel, by decide +kernel⟩
noncomputable def m_show_quotient : Cm Fl := (retS (ifE (blE (op2 eqD (op2 ixD (var 0) (ret (.int 1))) (tupE (consA (ret (.int 1)) (ret []))))) (callA R_show_poly (consG (vl (op2 ixD (var 0) (ret (.int 0)))) (ret []))) (op2 addD (op2 addD (callA R_show_poly (consG (vl (op2 ixD (var 0) (ret (.int 0)))) (ret []))) (ret (.str " / "))) (callA R_show_poly (consG (vl (op2 ixD (var 0) (ret (.int 1)))) (ret []))))))
noncomputable def R_show_quotient : List D → Rs D := runD 1 1 m_show_quotient
theorem ok_show_quotient {f : Addr} {fd : FuncData} (D0 : Fun K "show_quotient" "show_quotient" s_show_quotient f fd) (hm : mg "show_quotient" = some (.ref f)) (b : Bi mg) (F_show_poly : FD P w K mg base 1 "show_poly" (spF K mg 1 2 false m_show_poly)) : FD P w K mg base 2 "show_quotient" (spF K mg 1 1 false m_show_quotient) :=
  fd_mk (ps := ["one"]) D0 hm (D0.binds (ps := ["one"]) fun _ _ _ _ _ _ us hl => match us, hl with | [_], _ => rfl) (fnV (np := 1) (fr := false) D0 sc_show_quotient rfl fun cdv A outer s H E O ρ vs hr => by
    have nd := sc_show_quotient.nd
    exact (ss_one (sv_ret rfl (pv_if (tt_cmp (op_eqD (Room.units hr)) prim_eq rfl (pv_ix prim_ix (pv_var 0 (pe_var (i := 0) rfl (by exact Or.inl rfl))) pv_int (fun _ _ => rfl)) (pv_tup (av_cons pv_int av_nil))) (cv F_show_poly (Room.mono hr (by decide : 1 ≤ 1)) rfl rfl rfl air_cx rfl (ga_cons (pg_vl (pv_ix prim_ix (pv_var 0 (pe_var (i := 0) rfl (by exact Or.inl rfl))) pv_int (fun _ _ => rfl))) ga_nil)) (pv_op2 op_addV prim_add (pv_op2 op_addV prim_add (cv F_show_poly (Room.mono hr (by decide : 1 ≤ 1)) rfl rfl rfl air_cx rfl (ga_cons (pg_vl (pv_ix prim_ix (pv_var 0 (pe_var (i := 0) rfl (by exact Or.inl rfl))) pv_int (fun _ _ => rfl))) ga_nil)) pv_str) (cv F_show_poly (Room.mono hr (by decide : 1 ≤ 1)) rfl rfl rfl air_cx rfl (ga_cons (pg_vl (pv_ix prim_ix (pv_var 0 (pe_var (i := 0) rfl (by exact Or.inl rfl))) pv_int (fun _ _ => rfl))) ga_nil)))))))
/-! ### must -/
abbrev s_must : Stmt := topS 31
theorem sc_must : FnScope ["right"] ["right"] (defScope s_must) := ⟨rfl, rfl, rfl, by decide +kernel, rfl, by decide +kernel, by decide +kernel⟩
noncomputable def m_must : Cm Fl := (ifS (notT (tst (var 0))) (raiseS "NoText") skipS)
noncomputable def R_must : List D → Rs D := runD 1 1 m_must
theorem ok_must {f : Addr} {fd : FuncData} (D0 : Fun K "must" "must" s_must f fd) (hm : mg "must" = some (.ref f)) (b : Bi mg)  (k_NoText : ExcT K mg "NoText") : FD P w K mg base 1 "must" (spF K mg 1 1 false m_must) :=
  fd_mk (ps := ["right"]) D0 hm (D0.binds (ps := ["right"]) fun _ _ _ _ _ _ us hl => match us, hl with | [_], _ => rfl) (fnV (np := 1) (fr := false) D0 sc_must rfl fun cdv A outer s H E O ρ vs hr => by
    have nd := sc_must.nd
    exact (ss_one (sv_if (tt_not (tt_tru rfl (pv_var 0 (pe_var (i := 0) rfl (by exact Or.inl rfl))))) (ss_one (sv_raiseC rfl tk_cx rfl rfl k_NoText)) ss_nil)))
/-! ### whole_in -/
abbrev s_whole_in : Stmt := topS 32
theorem sc_whole_in : FnScope ["text", "figures", "sign"] ["text"] (defScope s_whole_in) := ⟨rfl, rfl, rfl, by decide +kernel, rfl, by decide +kernel, by decide +kernel⟩
noncomputable def m_whole_in : Cm Fl := (thenS (asgS 1 (ifE (blE (op2 eqD (slE (vl (var 0)) partN (partS (ret (.int 1)))) (ret (.str "-")))) (slE (vl (var 0)) (partS (ret (.int 1))) partN) (var 0))) (thenS (exprS (callA R_must (consG (vl (andE (op2 neD (var 1) (ret (.str ""))) (opA allD (consG (vl (lsE (lcE [2] (strS (var 1)) (setI 2) (ret true) (op2 inD (var 2) (ret (.str "0123456789")))))) (ret []))))) (ret [])))) (thenS (exprS (callA R_must (consG (vl (orE (op2 neD (op2 ixD (var 1) (ret (.int 0))) (ret (.str "0"))) (op2 eqD (var 0) (ret (.str "0"))))) (ret [])))) (retS (opA intD (consG (vl (var 0)) (ret [])))))))
noncomputable def R_whole_in : List D → Rs D := runD 1 3 m_whole_in
theorem ok_whole_in {f : Addr} {fd : FuncData} (D0 : Fun K "whole_in" "whole_in" s_whole_in f fd) (hm : mg "whole_in" = some (.ref f)) (b : Bi mg) (F_must : FD P w K mg base 1 "must" (spF K mg 1 1 false m_must)) (gs_FIGURES : ∃ t, mg "FIGURES" = some (.str "0123456789" t)) : FD P w K mg base 2 "whole_in" (spF K mg 1 3 false m_whole_in) :=
  fd_mk (ps := ["text"]) D0 hm (D0.binds (ps := ["text"]) fun _ _ _ _ _ _ us hl => match us, hl with | [_], _ => rfl) (fnV (np := 1) (fr := false) D0 sc_whole_in rfl fun cdv A outer s H E O ρ vs hr => by
    have nd := sc_whole_in.nd
    exact (ss_cons (sv_asg nd rfl (.inl rfl) (pv_if (tt_cmp (op_eqD (Room.units hr)) prim_eq rfl (pv_sl rfl (pg_vl (pv_var 0 (pe_var (i := 0) rfl (by exact Or.inl rfl)))) pp_none (pp_some pv_int)) pv_str) (pv_sl rfl (pg_vl (pv_var 0 (pe_var (i := 0) rfl (by exact Or.inl rfl)))) (pp_some pv_int) pp_none) (pv_var 0 (pe_var (i := 0) rfl (by exact Or.inl rfl))))) (ss_cons (sv_expr (cv F_must (Room.mono hr (by decide : 1 ≤ 1)) rfl rfl rfl air_cx rfl (ga_cons (pg_vl (pv_and (pv_cmp (op_neD (Room.units hr)) prim_ne rfl (pv_var 1 (pe_var (i := 1) rfl (by exact Or.inl rfl))) pv_str) (pv_one (pv_callB (cr_all rfl) prim_all rfl b.all PySem.boot_all' (ga_cons (pg_vl (pv_fresh (pf_lc (own := [("sign", 2)]) (vs := [2]) frm_cx air_cx rfl nd (iv_str (pv_var 1 (pe_var (i := 1) rfl (by exact Or.inl rfl)))) (blkOk_by (N := ["text", "figures", "sign"]) (sc := defScope s_whole_in) (own := [("sign", 2)]) (by decide +kernel)) rfl (fun _ _ _ _ _ _ => gv_name (i := 2) nd rfl (.inl rfl)) (fun _ _ _ _ _ _ => tt_nil) (fun _ _ _ _ _ _ => (pv_cmp (op_inV (u65 hr)) prim_in rfl (pv_var 2 (pe_var (i := 2) rfl (by exact Or.inl rfl))) (pv_cst (pe_gstr rfl gs_FIGURES) fun _ _ => .str _)))))) ga_nil))))) ga_nil))) (ss_cons (sv_expr (cv F_must (Room.mono hr (by decide : 1 ≤ 1)) rfl rfl rfl air_cx rfl (ga_cons (pg_vl (pv_or (pv_cmp (op_neD (Room.units hr)) prim_ne rfl (pv_ix prim_ix (pv_var 1 (pe_var (i := 1) rfl (by exact Or.inl rfl))) pv_int (fun _ _ => rfl)) pv_str) (pv_one (pv_cmp (op_eqD (Room.units hr)) prim_eq rfl (pv_var 0 (pe_var (i := 0) rfl (by exact Or.inl rfl))) pv_str)))) ga_nil))) (ss_one (sv_ret rfl (pv_callTy call_intV prim_int rfl b.int PySem.boot_int' (ga_cons (pg_vl (pv_var 0 (pe_var (i := 0) rfl (by exact Or.inl rfl)))) ga_nil))))))))
/-! ### read_number -/
abbrev s_read_number : Stmt := topS 33
theorem sc_read_number : FnScope ["text", "words", "top", "bottom"] ["text"] (defScope s_read_number) := ⟨rfl, rfl, rfl, by decide +kernel, rfl, by decide +kernel, by decide +kernel⟩
noncomputable def m_read_number : Cm Fl := (thenS (exprS (callA R_must (consG (vl (op1 (isiD "str") (var 0))) (ret [])))) (thenS (asgS 1 (m1 (fun s => splitD (.str s)) (var 0) (ret (.str "/")))) (thenS (exprS (callA R_must (consG (vl (op2 (cmpI fun i j => decide (i < j)) (opA lenD (consG (vl (var 1)) (ret []))) (ret (.int 3)))) (ret [])))) (thenS (ifS (blE (op2 eqD (opA lenD (consG (vl (var 1)) (ret []))) (ret (.int 1)))) (retS (tupE (consA (callA R_whole_in (consG (vl (var 0)) (ret []))) (consA (ret (.int 1)) (ret []))))) skipS) (thenS (parS 2 3 (consA (callA R_whole_in (consG (vl (op2 ixD (var 1) (ret (.int 0)))) (ret []))) (consA (callA R_whole_in (consG (vl (op2 ixD (var 1) (ret (.int 1)))) (ret []))) (ret [])))) (thenS (exprS (callA R_must (consG (vl (andE (op2 (cmpI fun i j => decide (j < i)) (var 3) (ret (.int 1))) (op2 eqD (callA R_number (consG (vl (var 2)) (consG (vl (var 3)) (ret [])))) (tupE (consA (var 2) (consA (var 3) (ret []))))))) (ret [])))) (retS (tupE (consA (var 2) (consA (var 3) (ret [])))))))))))
noncomputable def R_read_number : List D → Rs D := runD 1 4 m_read_number
theorem ok_read_number {f : Addr} {fd : FuncData} (D0 : Fun K "read_number" "read_number" s_read_number f fd) (hm : mg "read_number" = some (.ref f)) (b : Bi mg) (F_must : FD P w K mg base 1 "must" (spF K mg 1 1 false m_must)) (F_whole_in : FD P w K mg base 2 "whole_in" (spF K mg 1 3 false m_whole_in)) (F_number : FD P w K mg base 2 "number" (spF K mg 2 3 false m_number)) : FD P w K mg base 3 "read_number" (spF K mg 1 4 false m_read_number) :=
  fd_mk (ps := ["text"]) D0 hm (D0.binds (ps := ["text"]) fun _ _ _ _ _ _ us hl => match us, hl with | [_], _ => rfl) (fnV (np := 1) (fr := false) D0 sc_read_number rfl fun cdv A outer s H E O ρ vs hr => by
    have nd := sc_read_number.nd
    exact (ss_cons (sv_expr (cv F_must (Room.mono hr (by decide : 1 ≤ 2)) rfl rfl rfl air_cx rfl (ga_cons (pg_vl (pv_isi rfl rfl b.isinstance (pv_var 0 (pe_var (i := 0) rfl (by exact Or.inl rfl))) (pe_bltn rfl b.str PySem.boot_str' rfl))) ga_nil))) (ss_cons (sv_asg nd rfl (.inl rfl) (pv_split (pv_var 0 (pe_var (i := 0) rfl (by exact Or.inl rfl))) pv_str)) (ss_cons (sv_expr (cv F_must (Room.mono hr (by decide : 1 ≤ 2)) rfl rfl rfl air_cx rfl (ga_cons (pg_vl (pv_cmp op_lt prim_cmpI rfl (pv_callB call_lenV prim_len rfl b.len PySem.boot_len' (ga_cons (pg_vl (pv_var 1 (pe_var (i := 1) rfl (by exact Or.inl rfl)))) ga_nil)) pv_int)) ga_nil))) (ss_cons (sv_if (tt_cmp (op_eqD (Room.units hr)) prim_eq rfl (pv_callB call_lenV prim_len rfl b.len PySem.boot_len' (ga_cons (pg_vl (pv_var 1 (pe_var (i := 1) rfl (by exact Or.inl rfl)))) ga_nil)) pv_int) (ss_one (sv_ret rfl (pv_tup (av_cons (cv F_whole_in (Room.mono hr (by decide : 2 ≤ 2)) rfl rfl rfl air_cx rfl (ga_cons (pg_vl (pv_var 0 (pe_var (i := 0) rfl (by exact Or.inl rfl)))) ga_nil)) (av_cons pv_int av_nil))))) ss_nil) (ss_cons (sv_par rfl nd rfl rfl (by decide) rfl rfl (av_cons (cv F_whole_in (Room.mono hr (by decide : 2 ≤ 2)) rfl rfl rfl air_cx rfl (ga_cons (pg_vl (pv_ix prim_ix (pv_var 1 (pe_var (i := 1) rfl (by exact Or.inl rfl))) pv_int (fun _ _ => rfl))) ga_nil)) (av_cons (cv F_whole_in (Room.mono hr (by decide : 2 ≤ 2)) rfl rfl rfl air_cx rfl (ga_cons (pg_vl (pv_ix prim_ix (pv_var 1 (pe_var (i := 1) rfl (by exact Or.inl rfl))) pv_int (fun _ _ => rfl))) ga_nil)) av_nil)) rfl) (ss_cons (sv_expr (cv F_must (Room.mono hr (by decide : 1 ≤ 2)) rfl rfl rfl air_cx rfl (ga_cons (pg_vl (pv_and (pv_cmp op_gt prim_cmpI rfl (pv_var 3 (pe_var (i := 3) rfl (by exact Or.inl rfl))) pv_int) (pv_one (pv_cmp (op_eqD (Room.units hr)) prim_eq rfl (cv F_number (Room.mono hr (by decide : 2 ≤ 2)) rfl rfl rfl air_cx rfl (ga_cons (pg_vl (pv_var 2 (pe_var (i := 2) rfl (by exact Or.inl rfl)))) (ga_cons (pg_vl (pv_var 3 (pe_var (i := 3) rfl (by exact Or.inl rfl)))) ga_nil))) (pv_tup (av_cons (pv_var 2 (pe_var (i := 2) rfl (by exact Or.inl rfl))) (av_cons (pv_var 3 (pe_var (i := 3) rfl (by exact Or.inl rfl))) av_nil))))))) ga_nil))) (ss_one (sv_ret rfl (pv_tup (av_cons (pv_var 2 (pe_var (i := 2) rfl (by exact Or.inl rfl))) (av_cons (pv_var 3 (pe_var (i := 3) rfl (by exact Or.inl rfl))) av_nil))))))))))))
/-! ### poly_in -/
abbrev s_poly_in : Stmt := topS 34
theorem sc_poly_in : FnScope ["text", "found", "word"] ["text"] (defScope s_poly_in) := ⟨rfl, rfl, rfl, by decide +kernel, rfl, by decide +kernel, by decide +kernel⟩
noncomputable def m_poly_in : Cm Fl := (thenS (ifS (blE (op2 eqD (var 0) (ret (.str "0")))) (retS (tupE (ret []))) skipS) (thenS (asgS 1 (opA tupleD (consG (vl (lsE (lcE [2] (lstS (m1 (fun s => splitD (.str s)) (var 0) (ret (.str " ")))) (setI 2) (ret true) (callA R_whole_in (consG (vl (var 2)) (ret [])))))) (ret [])))) (thenS (exprS (callA R_must (consG (vl (op2 neD (op2 ixD (var 1) (op1 negD (ret (.int 1)))) (ret (.int 0)))) (ret [])))) (retS (var 1)))))
noncomputable def R_poly_in : List D → Rs D := runD 1 3 m_poly_in
theorem ok_poly_in {f : Addr} {fd : FuncData} (D0 : Fun K "poly_in" "poly_in" s_poly_in f fd) (hm : mg "poly_in" = some (.ref f)) (b : Bi mg) (F_must : FD P w K mg base 1 "must" (spF K mg 1 1 false m_must)) (F_whole_in : FD P w K mg base 2 "whole_in" (spF K mg 1 3 false m_whole_in)) : FD P w K mg base 3 "poly_in" (spF K mg 1 3 false m_poly_in) :=
  fd_mk (ps := ["text"]) D0 hm (D0.binds (ps := ["text"]) fun _ _ _ _ _ _ us hl => match us, hl with | [_], _ => rfl) (fnV (np := 1) (fr := false) D0 sc_poly_in rfl fun cdv A outer s H E O ρ vs hr => by
    have nd := sc_poly_in.nd
    exact (ss_cons (sv_if (tt_cmp (op_eqD (Room.units hr)) prim_eq rfl (pv_var 0 (pe_var (i := 0) rfl (by exact Or.inl rfl))) pv_str) (ss_one (sv_ret rfl (pv_tup av_nil))) ss_nil) (ss_cons (sv_asg nd rfl (.inl rfl) (pv_callTy call_tuple_of prim_tuple rfl b.tuple PySem.boot_tuple' (ga_cons (pg_vl (pv_fresh (pf_lc (own := [("word", 2)]) (vs := [2]) frm_cx air_cx rfl nd (iv_list rfl (pv_split (pv_var 0 (pe_var (i := 0) rfl (by exact Or.inl rfl))) pv_str)) (blkOk_by (N := ["text", "found", "word"]) (sc := defScope s_poly_in) (own := [("word", 2)]) (by decide +kernel)) rfl (fun _ _ _ _ _ _ => gv_name (i := 2) nd rfl (.inl rfl)) (fun _ _ _ _ _ _ => tt_nil) (fun _ _ _ _ _ _ => (cv F_whole_in (Room.mono hr (by decide : 2 ≤ 2)) rfl rfl rfl air_blk rfl (ga_cons (pg_vl (pv_var 2 (pe_var (i := 2) rfl (by exact Or.inl rfl)))) ga_nil)))))) ga_nil))) (ss_cons (sv_expr (cv F_must (Room.mono hr (by decide : 1 ≤ 2)) rfl rfl rfl air_cx rfl (ga_cons (pg_vl (pv_cmp (op_neD (Room.units hr)) prim_ne rfl (pv_ix prim_ix (pv_var 1 (pe_var (i := 1) rfl (by exact Or.inl rfl))) (pv_op1 un_neg prim_neg pv_int) (fun _ _ => rfl)) pv_int)) ga_nil))) (ss_one (sv_ret rfl (pv_var 1 (pe_var (i := 1) rfl (by exact Or.inl rfl)))))))))
/-! ### read_poly -/
abbrev s_read_poly : Stmt := topS 35
theorem sc_read_poly : FnScope ["text"] ["text"] (defScope s_read_poly) := ⟨rfl, rfl, rfl, by decide +kernel, rfl, by decide +kernel, by decide +kernel⟩
noncomputable def m_read_poly : Cm Fl := (thenS (exprS (callA R_must (consG (vl (op1 (isiD "str") (var 0))) (ret [])))) (retS (callA R_poly_in (consG (vl (var 0)) (ret [])))))
noncomputable def R_read_poly : List D → Rs D := runD 1 1 m_read_poly
theorem ok_read_poly {f : Addr} {fd : FuncData} (D0 : Fun K "read_poly" "read_poly" s_read_poly f fd) (hm : mg "read_poly" = some (.ref f)) (b : Bi mg) (F_must : FD P w K mg base 1 "must" (spF K mg 1 1 false m_must)) (F_poly_in : FD P w K mg base 3 "poly_in" (spF K mg 1 3 false m_poly_in)) : FD P w K mg base 4 "read_poly" (spF K mg 1 1 false m_read_poly) :=
  fd_mk (ps := ["text"]) D0 hm (D0.binds (ps := ["text"]) fun _ _ _ _ _ _ us hl => match us, hl with | [_], _ => rfl) (fnV (np := 1) (fr := false) D0 sc_read_poly rfl fun cdv A outer s H E O ρ vs hr => by
    have nd := sc_read_poly.nd
    exact (ss_cons (sv_expr (cv F_must (Room.mono hr (by decide : 1 ≤ 3)) rfl rfl rfl air_cx rfl (ga_cons (pg_vl (pv_isi rfl rfl b.isinstance (pv_var 0 (pe_var (i := 0) rfl (by exact Or.inl rfl))) (pe_bltn rfl b.str PySem.boot_str' rfl))) ga_nil))) (ss_one (sv_ret rfl (cv F_poly_in (Room.mono hr (by decide : 3 ≤ 3)) rfl rfl rfl air_cx rfl (ga_cons (pg_vl (pv_var 0 (pe_var (i := 0) rfl (by exact Or.inl rfl)))) ga_nil))))))
/-! ### quotient_in -/
abbrev s_quotient_in : Stmt := topS 36
theorem sc_quotient_in : FnScope ["text", "words", "top", "bottom"] ["text"] (defScope s_quotient_in) := ⟨rfl, rfl, rfl, by decide +kernel, rfl, by decide +kernel, by decide +kernel⟩
noncomputable def m_quotient_in : Cm Fl := (thenS (asgS 1 (m1 (fun s => splitD (.str s)) (var 0) (ret (.str " / ")))) (thenS (exprS (callA R_must (consG (vl (op2 (cmpI fun i j => decide (i < j)) (opA lenD (consG (vl (var 1)) (ret []))) (ret (.int 3)))) (ret [])))) (thenS (asgS 2 (callA R_poly_in (consG (vl (op2 ixD (var 1) (ret (.int 0)))) (ret [])))) (thenS (asgS 3 (tupE (consA (ret (.int 1)) (ret [])))) (thenS (ifS (blE (op2 eqD (opA lenD (consG (vl (var 1)) (ret []))) (ret (.int 2)))) (thenS (asgS 3 (callA R_poly_in (consG (vl (op2 ixD (var 1) (ret (.int 1)))) (ret [])))) (exprS (callA R_must (consG (vl (op2 neD (var 3) (tupE (consA (ret (.int 1)) (ret []))))) (ret []))))) skipS) (thenS (exprS (callA R_must (consG (vl (callA R_is_quotient (consG (vl (tupE (consA (var 2) (consA (var 3) (ret []))))) (ret [])))) (ret [])))) (retS (tupE (consA (var 2) (consA (var 3) (ret [])))))))))))
noncomputable def R_quotient_in : List D → Rs D := runD 1 4 m_quotient_in
theorem ok_quotient_in {f : Addr} {fd : FuncData} (D0 : Fun K "quotient_in" "quotient_in" s_quotient_in f fd) (hm : mg "quotient_in" = some (.ref f)) (b : Bi mg) (F_must : FD P w K mg base 1 "must" (spF K mg 1 1 false m_must)) (F_poly_in : FD P w K mg base 3 "poly_in" (spF K mg 1 3 false m_poly_in)) (F_is_quotient : FD P w K mg base 6 "is_quotient" (spF K mg 1 1 false m_is_quotient)) : FD P w K mg base 7 "quotient_in" (spF K mg 1 4 false m_quotient_in) :=
  fd_mk (ps := ["text"]) D0 hm (D0.binds (ps := ["text"]) fun _ _ _ _ _ _ us hl => match us, hl with | [_], _ => rfl) (fnV (np := 1) (fr := false) D0 sc_quotient_in rfl fun cdv A outer s H E O ρ vs hr => by
    have nd := sc_quotient_in.nd
    exact (ss_cons (sv_asg nd rfl (.inl rfl) (pv_split (pv_var 0 (pe_var (i := 0) rfl (by exact Or.inl rfl))) pv_str)) (ss_cons (sv_expr (cv F_must (Room.mono hr (by decide : 1 ≤ 6)) rfl rfl rfl air_cx rfl (ga_cons (pg_vl (pv_cmp op_lt prim_cmpI rfl (pv_callB call_lenV prim_len rfl b.len PySem.boot_len' (ga_cons (pg_vl (pv_var 1 (pe_var (i := 1) rfl (by exact Or.inl rfl)))) ga_nil)) pv_int)) ga_nil))) (ss_cons (sv_asg nd rfl (.inl rfl) (cv F_poly_in (Room.mono hr (by decide : 3 ≤ 6)) rfl rfl rfl air_cx rfl (ga_cons (pg_vl (pv_ix prim_ix (pv_var 1 (pe_var (i := 1) rfl (by exact Or.inl rfl))) pv_int (fun _ _ => rfl))) ga_nil))) (ss_cons (sv_asg nd rfl (.inl rfl) (pv_tup (av_cons pv_int av_nil))) (ss_cons (sv_if (tt_cmp (op_eqD (Room.units hr)) prim_eq rfl (pv_callB call_lenV prim_len rfl b.len PySem.boot_len' (ga_cons (pg_vl (pv_var 1 (pe_var (i := 1) rfl (by exact Or.inl rfl)))) ga_nil)) pv_int) (ss_cons (sv_asg nd rfl (.inl rfl) (cv F_poly_in (Room.mono hr (by decide : 3 ≤ 6)) rfl rfl rfl air_cx rfl (ga_cons (pg_vl (pv_ix prim_ix (pv_var 1 (pe_var (i := 1) rfl (by exact Or.inl rfl))) pv_int (fun _ _ => rfl))) ga_nil))) (ss_one (sv_expr (cv F_must (Room.mono hr (by decide : 1 ≤ 6)) rfl rfl rfl air_cx rfl (ga_cons (pg_vl (pv_cmp (op_neD (Room.units hr)) prim_ne rfl (pv_var 3 (pe_var (i := 3) rfl (by exact Or.inl rfl))) (pv_tup (av_cons pv_int av_nil)))) ga_nil))))) ss_nil) (ss_cons (sv_expr (cv F_must (Room.mono hr (by decide : 1 ≤ 6)) rfl rfl rfl air_cx rfl (ga_cons (pg_vl (cv F_is_quotient (Room.mono hr (by decide : 6 ≤ 6)) rfl rfl rfl air_cx rfl (ga_cons (pg_vl (pv_tup (av_cons (pv_var 2 (pe_var (i := 2) rfl (by exact Or.inl rfl))) (av_cons (pv_var 3 (pe_var (i := 3) rfl (by exact Or.inl rfl))) av_nil)))) ga_nil))) ga_nil))) (ss_one (sv_ret rfl (pv_tup (av_cons (pv_var 2 (pe_var (i := 2) rfl (by exact Or.inl rfl))) (av_cons (pv_var 3 (pe_var (i := 3) rfl (by exact Or.inl rfl))) av_nil))))))))))))
/-! ### read_quotient -/
abbrev s_read_quotient : Stmt := topS 37
theorem sc_read_quotient : FnScope ["text"] ["text"] (defScope s_read_quotient) := ⟨rfl, rfl, rfl, by decide +kernel, rfl, by decide +kernel, by decide +kernel⟩
noncomputable def m_read_quotient : Cm Fl := (thenS (exprS (callA R_must (consG (vl (op1 (isiD "str") (var 0))) (ret [])))) (retS (callA R_quotient_in (consG (vl (var 0)) (ret [])))))
noncomputable def R_read_quotient : List D → Rs D := runD 1 1 m_read_quotient
theorem ok_read_quotient {f : Addr} {fd : FuncData} (D0 : Fun K "read_quotient" "read_quotient" s_read_quotient f fd) (hm : mg "read_quotient" = some (.ref f)) (b : Bi mg) (F_must : FD P w K mg base 1 "must" (spF K mg 1 1 false m_must)) (F_quotient_in : FD P w K mg base 7 "quotient_in" (spF K mg 1 4 false m_quotient_in)) : FD P w K mg base 8 "read_quotient" (spF K mg 1 1 false m_read_quotient) :=
  fd_mk (ps := ["text"]) D0 hm (D0.binds (ps := ["text"]) fun _ _ _ _ _ _ us hl => match us, hl with | [_], _ => rfl) (fnV (np := 1) (fr := false) D0 sc_read_quotient rfl fun cdv A outer s H E O ρ vs hr => by
    have nd := sc_read_quotient.nd
    exact (ss_cons (sv_expr (cv F_must (Room.mono hr (by decide : 1 ≤ 7)) rfl rfl rfl air_cx rfl (ga_cons (pg_vl (pv_isi rfl rfl b.isinstance (pv_var 0 (pe_var (i := 0) rfl (by exact Or.inl rfl))) (pe_bltn rfl b.str PySem.boot_str' rfl))) ga_nil))) (ss_one (sv_ret rfl (cv F_quotient_in (Room.mono hr (by decide : 7 ≤ 7)) rfl rfl rfl air_cx rfl (ga_cons (pg_vl (pv_var 0 (pe_var (i := 0) rfl (by exact Or.inl rfl)))) ga_nil))))))
/-! ### _law_purse -/
abbrev s__law_purse : Stmt := topS 39
theorem sc__law_purse : FnScope ["_law_script", "_law_at", "_law_cell", "_law_mix", "_law_k"] ["_law_script", "_law_at"] (defScope s__law_purse) := ⟨rfl, rfl, rfl, by decide +kernel, rfl, by decide +kernel, by decide +kernel⟩
noncomputable def m__law_purse : Cm Fl := (thenS (asgS 2 (ret (.int 0))) (thenS (ifS (blE (op2 (cmpI fun i j => decide (i < j)) (var 1) (opA lenD (consG (vl (var 0)) (ret []))))) (asgS 2 (opA absD (consG (vl (op2 ixD (var 0) (var 1))) (ret [])))) skipS) (thenS (asgS 3 (op2 addD (ret (.int 7919)) (op2 mulD (ret (.int 31)) (var 1)))) (thenS (forS (rng1S (consA (opA minD (consG (vl (opA lenD (consG (vl (var 0)) (ret [])))) (consG (vl (ret (.int 40))) (ret [])))) (ret []))) (setI 4) (asgS 3 (op2 modD (op2 addD (op2 addD (op2 powD (var 3) (ret (.int 3))) (op2 modD (op2 ixD (var 0) (var 4)) (ret (.int 1000000007)))) (var 4)) (ret (.int 2147483629))))) (thenS (ifS (blE (op2 (cmpI fun i j => decide (i < j)) (var 2) (op2 powD (ret (.int 10)) (ret (.int 18))))) (asgS 2 (op2 powD (ret (.int 10)) (ret (.int 18)))) skipS) (retF (dispF (consA (op2 subD (var 2) (op2 powD (ret (.int 10)) (ret (.int 18)))) (consA (var 3) (consA (op2 modD (var 1) (ret (.int 11))) (ret [])))))))))))
noncomputable def R__law_purse : List D → Rs D := runD 2 5 m__law_purse
theorem ok__law_purse {f : Addr} {fd : FuncData} (D0 : Fun K "_law_purse" "_law_purse" s__law_purse f fd) (hm : mg "_law_purse" = some (.ref f)) (b : Bi mg)  : FD P w K mg base 1 "_law_purse" (spF K mg 2 5 true m__law_purse) :=
  fd_mk (ps := ["_law_script", "_law_at"]) D0 hm (D0.binds (ps := ["_law_script", "_law_at"]) fun _ _ _ _ _ _ us hl => match us, hl with | [_, _], _ => rfl) (fnV (np := 2) (fr := true) D0 sc__law_purse rfl fun cdv A outer s H E O ρ vs hr => by
    have nd := sc__law_purse.nd
    exact (ss_cons (sv_asg nd rfl (.inl rfl) pv_int) (ss_cons (sv_if (tt_cmp op_lt prim_cmpI rfl (pv_var 1 (pe_var (i := 1) rfl (by exact Or.inl rfl))) (pv_callB call_lenV prim_len rfl b.len PySem.boot_len' (ga_cons (pg_vl (pv_var 0 (pe_var (i := 0) rfl (by exact Or.inl rfl)))) ga_nil))) (ss_one (sv_asg nd rfl (.inl rfl) (pv_callB call_abs prim_abs rfl b.abs PySem.boot_abs' (ga_cons (pg_vl (pv_ix prim_ix (pv_var 0 (pe_var (i := 0) rfl (by exact Or.inl rfl))) (pv_var 1 (pe_var (i := 1) rfl (by exact Or.inl rfl))) (fun _ _ => rfl))) ga_nil)))) ss_nil) (ss_cons (sv_asg nd rfl (.inl rfl) (pv_op2 op_addV prim_add pv_int (pv_op2 op_mulAll prim_mul pv_int (pv_var 1 (pe_var (i := 1) rfl (by exact Or.inl rfl)))))) (ss_cons (sv_for pas_cx rfl (iv_rng1 rfl b.range (av_cons (pv_callB (call_min2 rfl) prim_min rfl b.min PySem.boot_min' (ga_cons (pg_vl (pv_callB call_lenV prim_len rfl b.len PySem.boot_len' (ga_cons (pg_vl (pv_var 0 (pe_var (i := 0) rfl (by exact Or.inl rfl)))) ga_nil))) (ga_cons (pg_vl pv_int) ga_nil))) av_nil)) (gv_name (i := 4) nd rfl (.inl rfl)) (ss_one (sv_asg nd rfl (.inl rfl) (pv_op2 op_modN prim_mod (pv_op2 op_addV prim_add (pv_op2 op_addV prim_add (pv_op2 op_pow prim_pow (pv_var 3 (pe_var (i := 3) rfl (by exact Or.inl rfl))) pv_int) (pv_op2 op_modN prim_mod (pv_ix prim_ix (pv_var 0 (pe_var (i := 0) rfl (by exact Or.inl rfl))) (pv_var 4 (pe_var (i := 4) rfl (by exact Or.inl rfl))) (fun _ _ => rfl)) pv_int)) (pv_var 4 (pe_var (i := 4) rfl (by exact Or.inl rfl)))) pv_int)))) (ss_cons (sv_if (tt_cmp op_lt prim_cmpI rfl (pv_var 2 (pe_var (i := 2) rfl (by exact Or.inl rfl))) (pv_op2 op_pow prim_pow pv_int pv_int)) (ss_one (sv_asg nd rfl (.inl rfl) (pv_op2 op_pow prim_pow pv_int pv_int))) ss_nil) (ss_one (sv_retF rfl (pf_disp (av_cons (pv_op2 op_sub prim_sub (pv_var 2 (pe_var (i := 2) rfl (by exact Or.inl rfl))) (pv_op2 op_pow prim_pow pv_int pv_int)) (av_cons (pv_var 3 (pe_var (i := 3) rfl (by exact Or.inl rfl))) (av_cons (pv_op2 op_modN prim_mod (pv_var 1 (pe_var (i := 1) rfl (by exact Or.inl rfl))) pv_int) av_nil))))))))))))
/-! ### _law_draw -/
abbrev s__law_draw : Stmt := topS 40
theorem sc__law_draw : FnScope ["_law_purse_here", "_law_many_here", "_law_digit", "_law_primes", "_law_found", "_law_room"] ["_law_purse_here", "_law_many_here"] (defScope s__law_draw) := ⟨rfl, rfl, rfl, by decide +kernel, rfl, by decide +kernel, by decide +kernel⟩
noncomputable def m__law_draw : Cm Fl := (thenS (ifS (blE (op2 (cmpI fun i j => decide (j < i)) (op2g ixD (V3.own 0) (vl (ret (.int 0)))) (ret (.int 0)))) (thenS (asgS 2 (op2 modD (op2g ixD (V3.own 0) (vl (ret (.int 0)))) (var 1))) (thenS (setIx 0 (op2 fdivD (op2g ixD (V3.own 0) (vl (ret (.int 0)))) (var 1)) (ret (.int 0))) (retS (var 2)))) skipS) (thenS (asgS 3 (tupE (consA (ret (.int 99991)) (consA (ret (.int 99989)) (consA (ret (.int 99971)) (consA (ret (.int 99961)) (consA (ret (.int 99929)) (consA (ret (.int 99923)) (consA (ret (.int 99907)) (consA (ret (.int 99901)) (consA (ret (.int 99881)) (consA (ret (.int 99877)) (consA (ret (.int 99871)) (ret [])))))))))))))) (thenS (asgS 4 (ret (.int 0))) (thenS (asgS 5 (ret (.int 1))) (thenS (whl (blE (op2 (cmpI fun i j => decide (i < j)) (var 5) (op2 mulD (var 1) (ret (.int 100))))) (thenS (setIx 0 (op2 modD (op2 addD (op2 mulD (op2g ixD (V3.own 0) (vl (ret (.int 1)))) (ret (.int 48271))) (ret (.int 12345))) (ret (.int 2147483629))) (ret (.int 1))) (thenS (setIx 0 (op2 modD (op2 addD (op2g ixD (V3.own 0) (vl (ret (.int 2)))) (ret (.int 1))) (ret (.int 11))) (ret (.int 2))) (thenS (asgS 4 (op2 addD (op2 mulD (var 4) (ret (.int 99000))) (op2 modD (op2 powD (op2g ixD (V3.own 0) (vl (ret (.int 1)))) (ret (.int 5))) (op2 ixD (var 3) (op2g ixD (V3.own 0) (vl (ret (.int 2)))))))) (asgS 5 (op2 mulD (var 5) (ret (.int 99000)))))))) (retS (op2 modD (var 4) (var 1))))))))
noncomputable def G__law_draw : List D → List D → Rs (D × List D) := runL 2 6 m__law_draw
noncomputable def R__law_draw : List D → Rs D := runD 2 6 m__law_draw
theorem ok__law_draw {f : Addr} {fd : FuncData} (D0 : Fun K "_law_draw" "_law_draw" s__law_draw f fd) (hm : mg "_law_draw" = some (.ref f)) (b : Bi mg)  : FD P w K mg base 1 "_law_draw" (spF K mg 2 6 false m__law_draw) :=
  fd_mk (ps := ["_law_purse_here", "_law_many_here"]) D0 hm (D0.binds (ps := ["_law_purse_here", "_law_many_here"]) fun _ _ _ _ _ _ us hl => match us, hl with | [_, _], _ => rfl) (fnV (np := 2) (fr := false) D0 sc__law_draw rfl fun cdv A outer s H E O ρ vs hr => by
    have nd := sc__law_draw.nd
    exact (ss_cons (sv_if (tt_cmp op_gt prim_cmpI rfl (pv_ixg prim_ix (pg_own 0 (pe_var (i := 0) rfl (by exact Or.inl rfl))) (pg_vl pv_int) (fun _ _ => rfl)) pv_int) (ss_cons (sv_asg nd rfl (.inl rfl) (pv_op2 op_modN prim_mod (pv_ixg prim_ix (pg_own 0 (pe_var (i := 0) rfl (by exact Or.inl rfl))) (pg_vl pv_int) (fun _ _ => rfl)) (pv_var 1 (pe_var (i := 1) rfl (by exact Or.inl rfl))))) (ss_cons (sv_setIx (pe_var (i := 0) rfl (by exact Or.inl rfl)) pv_int (pv_op2 op_fdivV prim_fdiv (pv_ixg prim_ix (pg_own 0 (pe_var (i := 0) rfl (by exact Or.inl rfl))) (pg_vl pv_int) (fun _ _ => rfl)) (pv_var 1 (pe_var (i := 1) rfl (by exact Or.inl rfl))))) (ss_one (sv_ret rfl (pv_var 2 (pe_var (i := 2) rfl (by exact Or.inl rfl))))))) ss_nil) (ss_cons (sv_asg nd rfl (.inl rfl) (pv_tup (av_cons pv_int (av_cons pv_int (av_cons pv_int (av_cons pv_int (av_cons pv_int (av_cons pv_int (av_cons pv_int (av_cons pv_int (av_cons pv_int (av_cons pv_int (av_cons pv_int av_nil))))))))))))) (ss_cons (sv_asg nd rfl (.inl rfl) pv_int) (ss_cons (sv_asg nd rfl (.inl rfl) pv_int) (ss_cons (sv_while pas_cx (tt_cmp op_lt prim_cmpI rfl (pv_var 5 (pe_var (i := 5) rfl (by exact Or.inl rfl))) (pv_op2 op_mulAll prim_mul (pv_var 1 (pe_var (i := 1) rfl (by exact Or.inl rfl))) pv_int)) (ss_cons (sv_setIx (pe_var (i := 0) rfl (by exact Or.inl rfl)) pv_int (pv_op2 op_modN prim_mod (pv_op2 op_addV prim_add (pv_op2 op_mulAll prim_mul (pv_ixg prim_ix (pg_own 0 (pe_var (i := 0) rfl (by exact Or.inl rfl))) (pg_vl pv_int) (fun _ _ => rfl)) pv_int) pv_int) pv_int)) (ss_cons (sv_setIx (pe_var (i := 0) rfl (by exact Or.inl rfl)) pv_int (pv_op2 op_modN prim_mod (pv_op2 op_addV prim_add (pv_ixg prim_ix (pg_own 0 (pe_var (i := 0) rfl (by exact Or.inl rfl))) (pg_vl pv_int) (fun _ _ => rfl)) pv_int) pv_int)) (ss_cons (sv_asg nd rfl (.inl rfl) (pv_op2 op_addV prim_add (pv_op2 op_mulAll prim_mul (pv_var 4 (pe_var (i := 4) rfl (by exact Or.inl rfl))) pv_int) (pv_op2 op_modN prim_mod (pv_op2 op_pow prim_pow (pv_ixg prim_ix (pg_own 0 (pe_var (i := 0) rfl (by exact Or.inl rfl))) (pg_vl pv_int) (fun _ _ => rfl)) pv_int) (pv_ix prim_ix (pv_var 3 (pe_var (i := 3) rfl (by exact Or.inl rfl))) (pv_ixg prim_ix (pg_own 0 (pe_var (i := 0) rfl (by exact Or.inl rfl))) (pg_vl pv_int) (fun _ _ => rfl)) (fun _ _ => rfl))))) (ss_one (sv_asg nd rfl (.inl rfl) (pv_op2 op_mulAll prim_mul (pv_var 5 (pe_var (i := 5) rfl (by exact Or.inl rfl))) pv_int))))))) (ss_one (sv_ret rfl (pv_op2 op_modN prim_mod (pv_var 4 (pe_var (i := 4) rfl (by exact Or.inl rfl))) (pv_var 1 (pe_var (i := 1) rfl (by exact Or.inl rfl))))))))))))
/-! ### _law_divisor -/
abbrev s__law_divisor : Stmt := topS 41
theorem sc__law_divisor : FnScope ["_law_one", "_law_other"] ["_law_one", "_law_other"] (defScope s__law_divisor) := ⟨rfl, rfl, rfl, by decide +kernel, rfl, by decide +kernel, by decide +kernel⟩
noncomputable def m__law_divisor : Cm Fl := (thenS (parS 0 1 (consA (opA absD (consG (vl (var 0)) (ret []))) (consA (opA absD (consG (vl (var 1)) (ret []))) (ret [])))) (thenS (whl (blE (op2 (cmpI fun i j => decide (j < i)) (var 1) (ret (.int 0)))) (parS 0 1 (consA (var 1) (consA (op2 modD (var 0) (var 1)) (ret []))))) (retS (var 0))))
noncomputable def R__law_divisor : List D → Rs D := runD 2 2 m__law_divisor
theorem ok__law_divisor {f : Addr} {fd : FuncData} (D0 : Fun K "_law_divisor" "_law_divisor" s__law_divisor f fd) (hm : mg "_law_divisor" = some (.ref f)) (b : Bi mg)  : FD P w K mg base 1 "_law_divisor" (spF K mg 2 2 false m__law_divisor) :=
  fd_mk (ps := ["_law_one", "_law_other"]) D0 hm (D0.binds (ps := ["_law_one", "_law_other"]) fun _ _ _ _ _ _ us hl => match us, hl with | [_, _], _ => rfl) (fnV (np := 2) (fr := false) D0 sc__law_divisor rfl fun cdv A outer s H E O ρ vs hr => by
    have nd := sc__law_divisor.nd
    exact (ss_cons (sv_par rfl nd rfl rfl (by decide) rfl rfl (av_cons (pv_callB call_abs prim_abs rfl b.abs PySem.boot_abs' (ga_cons (pg_vl (pv_var 0 (pe_var (i := 0) rfl (by exact Or.inl rfl)))) ga_nil)) (av_cons (pv_callB call_abs prim_abs rfl b.abs PySem.boot_abs' (ga_cons (pg_vl (pv_var 1 (pe_var (i := 1) rfl (by exact Or.inl rfl)))) ga_nil)) av_nil)) rfl) (ss_cons (sv_while pas_cx (tt_cmp op_gt prim_cmpI rfl (pv_var 1 (pe_var (i := 1) rfl (by exact Or.inl rfl))) pv_int) (ss_one (sv_par rfl nd rfl rfl (by decide) rfl rfl (av_cons (pv_var 1 (pe_var (i := 1) rfl (by exact Or.inl rfl))) (av_cons (pv_op2 op_modN prim_mod (pv_var 0 (pe_var (i := 0) rfl (by exact Or.inl rfl))) (pv_var 1 (pe_var (i := 1) rfl (by exact Or.inl rfl)))) av_nil)) rfl))) (ss_one (sv_ret rfl (pv_var 0 (pe_var (i := 0) rfl (by exact Or.inl rfl))))))))
/-! ### _law_low -/
abbrev s__law_low : Stmt := topS 42
theorem sc__law_low : FnScope ["_law_top", "_law_bottom", "_law_part"] ["_law_top", "_law_bottom"] (defScope s__law_low) := ⟨rfl, rfl, rfl, by decide +kernel, rfl, by decide +kernel, by decide +kernel⟩
noncomputable def m__law_low : Cm Fl := (thenS (asgS 2 (callA R__law_divisor (consG (vl (var 0)) (consG (vl (var 1)) (ret []))))) (thenS (ifS (blE (op2 (cmpI fun i j => decide (i < j)) (var 1) (ret (.int 0)))) (asgS 2 (op1 negD (var 2))) skipS) (retS (tupE (consA (op2 fdivD (var 0) (var 2)) (consA (op2 fdivD (var 1) (var 2)) (ret [])))))))
noncomputable def R__law_low : List D → Rs D := runD 2 3 m__law_low
theorem ok__law_low {f : Addr} {fd : FuncData} (D0 : Fun K "_law_low" "_law_low" s__law_low f fd) (hm : mg "_law_low" = some (.ref f)) (b : Bi mg) (F__law_divisor : FD P w K mg base 1 "_law_divisor" (spF K mg 2 2 false m__law_divisor)) : FD P w K mg base 2 "_law_low" (spF K mg 2 3 false m__law_low) :=
  fd_mk (ps := ["_law_top", "_law_bottom"]) D0 hm (D0.binds (ps := ["_law_top", "_law_bottom"]) fun _ _ _ _ _ _ us hl => match us, hl with | [_, _], _ => rfl) (fnV (np := 2) (fr := false) D0 sc__law_low rfl fun cdv A outer s H E O ρ vs hr => by
    have nd := sc__law_low.nd
    exact (ss_cons (sv_asg nd rfl (.inl rfl) (cv F__law_divisor (Room.mono hr (by decide : 1 ≤ 1)) rfl rfl rfl air_cx rfl (ga_cons (pg_vl (pv_var 0 (pe_var (i := 0) rfl (by exact Or.inl rfl)))) (ga_cons (pg_vl (pv_var 1 (pe_var (i := 1) rfl (by exact Or.inl rfl)))) ga_nil)))) (ss_cons (sv_if (tt_cmp op_lt prim_cmpI rfl (pv_var 1 (pe_var (i := 1) rfl (by exact Or.inl rfl))) pv_int) (ss_one (sv_asg nd rfl (.inl rfl) (pv_op1 un_neg prim_neg (pv_var 2 (pe_var (i := 2) rfl (by exact Or.inl rfl)))))) ss_nil) (ss_one (sv_ret rfl (pv_tup (av_cons (pv_op2 op_fdivV prim_fdiv (pv_var 0 (pe_var (i := 0) rfl (by exact Or.inl rfl))) (pv_var 2 (pe_var (i := 2) rfl (by exact Or.inl rfl)))) (av_cons (pv_op2 op_fdivV prim_fdiv (pv_var 1 (pe_var (i := 1) rfl (by exact Or.inl rfl))) (pv_var 2 (pe_var (i := 2) rfl (by exact Or.inl rfl)))) av_nil))))))))
/-! ### _law_whole -/
abbrev s__law_whole : Stmt := topS 43
theorem sc__law_whole : FnScope ["_law_purse_here", "_law_most", "_law_way"] ["_law_purse_here", "_law_most"] (defScope s__law_whole) := ⟨rfl, rfl, rfl, by decide +kernel, rfl, by decide +kernel, by decide +kernel⟩
noncomputable def m__law_whole : Cm Fl := (thenS (asgS 2 (callL G__law_draw 0 (consA (ret (.int 8)) (ret [])))) (thenS (ifS (blE (op2 eqD (var 2) (ret (.int 0)))) (retS (ret (.int 0))) skipS) (thenS (ifS (blE (op2 eqD (var 2) (ret (.int 1)))) (retS (op2 addD (op2 subD (callL G__law_draw 0 (consA (op2 subD (op2 mulD (ret (.int 2)) (var 1)) (ret (.int 1))) (ret []))) (var 1)) (ret (.int 1)))) skipS) (retS (op2 subD (callL G__law_draw 0 (consA (ret (.int 19)) (ret []))) (ret (.int 9)))))))
noncomputable def G__law_whole : List D → List D → Rs (D × List D) := runL 2 3 m__law_whole
noncomputable def R__law_whole : List D → Rs D := runD 2 3 m__law_whole
theorem ok__law_whole {f : Addr} {fd : FuncData} (D0 : Fun K "_law_whole" "_law_whole" s__law_whole f fd) (hm : mg "_law_whole" = some (.ref f)) (b : Bi mg) (F__law_draw : FD P w K mg base 1 "_law_draw" (spF K mg 2 6 false m__law_draw)) : FD P w K mg base 2 "_law_whole" (spF K mg 2 3 false m__law_whole) :=
  fd_mk (ps := ["_law_purse_here", "_law_most"]) D0 hm (D0.binds (ps := ["_law_purse_here", "_law_most"]) fun _ _ _ _ _ _ us hl => match us, hl with | [_, _], _ => rfl) (fnV (np := 2) (fr := false) D0 sc__law_whole rfl fun cdv A outer s H E O ρ vs hr => by
    have nd := sc__law_whole.nd
    exact (ss_cons (sv_asg nd rfl (.inl rfl) (cl F__law_draw (Room.mono hr (by decide : 1 ≤ 1)) rfl rfl rfl air_cx rfl (pe_var (i := 0) rfl (by exact Or.inl rfl)) (av_cons pv_int av_nil))) (ss_cons (sv_if (tt_cmp (op_eqD (Room.units hr)) prim_eq rfl (pv_var 2 (pe_var (i := 2) rfl (by exact Or.inl rfl))) pv_int) (ss_one (sv_ret rfl pv_int)) ss_nil) (ss_cons (sv_if (tt_cmp (op_eqD (Room.units hr)) prim_eq rfl (pv_var 2 (pe_var (i := 2) rfl (by exact Or.inl rfl))) pv_int) (ss_one (sv_ret rfl (pv_op2 op_addV prim_add (pv_op2 op_sub prim_sub (cl F__law_draw (Room.mono hr (by decide : 1 ≤ 1)) rfl rfl rfl air_cx rfl (pe_var (i := 0) rfl (by exact Or.inl rfl)) (av_cons (pv_op2 op_sub prim_sub (pv_op2 op_mulAll prim_mul pv_int (pv_var 1 (pe_var (i := 1) rfl (by exact Or.inl rfl)))) pv_int) av_nil)) (pv_var 1 (pe_var (i := 1) rfl (by exact Or.inl rfl)))) pv_int))) ss_nil) (ss_one (sv_ret rfl (pv_op2 op_sub prim_sub (cl F__law_draw (Room.mono hr (by decide : 1 ≤ 1)) rfl rfl rfl air_cx rfl (pe_var (i := 0) rfl (by exact Or.inl rfl)) (av_cons pv_int av_nil)) pv_int)))))))
/-! ### _law_cut -/
abbrev s__law_cut : Stmt := topS 45
theorem sc__law_cut : FnScope ["_law_line", "_law_many_here"] ["_law_line"] (defScope s__law_cut) := ⟨rfl, rfl, rfl, by decide +kernel, rfl, by decide +kernel, by decide +kernel⟩
noncomputable def m__law_cut : Cm Fl := (thenS (asgS 1 (opA lenD (consG (vl (var 0)) (ret [])))) (thenS (whl (andT (blE (op2 (cmpI fun i j => decide (j < i)) (var 1) (ret (.int 0)))) (blE (op2 eqD (op2 ixD (var 0) (op2 subD (var 1) (ret (.int 1)))) (ret (.int 0))))) (augN 1 (fun i j => i - j) (ret (.int 1)))) (retS (opA tupleD (consG (vl (slE (vl (var 0)) partN (partS (var 1)))) (ret []))))))
noncomputable def R__law_cut : List D → Rs D := runD 1 2 m__law_cut
theorem ok__law_cut {f : Addr} {fd : FuncData} (D0 : Fun K "_law_cut" "_law_cut" s__law_cut f fd) (hm : mg "_law_cut" = some (.ref f)) (b : Bi mg)  : FD P w K mg base 1 "_law_cut" (spF K mg 1 2 false m__law_cut) :=
  fd_mk (ps := ["_law_line"]) D0 hm (D0.binds (ps := ["_law_line"]) fun _ _ _ _ _ _ us hl => match us, hl with | [_], _ => rfl) (fnV (np := 1) (fr := false) D0 sc__law_cut rfl fun cdv A outer s H E O ρ vs hr => by
    have nd := sc__law_cut.nd
    exact (ss_cons (sv_asg nd rfl (.inl rfl) (pv_callB call_lenV prim_len rfl b.len PySem.boot_len' (ga_cons (pg_vl (pv_var 0 (pe_var (i := 0) rfl (by exact Or.inl rfl)))) ga_nil))) (ss_cons (sv_while pas_cx (PW.pt (wt_and (tt_cmp op_gt prim_cmpI rfl (pv_var 1 (pe_var (i := 1) rfl (by exact Or.inl rfl))) pv_int) (wt_and1 (tt_cmp (op_eqD (Room.units hr)) prim_eq rfl (pv_ix prim_ix (pv_var 0 (pe_var (i := 0) rfl (by exact Or.inl rfl))) (pv_op2 op_sub prim_sub (pv_var 1 (pe_var (i := 1) rfl (by exact Or.inl rfl))) pv_int) (fun _ _ => rfl)) pv_int)))) (ss_one (sv_augN ip_sub nd rfl (.inl rfl) pv_int))) (ss_one (sv_ret rfl (pv_callTy call_tuple_of prim_tuple rfl b.tuple PySem.boot_tuple' (ga_cons (pg_vl (pv_sl rfl (pg_vl (pv_var 0 (pe_var (i := 0) rfl (by exact Or.inl rfl)))) pp_none (pp_some (pv_var 1 (pe_var (i := 1) rfl (by exact Or.inl rfl)))))) ga_nil)))))))
/-! ### _law_poly -/
abbrev s__law_poly : Stmt := topS 44
theorem sc__law_poly : FnScope ["_law_purse_here", "_law_most", "_law_signs", "_law_found", "_law_k"] ["_law_purse_here", "_law_most", "_law_signs"] (defScope s__law_poly) := ⟨rfl, rfl, rfl, by decide +kernel, rfl, by decide +kernel, by decide +kernel⟩
noncomputable def m__law_poly : Cm Fl := (thenS (asgS 3 (lsE (lcE [4] (rng1S (consA (callL G__law_draw 0 (consA (op2 addD (var 1) (ret (.int 1))) (ret []))) (ret []))) (setI 4) (ret true) (callL G__law_whole 0 (consA (var 2) (ret [])))))) (retS (callA R__law_cut (consG (vl (var 3)) (ret [])))))
noncomputable def G__law_poly : List D → List D → Rs (D × List D) := runL 3 5 m__law_poly
noncomputable def R__law_poly : List D → Rs D := runD 3 5 m__law_poly
theorem ok__law_poly {f : Addr} {fd : FuncData} (D0 : Fun K "_law_poly" "_law_poly" s__law_poly f fd) (hm : mg "_law_poly" = some (.ref f)) (b : Bi mg) (F__law_cut : FD P w K mg base 1 "_law_cut" (spF K mg 1 2 false m__law_cut)) (F__law_whole : FD P w K mg base 2 "_law_whole" (spF K mg 2 3 false m__law_whole)) (F__law_draw : FD P w K mg base 1 "_law_draw" (spF K mg 2 6 false m__law_draw)) : FD P w K mg base 3 "_law_poly" (spF K mg 3 5 false m__law_poly) :=
  fd_mk (ps := ["_law_purse_here", "_law_most", "_law_signs"]) D0 hm (D0.binds (ps := ["_law_purse_here", "_law_most", "_law_signs"]) fun _ _ _ _ _ _ us hl => match us, hl with | [_, _, _], _ => rfl) (fnV (np := 3) (fr := false) D0 sc__law_poly rfl fun cdv A outer s H E O ρ vs hr => by
    have nd := sc__law_poly.nd
    exact (ss_cons (sv_asgLc rfl rfl (by rfl) (own := [("_law_k", 4)]) (vs := [4]) frm_cx air_cx rfl nd (iv_rng1 rfl b.range (av_cons (cl F__law_draw (Room.mono hr (by decide : 1 ≤ 2)) rfl rfl rfl air_cx rfl (pe_var (i := 0) rfl (by exact Or.inr (Or.inl rfl))) (av_cons (pv_op2 op_addV prim_add (pv_var 1 (pe_var (i := 1) rfl (by exact Or.inl rfl))) pv_int) av_nil)) av_nil)) (blkOk_by (N := ["_law_purse_here", "_law_most", "_law_signs", "_law_found", "_law_k"]) (sc := defScope s__law_poly) (own := [("_law_k", 4)]) (by decide +kernel)) rfl (fun _ _ _ _ _ _ => gv_name (i := 4) nd rfl (.inl rfl)) (fun _ _ _ _ _ _ => tt_nil) (fun _ _ _ _ _ _ => (cl F__law_whole (Room.mono hr (by decide : 2 ≤ 2)) rfl rfl rfl air_blk rfl (pe_var (i := 0) rfl (by exact Or.inr (Or.inl rfl))) (av_cons (pv_var 2 (pe_var (i := 2) rfl (by exact Or.inr (Or.inl rfl)))) av_nil)))) (ss_one (sv_ret rfl (cv F__law_cut (Room.mono hr (by decide : 1 ≤ 2)) rfl rfl rfl air_cx rfl (ga_cons (pg_vl (pv_var 3 (pe_var (i := 3) rfl (by exact Or.inl rfl)))) ga_nil))))))
/-! ### _law_sum -/
abbrev s__law_sum : Stmt := topS 46
theorem sc__law_sum : FnScope ["_law_one", "_law_other", "_law_often", "_law_many_here", "_law_left_here", "_law_right", "_law_k"] ["_law_one", "_law_other", "_law_often"] (defScope s__law_sum) := ⟨rfl, rfl, rfl, by decide +kernel, rfl, by decide +kernel, by decide +kernel⟩
noncomputable def m__law_sum : Cm Fl := (thenS (asgS 3 (opA maxD (consG (vl (opA lenD (consG (vl (var 0)) (ret [])))) (consG (vl (opA lenD (consG (vl (var 1)) (ret [])))) (ret []))))) (thenS (asgS 4 (op2 addD (opA listD (consG (vl (var 0)) (ret []))) (op2 mulD (lstE (consA (ret (.int 0)) (ret []))) (op2 subD (var 3) (opA lenD (consG (vl (var 0)) (ret []))))))) (thenS (asgS 5 (op2 addD (opA listD (consG (vl (var 1)) (ret []))) (op2 mulD (lstE (consA (ret (.int 0)) (ret []))) (op2 subD (var 3) (opA lenD (consG (vl (var 1)) (ret []))))))) (retS (callA R__law_cut (consG (vl (lsE (lcE [6] (rng1S (consA (var 3) (ret []))) (setI 6) (ret true) (op2 addD (op2 ixD (var 4) (var 6)) (op2 mulD (var 2) (op2 ixD (var 5) (var 6))))))) (ret [])))))))
noncomputable def R__law_sum : List D → Rs D := runD 3 7 m__law_sum
theorem ok__law_sum {f : Addr} {fd : FuncData} (D0 : Fun K "_law_sum" "_law_sum" s__law_sum f fd) (hm : mg "_law_sum" = some (.ref f)) (b : Bi mg) (F__law_cut : FD P w K mg base 1 "_law_cut" (spF K mg 1 2 false m__law_cut)) : FD P w K mg base 2 "_law_sum" (spF K mg 3 7 false m__law_sum) :=
  fd_mk (ps := ["_law_one", "_law_other", "_law_often"]) D0 hm (D0.binds (ps := ["_law_one", "_law_other", "_law_often"]) fun _ _ _ _ _ _ us hl => match us, hl with | [_, _, _], _ => rfl) (fnV (np := 3) (fr := false) D0 sc__law_sum rfl fun cdv A outer s H E O ρ vs hr => by
    have nd := sc__law_sum.nd
    exact (ss_cons (sv_asg nd rfl (.inl rfl) (pv_callB (call_max2 rfl) prim_max rfl b.max PySem.boot_max' (ga_cons (pg_vl (pv_callB call_lenV prim_len rfl b.len PySem.boot_len' (ga_cons (pg_vl (pv_var 0 (pe_var (i := 0) rfl (by exact Or.inl rfl)))) ga_nil))) (ga_cons (pg_vl (pv_callB call_lenV prim_len rfl b.len PySem.boot_len' (ga_cons (pg_vl (pv_var 1 (pe_var (i := 1) rfl (by exact Or.inl rfl)))) ga_nil))) ga_nil)))) (ss_cons (sv_asg nd rfl (.inr rfl) (pv_op2 op_addV prim_add (pv_callTy call_list_of prim_list rfl b.list PySem.boot_list' (ga_cons (pg_vl (pv_var 0 (pe_var (i := 0) rfl (by exact Or.inl rfl)))) ga_nil)) (pv_op2 op_mulAll prim_mul (pv_lst (av_cons pv_int av_nil)) (pv_op2 op_sub prim_sub (pv_var 3 (pe_var (i := 3) rfl (by exact Or.inl rfl))) (pv_callB call_lenV prim_len rfl b.len PySem.boot_len' (ga_cons (pg_vl (pv_var 0 (pe_var (i := 0) rfl (by exact Or.inl rfl)))) ga_nil)))))) (ss_cons (sv_asg nd rfl (.inr rfl) (pv_op2 op_addV prim_add (pv_callTy call_list_of prim_list rfl b.list PySem.boot_list' (ga_cons (pg_vl (pv_var 1 (pe_var (i := 1) rfl (by exact Or.inl rfl)))) ga_nil)) (pv_op2 op_mulAll prim_mul (pv_lst (av_cons pv_int av_nil)) (pv_op2 op_sub prim_sub (pv_var 3 (pe_var (i := 3) rfl (by exact Or.inl rfl))) (pv_callB call_lenV prim_len rfl b.len PySem.boot_len' (ga_cons (pg_vl (pv_var 1 (pe_var (i := 1) rfl (by exact Or.inl rfl)))) ga_nil)))))) (ss_one (sv_ret rfl (cv F__law_cut (Room.mono hr (by decide : 1 ≤ 1)) rfl rfl rfl air_cx rfl (ga_cons (pg_vl (pv_fresh (pf_lc (own := [("_law_k", 6)]) (vs := [6]) frm_cx air_cx rfl nd (iv_rng1 rfl b.range (av_cons (pv_var 3 (pe_var (i := 3) rfl (by exact Or.inl rfl))) av_nil)) (blkOk_by (N := ["_law_one", "_law_other", "_law_often", "_law_many_here", "_law_left_here", "_law_right", "_law_k"]) (sc := defScope s__law_sum) (own := [("_law_k", 6)]) (by decide +kernel)) rfl (fun _ _ _ _ _ _ => gv_name (i := 6) nd rfl (.inl rfl)) (fun _ _ _ _ _ _ => tt_nil) (fun _ _ _ _ _ _ => (pv_op2 op_addV prim_add (pv_ix prim_ix (pv_var 4 (pe_var (i := 4) rfl (by exact Or.inr (Or.inl rfl)))) (pv_var 6 (pe_var (i := 6) rfl (by exact Or.inl rfl))) (fun _ _ => rfl)) (pv_op2 op_mulAll prim_mul (pv_var 2 (pe_var (i := 2) rfl (by exact Or.inr (Or.inl rfl)))) (pv_ix prim_ix (pv_var 5 (pe_var (i := 5) rfl (by exact Or.inr (Or.inl rfl)))) (pv_var 6 (pe_var (i := 6) rfl (by exact Or.inl rfl))) (fun _ _ => rfl)))))))) ga_nil))))))))
/-! ### _law_product -/
abbrev s__law_product : Stmt := topS 47
theorem sc__law_product : FnScope ["_law_one", "_law_other", "_law_found", "_law_k", "_law_j"] ["_law_one", "_law_other"] (defScope s__law_product) := ⟨rfl, rfl, rfl, by decide +kernel, rfl, by decide +kernel, by decide +kernel⟩
noncomputable def m__law_product : Cm Fl := (thenS (asgO 2 2 (repF (lstE (consA (ret (.int 0)) (ret []))) (op2 addD (opA lenD (consG (vl (var 0)) (ret []))) (opA lenD (consG (vl (var 1)) (ret [])))))) (thenS (forS (rng1S (consA (opA lenD (consG (vl (var 0)) (ret []))) (ret []))) (setI 3) (forS (rng1S (consA (opA lenD (consG (vl (var 1)) (ret []))) (ret []))) (setI 4) (augIx 2 (op2 addD (var 3) (var 4)) (fun i j => i + j) (op2 mulD (op2 ixD (var 0) (var 3)) (op2 ixD (var 1) (var 4)))))) (retS (callA R__law_cut (consG (V3.own 2) (ret []))))))
noncomputable def R__law_product : List D → Rs D := runD 2 5 m__law_product
theorem ok__law_product {f : Addr} {fd : FuncData} (D0 : Fun K "_law_product" "_law_product" s__law_product f fd) (hm : mg "_law_product" = some (.ref f)) (b : Bi mg) (F__law_cut : FD P w K mg base 1 "_law_cut" (spF K mg 1 2 false m__law_cut)) : FD P w K mg base 2 "_law_product" (spF K mg 2 5 false m__law_product) :=
  fd_mk (ps := ["_law_one", "_law_other"]) D0 hm (D0.binds (ps := ["_law_one", "_law_other"]) fun _ _ _ _ _ _ us hl => match us, hl with | [_, _], _ => rfl) (fnV (np := 2) (fr := false) D0 sc__law_product rfl fun cdv A outer s H E O ρ vs hr => by
    have nd := sc__law_product.nd
    exact (ss_cons (sv_asgO rfl nd rfl (.inl rfl) (pf_rep (pv_lst (av_cons pv_int av_nil)) (pv_op2 op_addV prim_add (pv_callB call_lenV prim_len rfl b.len PySem.boot_len' (ga_cons (pg_vl (pv_var 0 (pe_var (i := 0) rfl (by exact Or.inl rfl)))) ga_nil)) (pv_callB call_lenV prim_len rfl b.len PySem.boot_len' (ga_cons (pg_vl (pv_var 1 (pe_var (i := 1) rfl (by exact Or.inl rfl)))) ga_nil))))) (ss_cons (sv_for pas_cx rfl (iv_rng1 rfl b.range (av_cons (pv_callB call_lenV prim_len rfl b.len PySem.boot_len' (ga_cons (pg_vl (pv_var 0 (pe_var (i := 0) rfl (by exact Or.inl rfl)))) ga_nil)) av_nil)) (gv_name (i := 3) nd rfl (.inl rfl)) (ss_one (sv_for pas_cx rfl (iv_rng1 rfl b.range (av_cons (pv_callB call_lenV prim_len rfl b.len PySem.boot_len' (ga_cons (pg_vl (pv_var 1 (pe_var (i := 1) rfl (by exact Or.inl rfl)))) ga_nil)) av_nil)) (gv_name (i := 4) nd rfl (.inl rfl)) (ss_one (sv_augIx ip_add rfl (pe_var (i := 2) rfl (by exact Or.inl rfl)) (pv_op2 op_addV prim_add (pv_var 3 (pe_var (i := 3) rfl (by exact Or.inl rfl))) (pv_var 4 (pe_var (i := 4) rfl (by exact Or.inl rfl)))) (pv_op2 op_mulAll prim_mul (pv_ix prim_ix (pv_var 0 (pe_var (i := 0) rfl (by exact Or.inl rfl))) (pv_var 3 (pe_var (i := 3) rfl (by exact Or.inl rfl))) (fun _ _ => rfl)) (pv_ix prim_ix (pv_var 1 (pe_var (i := 1) rfl (by exact Or.inl rfl))) (pv_var 4 (pe_var (i := 4) rfl (by exact Or.inl rfl))) (fun _ _ => rfl)))))))) (ss_one (sv_ret rfl (cv F__law_cut (Room.mono hr (by decide : 1 ≤ 1)) rfl rfl rfl air_cx rfl (ga_cons (pg_own 2 (pe_var (i := 2) rfl (by exact Or.inl rfl))) ga_nil)))))))
/-! ### _law_plain -/
abbrev s__law_plain : Stmt := topS 48
theorem sc__law_plain : FnScope ["_law_one", "_law_part", "_law_entry"] ["_law_one"] (defScope s__law_plain) := ⟨rfl, rfl, rfl, by decide +kernel, rfl, by decide +kernel, by decide +kernel⟩
noncomputable def m__law_plain : Cm Fl := (thenS (asgS 1 (ret (.int 0))) (thenS (forS (tupS (var 0)) (setI 2) (asgS 1 (callA R__law_divisor (consG (vl (var 1)) (consG (vl (var 2)) (ret [])))))) (thenS (ifS (andT (blE (op2 neD (var 0) (tupE (ret [])))) (blE (op2 (cmpI fun i j => decide (i < j)) (op2 ixD (var 0) (op1 negD (ret (.int 1)))) (ret (.int 0))))) (asgS 1 (op1 negD (var 1))) skipS) (retS (opA tupleD (consG (vl (lsE (lcE [2] (tupS (var 0)) (setI 2) (ret true) (op2 fdivD (var 2) (var 1))))) (ret [])))))))
noncomputable def R__law_plain : List D → Rs D := runD 1 3 m__law_plain
theorem ok__law_plain {f : Addr} {fd : FuncData} (D0 : Fun K "_law_plain" "_law_plain" s__law_plain f fd) (hm : mg "_law_plain" = some (.ref f)) (b : Bi mg) (F__law_divisor : FD P w K mg base 1 "_law_divisor" (spF K mg 2 2 false m__law_divisor)) : FD P w K mg base 2 "_law_plain" (spF K mg 1 3 false m__law_plain) :=
  fd_mk (ps := ["_law_one"]) D0 hm (D0.binds (ps := ["_law_one"]) fun _ _ _ _ _ _ us hl => match us, hl with | [_], _ => rfl) (fnV (np := 1) (fr := false) D0 sc__law_plain rfl fun cdv A outer s H E O ρ vs hr => by
    have nd := sc__law_plain.nd
    exact (ss_cons (sv_asg nd rfl (.inr rfl) pv_int) (ss_cons (sv_for pas_cx rfl (iv_tup rfl (pv_var 0 (pe_var (i := 0) rfl (by exact Or.inl rfl)))) (gv_name (i := 2) nd rfl (.inl rfl)) (ss_one (sv_asg nd rfl (.inr rfl) (cv F__law_divisor (Room.mono hr (by decide : 1 ≤ 1)) rfl rfl rfl air_cx rfl (ga_cons (pg_vl (pv_var 1 (pe_var (i := 1) rfl (by exact Or.inr (Or.inl rfl))))) (ga_cons (pg_vl (pv_var 2 (pe_var (i := 2) rfl (by exact Or.inl rfl)))) ga_nil)))))) (ss_cons (sv_if (PW.pt (wt_and (tt_cmp (op_neD (Room.units hr)) prim_ne rfl (pv_var 0 (pe_var (i := 0) rfl (by exact Or.inl rfl))) (pv_tup av_nil)) (wt_and1 (tt_cmp op_lt prim_cmpI rfl (pv_ix prim_ix (pv_var 0 (pe_var (i := 0) rfl (by exact Or.inl rfl))) (pv_op1 un_neg prim_neg pv_int) (fun _ _ => rfl)) pv_int)))) (ss_one (sv_asg nd rfl (.inr rfl) (pv_op1 un_neg prim_neg (pv_var 1 (pe_var (i := 1) rfl (by exact Or.inr (Or.inl rfl))))))) ss_nil) (ss_one (sv_ret rfl (pv_callTy call_tuple_of prim_tuple rfl b.tuple PySem.boot_tuple' (ga_cons (pg_vl (pv_fresh (pf_lc (own := [("_law_entry", 2)]) (vs := [2]) frm_cx air_cx rfl nd (iv_tup rfl (pv_var 0 (pe_var (i := 0) rfl (by exact Or.inl rfl)))) (blkOk_by (N := ["_law_one", "_law_part", "_law_entry"]) (sc := defScope s__law_plain) (own := [("_law_entry", 2)]) (by decide +kernel)) rfl (fun _ _ _ _ _ _ => gv_name (i := 2) nd rfl (.inl rfl)) (fun _ _ _ _ _ _ => tt_nil) (fun _ _ _ _ _ _ => (pv_op2 op_fdivV prim_fdiv (pv_var 2 (pe_var (i := 2) rfl (by exact Or.inl rfl))) (pv_var 1 (pe_var (i := 1) rfl (by exact Or.inr (Or.inl rfl))))))))) ga_nil))))))))
/-! ### _law_left -/
abbrev s__law_left : Stmt := topS 49
theorem sc__law_left : FnScope ["_law_one", "_law_other", "_law_shift", "_law_head"] ["_law_one", "_law_other"] (defScope s__law_left) := ⟨rfl, rfl, rfl, by decide +kernel, rfl, by decide +kernel, by decide +kernel⟩
noncomputable def m__law_left : Cm Fl := (thenS (whl (blE (op2 (cmpI fun i j => decide (j ≤ i)) (opA lenD (consG (vl (var 0)) (ret []))) (opA lenD (consG (vl (var 1)) (ret []))))) (thenS (asgS 2 (op2 subD (opA lenD (consG (vl (var 0)) (ret []))) (opA lenD (consG (vl (var 1)) (ret []))))) (thenS (asgS 3 (callA R__law_product (consG (vl (op2 addD (op2 mulD (tupE (consA (ret (.int 0)) (ret []))) (var 2)) (tupE (consA (op2 ixD (var 0) (op1 negD (ret (.int 1)))) (ret []))))) (consG (vl (var 1)) (ret []))))) (asgS 0 (callA R__law_plain (consG (vl (callA R__law_sum (consG (vl (callA R__law_product (consG (vl (tupE (consA (op2 ixD (var 1) (op1 negD (ret (.int 1)))) (ret [])))) (consG (vl (var 0)) (ret []))))) (consG (vl (var 3)) (consG (vl (op1 negD (ret (.int 1)))) (ret [])))))) (ret []))))))) (retS (var 0)))
noncomputable def R__law_left : List D → Rs D := runD 2 4 m__law_left
theorem ok__law_left {f : Addr} {fd : FuncData} (D0 : Fun K "_law_left" "_law_left" s__law_left f fd) (hm : mg "_law_left" = some (.ref f)) (b : Bi mg) (F__law_product : FD P w K mg base 2 "_law_product" (spF K mg 2 5 false m__law_product)) (F__law_plain : FD P w K mg base 2 "_law_plain" (spF K mg 1 3 false m__law_plain)) (F__law_sum : FD P w K mg base 2 "_law_sum" (spF K mg 3 7 false m__law_sum)) : FD P w K mg base 3 "_law_left" (spF K mg 2 4 false m__law_left) :=
  fd_mk (ps := ["_law_one", "_law_other"]) D0 hm (D0.binds (ps := ["_law_one", "_law_other"]) fun _ _ _ _ _ _ us hl => match us, hl with | [_, _], _ => rfl) (fnV (np := 2) (fr := false) D0 sc__law_left rfl fun cdv A outer s H E O ρ vs hr => by
    have nd := sc__law_left.nd
    exact (ss_cons (sv_while pas_cx (tt_cmp op_ge prim_cmpI rfl (pv_callB call_lenV prim_len rfl b.len PySem.boot_len' (ga_cons (pg_vl (pv_var 0 (pe_var (i := 0) rfl (by exact Or.inl rfl)))) ga_nil)) (pv_callB call_lenV prim_len rfl b.len PySem.boot_len' (ga_cons (pg_vl (pv_var 1 (pe_var (i := 1) rfl (by exact Or.inl rfl)))) ga_nil))) (ss_cons (sv_asg nd rfl (.inl rfl) (pv_op2 op_sub prim_sub (pv_callB call_lenV prim_len rfl b.len PySem.boot_len' (ga_cons (pg_vl (pv_var 0 (pe_var (i := 0) rfl (by exact Or.inl rfl)))) ga_nil)) (pv_callB call_lenV prim_len rfl b.len PySem.boot_len' (ga_cons (pg_vl (pv_var 1 (pe_var (i := 1) rfl (by exact Or.inl rfl)))) ga_nil)))) (ss_cons (sv_asg nd rfl (.inl rfl) (cv F__law_product (Room.mono hr (by decide : 2 ≤ 2)) rfl rfl rfl air_cx rfl (ga_cons (pg_vl (pv_op2 op_addV prim_add (pv_op2 op_mulAll prim_mul (pv_tup (av_cons pv_int av_nil)) (pv_var 2 (pe_var (i := 2) rfl (by exact Or.inl rfl)))) (pv_tup (av_cons (pv_ix prim_ix (pv_var 0 (pe_var (i := 0) rfl (by exact Or.inl rfl))) (pv_op1 un_neg prim_neg pv_int) (fun _ _ => rfl)) av_nil)))) (ga_cons (pg_vl (pv_var 1 (pe_var (i := 1) rfl (by exact Or.inl rfl)))) ga_nil)))) (ss_one (sv_asg nd rfl (.inl rfl) (cv F__law_plain (Room.mono hr (by decide : 2 ≤ 2)) rfl rfl rfl air_cx rfl (ga_cons (pg_vl (cv F__law_sum (Room.mono hr (by decide : 2 ≤ 2)) rfl rfl rfl air_cx rfl (ga_cons (pg_vl (cv F__law_product (Room.mono hr (by decide : 2 ≤ 2)) rfl rfl rfl air_cx rfl (ga_cons (pg_vl (pv_tup (av_cons (pv_ix prim_ix (pv_var 1 (pe_var (i := 1) rfl (by exact Or.inl rfl))) (pv_op1 un_neg prim_neg pv_int) (fun _ _ => rfl)) av_nil))) (ga_cons (pg_vl (pv_var 0 (pe_var (i := 0) rfl (by exact Or.inl rfl)))) ga_nil)))) (ga_cons (pg_vl (pv_var 3 (pe_var (i := 3) rfl (by exact Or.inl rfl)))) (ga_cons (pg_vl (pv_op1 un_neg prim_neg pv_int)) ga_nil))))) ga_nil))))))) (ss_one (sv_ret rfl (pv_var 0 (pe_var (i := 0) rfl (by exact Or.inl rfl)))))))
/-! ### _law_common -/
abbrev s__law_common : Stmt := topS 50
theorem sc__law_common : FnScope ["_law_one", "_law_other"] ["_law_one", "_law_other"] (defScope s__law_common) := ⟨rfl, rfl, rfl, by decide +kernel, rfl, by decide +kernel, by decide +kernel⟩
noncomputable def m__law_common : Cm Fl := (thenS (whl (blE (op2 neD (var 1) (tupE (ret [])))) (parS 0 1 (consA (var 1) (consA (callA R__law_left (consG (vl (var 0)) (consG (vl (var 1)) (ret [])))) (ret []))))) (retS (callA R__law_plain (consG (vl (var 0)) (ret [])))))
noncomputable def R__law_common : List D → Rs D := runD 2 2 m__law_common
theorem ok__law_common {f : Addr} {fd : FuncData} (D0 : Fun K "_law_common" "_law_common" s__law_common f fd) (hm : mg "_law_common" = some (.ref f)) (b : Bi mg) (F__law_plain : FD P w K mg base 2 "_law_plain" (spF K mg 1 3 false m__law_plain)) (F__law_left : FD P w K mg base 3 "_law_left" (spF K mg 2 4 false m__law_left)) : FD P w K mg base 4 "_law_common" (spF K mg 2 2 false m__law_common) :=
  fd_mk (ps := ["_law_one", "_law_other"]) D0 hm (D0.binds (ps := ["_law_one", "_law_other"]) fun _ _ _ _ _ _ us hl => match us, hl with | [_, _], _ => rfl) (fnV (np := 2) (fr := false) D0 sc__law_common rfl fun cdv A outer s H E O ρ vs hr => by
    have nd := sc__law_common.nd
    exact (ss_cons (sv_while pas_cx (tt_cmp (op_neD (Room.units hr)) prim_ne rfl (pv_var 1 (pe_var (i := 1) rfl (by exact Or.inl rfl))) (pv_tup av_nil)) (ss_one (sv_par rfl nd rfl rfl (by decide) rfl rfl (av_cons (pv_var 1 (pe_var (i := 1) rfl (by exact Or.inl rfl))) (av_cons (cv F__law_left (Room.mono hr (by decide : 3 ≤ 3)) rfl rfl rfl air_cx rfl (ga_cons (pg_vl (pv_var 0 (pe_var (i := 0) rfl (by exact Or.inl rfl)))) (ga_cons (pg_vl (pv_var 1 (pe_var (i := 1) rfl (by exact Or.inl rfl)))) ga_nil))) av_nil)) rfl))) (ss_one (sv_ret rfl (cv F__law_plain (Room.mono hr (by decide : 2 ≤ 3)) rfl rfl rfl air_cx rfl (ga_cons (pg_vl (pv_var 0 (pe_var (i := 0) rfl (by exact Or.inl rfl)))) ga_nil))))))
/-! ### _law_divided -/
abbrev s__law_divided : Stmt := topS 51
theorem sc__law_divided : FnScope ["_law_one", "_law_part", "_law_found", "_law_shift"] ["_law_one", "_law_part"] (defScope s__law_divided) := ⟨rfl, rfl, rfl, by decide +kernel, rfl, by decide +kernel, by decide +kernel⟩
noncomputable def m__law_divided : Cm Fl := (thenS (asgO 2 2 (repF (lstE (consA (ret (.int 0)) (ret []))) (op2 addD (op2 subD (opA lenD (consG (vl (var 0)) (ret []))) (opA lenD (consG (vl (var 1)) (ret [])))) (ret (.int 1))))) (thenS (whl (blE (op2 neD (var 0) (tupE (ret [])))) (thenS (asgS 3 (op2 subD (opA lenD (consG (vl (var 0)) (ret []))) (opA lenD (consG (vl (var 1)) (ret []))))) (thenS (setIx 2 (op2 fdivD (op2 ixD (var 0) (op1 negD (ret (.int 1)))) (op2 ixD (var 1) (op1 negD (ret (.int 1))))) (var 3)) (asgS 0 (callA R__law_sum (consG (vl (var 0)) (consG (vl (callA R__law_product (consG (vl (op2 addD (op2 mulD (tupE (consA (ret (.int 0)) (ret []))) (var 3)) (tupE (consA (op2g ixD (V3.own 2) (vl (var 3))) (ret []))))) (consG (vl (var 1)) (ret []))))) (consG (vl (op1 negD (ret (.int 1)))) (ret []))))))))) (retS (opA tupleD (consG (V3.own 2) (ret []))))))
noncomputable def R__law_divided : List D → Rs D := runD 2 4 m__law_divided
theorem ok__law_divided {f : Addr} {fd : FuncData} (D0 : Fun K "_law_divided" "_law_divided" s__law_divided f fd) (hm : mg "_law_divided" = some (.ref f)) (b : Bi mg) (F__law_sum : FD P w K mg base 2 "_law_sum" (spF K mg 3 7 false m__law_sum)) (F__law_product : FD P w K mg base 2 "_law_product" (spF K mg 2 5 false m__law_product)) : FD P w K mg base 3 "_law_divided" (spF K mg 2 4 false m__law_divided) :=
  fd_mk (ps := ["_law_one", "_law_part"]) D0 hm (D0.binds (ps := ["_law_one", "_law_part"]) fun _ _ _ _ _ _ us hl => match us, hl with | [_, _], _ => rfl) (fnV (np := 2) (fr := false) D0 sc__law_divided rfl fun cdv A outer s H E O ρ vs hr => by
    have nd := sc__law_divided.nd
    exact (ss_cons (sv_asgO rfl nd rfl (.inl rfl) (pf_rep (pv_lst (av_cons pv_int av_nil)) (pv_op2 op_addV prim_add (pv_op2 op_sub prim_sub (pv_callB call_lenV prim_len rfl b.len PySem.boot_len' (ga_cons (pg_vl (pv_var 0 (pe_var (i := 0) rfl (by exact Or.inl rfl)))) ga_nil)) (pv_callB call_lenV prim_len rfl b.len PySem.boot_len' (ga_cons (pg_vl (pv_var 1 (pe_var (i := 1) rfl (by exact Or.inl rfl)))) ga_nil))) pv_int))) (ss_cons (sv_while pas_cx (tt_cmp (op_neD (Room.units hr)) prim_ne rfl (pv_var 0 (pe_var (i := 0) rfl (by exact Or.inl rfl))) (pv_tup av_nil)) (ss_cons (sv_asg nd rfl (.inl rfl) (pv_op2 op_sub prim_sub (pv_callB call_lenV prim_len rfl b.len PySem.boot_len' (ga_cons (pg_vl (pv_var 0 (pe_var (i := 0) rfl (by exact Or.inl rfl)))) ga_nil)) (pv_callB call_lenV prim_len rfl b.len PySem.boot_len' (ga_cons (pg_vl (pv_var 1 (pe_var (i := 1) rfl (by exact Or.inl rfl)))) ga_nil)))) (ss_cons (sv_setIx (pe_var (i := 2) rfl (by exact Or.inl rfl)) (pv_var 3 (pe_var (i := 3) rfl (by exact Or.inl rfl))) (pv_op2 op_fdivV prim_fdiv (pv_ix prim_ix (pv_var 0 (pe_var (i := 0) rfl (by exact Or.inl rfl))) (pv_op1 un_neg prim_neg pv_int) (fun _ _ => rfl)) (pv_ix prim_ix (pv_var 1 (pe_var (i := 1) rfl (by exact Or.inl rfl))) (pv_op1 un_neg prim_neg pv_int) (fun _ _ => rfl)))) (ss_one (sv_asg nd rfl (.inl rfl) (cv F__law_sum (Room.mono hr (by decide : 2 ≤ 2)) rfl rfl rfl air_cx rfl (ga_cons (pg_vl (pv_var 0 (pe_var (i := 0) rfl (by exact Or.inl rfl)))) (ga_cons (pg_vl (cv F__law_product (Room.mono hr (by decide : 2 ≤ 2)) rfl rfl rfl air_cx rfl (ga_cons (pg_vl (pv_op2 op_addV prim_add (pv_op2 op_mulAll prim_mul (pv_tup (av_cons pv_int av_nil)) (pv_var 3 (pe_var (i := 3) rfl (by exact Or.inl rfl)))) (pv_tup (av_cons (pv_ixg prim_ix (pg_own 2 (pe_var (i := 2) rfl (by exact Or.inl rfl))) (pg_vl (pv_var 3 (pe_var (i := 3) rfl (by exact Or.inl rfl)))) (fun _ _ => rfl)) av_nil)))) (ga_cons (pg_vl (pv_var 1 (pe_var (i := 1) rfl (by exact Or.inl rfl)))) ga_nil)))) (ga_cons (pg_vl (pv_op1 un_neg prim_neg pv_int)) ga_nil))))))))) (ss_one (sv_ret rfl (pv_callTy call_tuple_of prim_tuple rfl b.tuple PySem.boot_tuple' (ga_cons (pg_own 2 (pe_var (i := 2) rfl (by exact Or.inl rfl))) ga_nil)))))))
/-! ### _law_form -/
abbrev s__law_form : Stmt := topS 52
theorem sc__law_form : FnScope ["_law_top", "_law_bottom", "_law_part", "_law_whole_here", "_law_entry"] ["_law_top", "_law_bottom"] (defScope s__law_form) := ⟨rfl, rfl, rfl, by decide +kernel, rfl, by decide +kernel, by decide +kernel⟩
noncomputable def m__law_form : Cm Fl := (thenS (ifS (blE (op2 eqD (var 0) (tupE (ret [])))) (retS (tupE (consA (tupE (ret [])) (consA (tupE (consA (ret (.int 1)) (ret []))) (ret []))))) skipS) (thenS (asgS 2 (callA R__law_common (consG (vl (var 0)) (consG (vl (var 1)) (ret []))))) (thenS (parS 0 1 (consA (callA R__law_divided (consG (vl (var 0)) (consG (vl (var 2)) (ret [])))) (consA (callA R__law_divided (consG (vl (var 1)) (consG (vl (var 2)) (ret [])))) (ret [])))) (thenS (asgS 3 (ret (.int 0))) (thenS (forS (tupS (op2 addD (var 0) (var 1))) (setI 4) (asgS 3 (callA R__law_divisor (consG (vl (var 3)) (consG (vl (var 4)) (ret [])))))) (thenS (ifS (blE (op2 (cmpI fun i j => decide (i < j)) (op2 ixD (var 1) (op1 negD (ret (.int 1)))) (ret (.int 0)))) (asgS 3 (op1 negD (var 3))) skipS) (retS (tupE (consA (opA tupleD (consG (vl (lsE (lcE [4] (tupS (var 0)) (setI 4) (ret true) (op2 fdivD (var 4) (var 3))))) (ret []))) (consA (opA tupleD (consG (vl (lsE (lcE [4] (tupS (var 1)) (setI 4) (ret true) (op2 fdivD (var 4) (var 3))))) (ret []))) (ret [])))))))))))
noncomputable def R__law_form : List D → Rs D := runD 2 5 m__law_form
theorem ok__law_form {f : Addr} {fd : FuncData} (D0 : Fun K "_law_form" "_law_form" s__law_form f fd) (hm : mg "_law_form" = some (.ref f)) (b : Bi mg) (F__law_common : FD P w K mg base 4 "_law_common" (spF K mg 2 2 false m__law_common)) (F__law_divided : FD P w K mg base 3 "_law_divided" (spF K mg 2 4 false m__law_divided)) (F__law_divisor : FD P w K mg base 1 "_law_divisor" (spF K mg 2 2 false m__law_divisor)) : FD P w K mg base 5 "_law_form" (spF K mg 2 5 false m__law_form) :=
  fd_mk (ps := ["_law_top", "_law_bottom"]) D0 hm (D0.binds (ps := ["_law_top", "_law_bottom"]) fun _ _ _ _ _ _ us hl => match us, hl with | [_, _], _ => rfl) (fnV (np := 2) (fr := false) D0 sc__law_form rfl fun cdv A outer s H E O ρ vs hr => by
    have nd := sc__law_form.nd
    exact (ss_cons (sv_if (tt_cmp (op_eqD (Room.units hr)) prim_eq rfl (pv_var 0 (pe_var (i := 0) rfl (by exact Or.inl rfl))) (pv_tup av_nil)) (ss_one (sv_ret rfl (pv_tup (av_cons (pv_tup av_nil) (av_cons (pv_tup (av_cons pv_int av_nil)) av_nil))))) ss_nil) (ss_cons (sv_asg nd rfl (.inl rfl) (cv F__law_common (Room.mono hr (by decide : 4 ≤ 4)) rfl rfl rfl air_cx rfl (ga_cons (pg_vl (pv_var 0 (pe_var (i := 0) rfl (by exact Or.inl rfl)))) (ga_cons (pg_vl (pv_var 1 (pe_var (i := 1) rfl (by exact Or.inl rfl)))) ga_nil)))) (ss_cons (sv_par rfl nd rfl rfl (by decide) rfl rfl (av_cons (cv F__law_divided (Room.mono hr (by decide : 3 ≤ 4)) rfl rfl rfl air_cx rfl (ga_cons (pg_vl (pv_var 0 (pe_var (i := 0) rfl (by exact Or.inl rfl)))) (ga_cons (pg_vl (pv_var 2 (pe_var (i := 2) rfl (by exact Or.inl rfl)))) ga_nil))) (av_cons (cv F__law_divided (Room.mono hr (by decide : 3 ≤ 4)) rfl rfl rfl air_cx rfl (ga_cons (pg_vl (pv_var 1 (pe_var (i := 1) rfl (by exact Or.inl rfl)))) (ga_cons (pg_vl (pv_var 2 (pe_var (i := 2) rfl (by exact Or.inl rfl)))) ga_nil))) av_nil)) rfl) (ss_cons (sv_asg nd rfl (.inr rfl) pv_int) (ss_cons (sv_for pas_cx rfl (iv_tup rfl (pv_op2 op_addV prim_add (pv_var 0 (pe_var (i := 0) rfl (by exact Or.inl rfl))) (pv_var 1 (pe_var (i := 1) rfl (by exact Or.inl rfl))))) (gv_name (i := 4) nd rfl (.inl rfl)) (ss_one (sv_asg nd rfl (.inr rfl) (cv F__law_divisor (Room.mono hr (by decide : 1 ≤ 4)) rfl rfl rfl air_cx rfl (ga_cons (pg_vl (pv_var 3 (pe_var (i := 3) rfl (by exact Or.inr (Or.inl rfl))))) (ga_cons (pg_vl (pv_var 4 (pe_var (i := 4) rfl (by exact Or.inl rfl)))) ga_nil)))))) (ss_cons (sv_if (tt_cmp op_lt prim_cmpI rfl (pv_ix prim_ix (pv_var 1 (pe_var (i := 1) rfl (by exact Or.inl rfl))) (pv_op1 un_neg prim_neg pv_int) (fun _ _ => rfl)) pv_int) (ss_one (sv_asg nd rfl (.inr rfl) (pv_op1 un_neg prim_neg (pv_var 3 (pe_var (i := 3) rfl (by exact Or.inr (Or.inl rfl))))))) ss_nil) (ss_one (sv_ret rfl (pv_tup (av_cons (pv_callTy call_tuple_of prim_tuple rfl b.tuple PySem.boot_tuple' (ga_cons (pg_vl (pv_fresh (pf_lc (own := [("_law_entry", 4)]) (vs := [4]) frm_cx air_cx rfl nd (iv_tup rfl (pv_var 0 (pe_var (i := 0) rfl (by exact Or.inl rfl)))) (blkOk_by (N := ["_law_top", "_law_bottom", "_law_part", "_law_whole_here", "_law_entry"]) (sc := defScope s__law_form) (own := [("_law_entry", 4)]) (by decide +kernel)) rfl (fun _ _ _ _ _ _ => gv_name (i := 4) nd rfl (.inl rfl)) (fun _ _ _ _ _ _ => tt_nil) (fun _ _ _ _ _ _ => (pv_op2 op_fdivV prim_fdiv (pv_var 4 (pe_var (i := 4) rfl (by exact Or.inl rfl))) (pv_var 3 (pe_var (i := 3) rfl (by exact Or.inr (Or.inl rfl))))))))) ga_nil)) (av_cons (pv_callTy call_tuple_of prim_tuple rfl b.tuple PySem.boot_tuple' (ga_cons (pg_vl (pv_fresh (pf_lc (own := [("_law_entry", 4)]) (vs := [4]) frm_cx air_cx rfl nd (iv_tup rfl (pv_var 1 (pe_var (i := 1) rfl (by exact Or.inl rfl)))) (blkOk_by (N := ["_law_top", "_law_bottom", "_law_part", "_law_whole_here", "_law_entry"]) (sc := defScope s__law_form) (own := [("_law_entry", 4)]) (by decide +kernel)) rfl (fun _ _ _ _ _ _ => gv_name (i := 4) nd rfl (.inl rfl)) (fun _ _ _ _ _ _ => tt_nil) (fun _ _ _ _ _ _ => (pv_op2 op_fdivV prim_fdiv (pv_var 4 (pe_var (i := 4) rfl (by exact Or.inl rfl))) (pv_var 3 (pe_var (i := 3) rfl (by exact Or.inr (Or.inl rfl))))))))) ga_nil)) av_nil))))))))))))
/-! ### _law_number -/
abbrev s__law_number : Stmt := topS 55
theorem sc__law_number : FnScope ["_law_purse_here", "_law_most", "_law_bottom"] ["_law_purse_here", "_law_most"] (defScope s__law_number) := ⟨rfl, rfl, rfl, by decide +kernel, rfl, by decide +kernel, by decide +kernel⟩
noncomputable def m__law_number : Cm Fl := (thenS (asgS 2 (op2 addD (ret (.int 1)) (callL G__law_draw 0 (consA (ret (.int 9)) (ret []))))) (thenS (ifS (blE (op2 eqD (callL G__law_draw 0 (consA (ret (.int 8)) (ret []))) (ret (.int 3)))) (asgS 2 (op2 addD (ret (.int 1)) (callL G__law_draw 0 (consA (op2 subD (var 1) (ret (.int 1))) (ret []))))) skipS) (retS (callA R__law_low (consG (vl (callL G__law_whole 0 (consA (var 1) (ret [])))) (consG (vl (var 2)) (ret [])))))))
noncomputable def G__law_number : List D → List D → Rs (D × List D) := runL 2 3 m__law_number
noncomputable def R__law_number : List D → Rs D := runD 2 3 m__law_number
theorem ok__law_number {f : Addr} {fd : FuncData} (D0 : Fun K "_law_number" "_law_number" s__law_number f fd) (hm : mg "_law_number" = some (.ref f)) (b : Bi mg) (F__law_low : FD P w K mg base 2 "_law_low" (spF K mg 2 3 false m__law_low)) (F__law_draw : FD P w K mg base 1 "_law_draw" (spF K mg 2 6 false m__law_draw)) (F__law_whole : FD P w K mg base 2 "_law_whole" (spF K mg 2 3 false m__law_whole)) : FD P w K mg base 3 "_law_number" (spF K mg 2 3 false m__law_number) :=
  fd_mk (ps := ["_law_purse_here", "_law_most"]) D0 hm (D0.binds (ps := ["_law_purse_here", "_law_most"]) fun _ _ _ _ _ _ us hl => match us, hl with | [_, _], _ => rfl) (fnV (np := 2) (fr := false) D0 sc__law_number rfl fun cdv A outer s H E O ρ vs hr => by
    have nd := sc__law_number.nd
    exact (ss_cons (sv_asg nd rfl (.inl rfl) (pv_op2 op_addV prim_add pv_int (cl F__law_draw (Room.mono hr (by decide : 1 ≤ 2)) rfl rfl rfl air_cx rfl (pe_var (i := 0) rfl (by exact Or.inl rfl)) (av_cons pv_int av_nil)))) (ss_cons (sv_if (tt_cmp (op_eqD (Room.units hr)) prim_eq rfl (cl F__law_draw (Room.mono hr (by decide : 1 ≤ 2)) rfl rfl rfl air_cx rfl (pe_var (i := 0) rfl (by exact Or.inl rfl)) (av_cons pv_int av_nil)) pv_int) (ss_one (sv_asg nd rfl (.inl rfl) (pv_op2 op_addV prim_add pv_int (cl F__law_draw (Room.mono hr (by decide : 1 ≤ 2)) rfl rfl rfl air_cx rfl (pe_var (i := 0) rfl (by exact Or.inl rfl)) (av_cons (pv_op2 op_sub prim_sub (pv_var 1 (pe_var (i := 1) rfl (by exact Or.inl rfl))) pv_int) av_nil))))) ss_nil) (ss_one (sv_ret rfl (cv F__law_low (Room.mono hr (by decide : 2 ≤ 2)) rfl rfl rfl air_cx rfl (ga_cons (pg_vl (cl F__law_whole (Room.mono hr (by decide : 2 ≤ 2)) rfl rfl rfl air_cx rfl (pe_var (i := 0) rfl (by exact Or.inl rfl)) (av_cons (pv_var 1 (pe_var (i := 1) rfl (by exact Or.inl rfl))) av_nil))) (ga_cons (pg_vl (pv_var 2 (pe_var (i := 2) rfl (by exact Or.inl rfl)))) ga_nil))))))))
/-! ### _law_quotient -/
abbrev s__law_quotient : Stmt := topS 56
theorem sc__law_quotient : FnScope ["_law_purse_here", "_law_most", "_law_signs", "_law_top", "_law_bottom"] ["_law_purse_here", "_law_most", "_law_signs"] (defScope s__law_quotient) := ⟨rfl, rfl, rfl, by decide +kernel, rfl, by decide +kernel, by decide +kernel⟩
noncomputable def m__law_quotient : Cm Fl := (thenS (parS 3 4 (consA (callL G__law_poly 0 (consA (var 1) (consA (var 2) (ret [])))) (consA (callL G__law_poly 0 (consA (var 1) (consA (var 2) (ret [])))) (ret [])))) (thenS (ifS (blE (op2 eqD (var 4) (tupE (ret [])))) (asgS 4 (tupE (consA (op2 addD (ret (.int 1)) (callL G__law_draw 0 (consA (ret (.int 9)) (ret [])))) (ret [])))) skipS) (retS (callA R__law_form (consG (vl (var 3)) (consG (vl (var 4)) (ret [])))))))
noncomputable def G__law_quotient : List D → List D → Rs (D × List D) := runL 3 5 m__law_quotient
noncomputable def R__law_quotient : List D → Rs D := runD 3 5 m__law_quotient
theorem ok__law_quotient {f : Addr} {fd : FuncData} (D0 : Fun K "_law_quotient" "_law_quotient" s__law_quotient f fd) (hm : mg "_law_quotient" = some (.ref f)) (b : Bi mg) (F__law_form : FD P w K mg base 5 "_law_form" (spF K mg 2 5 false m__law_form)) (F__law_poly : FD P w K mg base 3 "_law_poly" (spF K mg 3 5 false m__law_poly)) (F__law_draw : FD P w K mg base 1 "_law_draw" (spF K mg 2 6 false m__law_draw)) : FD P w K mg base 6 "_law_quotient" (spF K mg 3 5 false m__law_quotient) :=
  fd_mk (ps := ["_law_purse_here", "_law_most", "_law_signs"]) D0 hm (D0.binds (ps := ["_law_purse_here", "_law_most", "_law_signs"]) fun _ _ _ _ _ _ us hl => match us, hl with | [_, _, _], _ => rfl) (fnV (np := 3) (fr := false) D0 sc__law_quotient rfl fun cdv A outer s H E O ρ vs hr => by
    have nd := sc__law_quotient.nd
    exact (ss_cons (sv_par rfl nd rfl rfl (by decide) rfl rfl (av_cons (cl F__law_poly (Room.mono hr (by decide : 3 ≤ 5)) rfl rfl rfl air_cx rfl (pe_var (i := 0) rfl (by exact Or.inl rfl)) (av_cons (pv_var 1 (pe_var (i := 1) rfl (by exact Or.inl rfl))) (av_cons (pv_var 2 (pe_var (i := 2) rfl (by exact Or.inl rfl))) av_nil))) (av_cons (cl F__law_poly (Room.mono hr (by decide : 3 ≤ 5)) rfl rfl rfl air_cx rfl (pe_var (i := 0) rfl (by exact Or.inl rfl)) (av_cons (pv_var 1 (pe_var (i := 1) rfl (by exact Or.inl rfl))) (av_cons (pv_var 2 (pe_var (i := 2) rfl (by exact Or.inl rfl))) av_nil))) av_nil)) rfl) (ss_cons (sv_if (tt_cmp (op_eqD (Room.units hr)) prim_eq rfl (pv_var 4 (pe_var (i := 4) rfl (by exact Or.inl rfl))) (pv_tup av_nil)) (ss_one (sv_asg nd rfl (.inl rfl) (pv_tup (av_cons (pv_op2 op_addV prim_add pv_int (cl F__law_draw (Room.mono hr (by decide : 1 ≤ 5)) rfl rfl rfl air_cx rfl (pe_var (i := 0) rfl (by exact Or.inl rfl)) (av_cons pv_int av_nil))) av_nil)))) ss_nil) (ss_one (sv_ret rfl (cv F__law_form (Room.mono hr (by decide : 5 ≤ 5)) rfl rfl rfl air_cx rfl (ga_cons (pg_vl (pv_var 3 (pe_var (i := 3) rfl (by exact Or.inl rfl)))) (ga_cons (pg_vl (pv_var 4 (pe_var (i := 4) rfl (by exact Or.inl rfl)))) ga_nil))))))))
/-! ### _law_whole_in -/
abbrev s__law_whole_in : Stmt := topS 57
theorem sc__law_whole_in : FnScope ["_law_text", "_law_signs", "_law_sign"] ["_law_text"] (defScope s__law_whole_in) := ⟨rfl, rfl, rfl, by decide +kernel, rfl, by decide +kernel, by decide +kernel⟩
noncomputable def m__law_whole_in : Cm Fl := (thenS (asgS 1 (ifE (blE (op2 eqD (slE (vl (var 0)) partN (partS (ret (.int 1)))) (ret (.str "-")))) (slE (vl (var 0)) (partS (ret (.int 1))) partN) (var 0))) (thenS (ifS (orT (blE (op2 eqD (var 1) (ret (.str "")))) (notT (tst (opA allD (consG (vl (lsE (lcE [2] (strS (var 1)) (setI 2) (ret true) (op2 inD (var 2) (ret (.str "0123456789")))))) (ret [])))))) (retS (ret .non)) skipS) (thenS (ifS (andT (blE (op2 eqD (op2 ixD (var 1) (ret (.int 0))) (ret (.str "0")))) (blE (op2 neD (var 0) (ret (.str "0"))))) (retS (ret .non)) skipS) (retS (opA intD (consG (vl (var 0)) (ret [])))))))
noncomputable def R__law_whole_in : List D → Rs D := runD 1 3 m__law_whole_in
theorem ok__law_whole_in {f : Addr} {fd : FuncData} (D0 : Fun K "_law_whole_in" "_law_whole_in" s__law_whole_in f fd) (hm : mg "_law_whole_in" = some (.ref f)) (b : Bi mg)  : FD P w K mg base 1 "_law_whole_in" (spF K mg 1 3 false m__law_whole_in) :=
  fd_mk (ps := ["_law_text"]) D0 hm (D0.binds (ps := ["_law_text"]) fun _ _ _ _ _ _ us hl => match us, hl with | [_], _ => rfl) (fnV (np := 1) (fr := false) D0 sc__law_whole_in rfl fun cdv A outer s H E O ρ vs hr => by
    have nd := sc__law_whole_in.nd
    exact (ss_cons (sv_asg nd rfl (.inl rfl) (pv_if (tt_cmp (op_eqD (Room.units hr)) prim_eq rfl (pv_sl rfl (pg_vl (pv_var 0 (pe_var (i := 0) rfl (by exact Or.inl rfl)))) pp_none (pp_some pv_int)) pv_str) (pv_sl rfl (pg_vl (pv_var 0 (pe_var (i := 0) rfl (by exact Or.inl rfl)))) (pp_some pv_int) pp_none) (pv_var 0 (pe_var (i := 0) rfl (by exact Or.inl rfl))))) (ss_cons (sv_if (PW.pt (wt_or (tt_cmp (op_eqD (Room.units hr)) prim_eq rfl (pv_var 1 (pe_var (i := 1) rfl (by exact Or.inl rfl))) pv_str) (wt_or1 (tt_not (tt_tru rfl (pv_callB (cr_all rfl) prim_all rfl b.all PySem.boot_all' (ga_cons (pg_vl (pv_fresh (pf_lc (own := [("_law_sign", 2)]) (vs := [2]) frm_cx air_cx rfl nd (iv_str (pv_var 1 (pe_var (i := 1) rfl (by exact Or.inl rfl)))) (blkOk_by (N := ["_law_text", "_law_signs", "_law_sign"]) (sc := defScope s__law_whole_in) (own := [("_law_sign", 2)]) (by decide +kernel)) rfl (fun _ _ _ _ _ _ => gv_name (i := 2) nd rfl (.inl rfl)) (fun _ _ _ _ _ _ => tt_nil) (fun _ _ _ _ _ _ => (pv_cmp (op_inV (u65 hr)) prim_in rfl (pv_var 2 (pe_var (i := 2) rfl (by exact Or.inl rfl))) pv_str))))) ga_nil))))))) (ss_one (sv_ret rfl pv_non)) ss_nil) (ss_cons (sv_if (PW.pt (wt_and (tt_cmp (op_eqD (Room.units hr)) prim_eq rfl (pv_ix prim_ix (pv_var 1 (pe_var (i := 1) rfl (by exact Or.inl rfl))) pv_int (fun _ _ => rfl)) pv_str) (wt_and1 (tt_cmp (op_neD (Room.units hr)) prim_ne rfl (pv_var 0 (pe_var (i := 0) rfl (by exact Or.inl rfl))) pv_str)))) (ss_one (sv_ret rfl pv_non)) ss_nil) (ss_one (sv_ret rfl (pv_callTy call_intV prim_int rfl b.int PySem.boot_int' (ga_cons (pg_vl (pv_var 0 (pe_var (i := 0) rfl (by exact Or.inl rfl)))) ga_nil))))))))
/-! ### _law_poly_in -/
abbrev s__law_poly_in : Stmt := topS 58
theorem sc__law_poly_in : FnScope ["_law_text", "_law_found", "_law_word"] ["_law_text"] (defScope s__law_poly_in) := ⟨rfl, rfl, rfl, by decide +kernel, rfl, by decide +kernel, by decide +kernel⟩
noncomputable def m__law_poly_in : Cm Fl := (thenS (asgS 1 (lsE (lcE [2] (lstS (m1 (fun s => splitD (.str s)) (var 0) (ret (.str " ")))) (setI 2) (ret true) (callA R__law_whole_in (consG (vl (var 2)) (ret [])))))) (thenS (ifS (blE (op2 eqD (var 1) (lstE (consA (ret (.int 0)) (ret []))))) (retS (tupE (ret []))) skipS) (thenS (ifS (orT (blE (op2 inD (ret .non) (var 1))) (blE (op2 eqD (op2 ixD (var 1) (op1 negD (ret (.int 1)))) (ret (.int 0))))) (retS (ret .non)) skipS) (retS (opA tupleD (consG (vl (var 1)) (ret [])))))))
noncomputable def R__law_poly_in : List D → Rs D := runD 1 3 m__law_poly_in
theorem ok__law_poly_in {f : Addr} {fd : FuncData} (D0 : Fun K "_law_poly_in" "_law_poly_in" s__law_poly_in f fd) (hm : mg "_law_poly_in" = some (.ref f)) (b : Bi mg) (F__law_whole_in : FD P w K mg base 1 "_law_whole_in" (spF K mg 1 3 false m__law_whole_in)) : FD P w K mg base 2 "_law_poly_in" (spF K mg 1 3 false m__law_poly_in) :=
  fd_mk (ps := ["_law_text"]) D0 hm (D0.binds (ps := ["_law_text"]) fun _ _ _ _ _ _ us hl => match us, hl with | [_], _ => rfl) (fnV (np := 1) (fr := false) D0 sc__law_poly_in rfl fun cdv A outer s H E O ρ vs hr => by
    have nd := sc__law_poly_in.nd
    exact (ss_cons (sv_asgLc rfl rfl (by rfl) (own := [("_law_word", 2)]) (vs := [2]) frm_cx air_cx rfl nd (iv_list rfl (pv_split (pv_var 0 (pe_var (i := 0) rfl (by exact Or.inl rfl))) pv_str)) (blkOk_by (N := ["_law_text", "_law_found", "_law_word"]) (sc := defScope s__law_poly_in) (own := [("_law_word", 2)]) (by decide +kernel)) rfl (fun _ _ _ _ _ _ => gv_name (i := 2) nd rfl (.inl rfl)) (fun _ _ _ _ _ _ => tt_nil) (fun _ _ _ _ _ _ => (cv F__law_whole_in (Room.mono hr (by decide : 1 ≤ 1)) rfl rfl rfl air_blk rfl (ga_cons (pg_vl (pv_var 2 (pe_var (i := 2) rfl (by exact Or.inl rfl)))) ga_nil)))) (ss_cons (sv_if (tt_cmp (op_eqD (Room.units hr)) prim_eq rfl (pv_var 1 (pe_var (i := 1) rfl (by exact Or.inl rfl))) (pv_lst (av_cons pv_int av_nil))) (ss_one (sv_ret rfl (pv_tup av_nil))) ss_nil) (ss_cons (sv_if (PW.pt (wt_or (tt_cmp (op_inV (u65 hr)) prim_in rfl pv_non (pv_var 1 (pe_var (i := 1) rfl (by exact Or.inl rfl)))) (wt_or1 (tt_cmp (op_eqD (Room.units hr)) prim_eq rfl (pv_ix prim_ix (pv_var 1 (pe_var (i := 1) rfl (by exact Or.inl rfl))) (pv_op1 un_neg prim_neg pv_int) (fun _ _ => rfl)) pv_int)))) (ss_one (sv_ret rfl pv_non)) ss_nil) (ss_one (sv_ret rfl (pv_callTy call_tuple_of prim_tuple rfl b.tuple PySem.boot_tuple' (ga_cons (pg_vl (pv_var 1 (pe_var (i := 1) rfl (by exact Or.inl rfl)))) ga_nil))))))))
/-! ### _law_quotient_in -/
abbrev s__law_quotient_in : Stmt := topS 59
theorem sc__law_quotient_in : FnScope ["_law_text", "_law_words", "_law_found", "_law_word"] ["_law_text"] (defScope s__law_quotient_in) := ⟨rfl, rfl, rfl, by decide +kernel, rfl, by decide +kernel, by decide +kernel⟩
noncomputable def m__law_quotient_in : Cm Fl := (thenS (asgS 1 (lsE (lcE [3] (lstS (m1 (fun s => splitD (.str s)) (var 0) (ret (.str " / ")))) (setI 3) (ret true) (callA R__law_poly_in (consG (vl (var 3)) (ret [])))))) (thenS (ifS (orT (blE (op2 inD (ret .non) (var 1))) (orT (blE (op2 (cmpI fun i j => decide (j < i)) (opA lenD (consG (vl (var 1)) (ret []))) (ret (.int 2)))) (orT (blE (op2 eqD (slE (vl (var 1)) (partS (ret (.int 1))) partN) (lstE (consA (tupE (consA (ret (.int 1)) (ret []))) (ret []))))) (blE (op2 eqD (slE (vl (var 1)) (partS (ret (.int 1))) partN) (lstE (consA (tupE (ret [])) (ret [])))))))) (retS (ret .non)) skipS) (thenS (asgS 2 (tupE (consA (op2 ixD (var 1) (ret (.int 0))) (consA (op2 ixD (op2 addD (var 1) (lstE (consA (tupE (consA (ret (.int 1)) (ret []))) (ret [])))) (ret (.int 1))) (ret []))))) (retS (ifE (blE (op2 eqD (var 2) (callA R__law_form (consG (vl (op2 ixD (var 2) (ret (.int 0)))) (consG (vl (op2 ixD (var 2) (ret (.int 1)))) (ret [])))))) (var 2) (ret .non))))))
noncomputable def R__law_quotient_in : List D → Rs D := runD 1 4 m__law_quotient_in
theorem ok__law_quotient_in {f : Addr} {fd : FuncData} (D0 : Fun K "_law_quotient_in" "_law_quotient_in" s__law_quotient_in f fd) (hm : mg "_law_quotient_in" = some (.ref f)) (b : Bi mg) (F__law_poly_in : FD P w K mg base 2 "_law_poly_in" (spF K mg 1 3 false m__law_poly_in)) (F__law_form : FD P w K mg base 5 "_law_form" (spF K mg 2 5 false m__law_form)) : FD P w K mg base 6 "_law_quotient_in" (spF K mg 1 4 false m__law_quotient_in) :=
  fd_mk (ps := ["_law_text"]) D0 hm (D0.binds (ps := ["_law_text"]) fun _ _ _ _ _ _ us hl => match us, hl with | [_], _ => rfl) (fnV (np := 1) (fr := false) D0 sc__law_quotient_in rfl fun cdv A outer s H E O ρ vs hr => by
    have nd := sc__law_quotient_in.nd
    exact (ss_cons (sv_asgLc rfl rfl (by rfl) (own := [("_law_word", 3)]) (vs := [3]) frm_cx air_cx rfl nd (iv_list rfl (pv_split (pv_var 0 (pe_var (i := 0) rfl (by exact Or.inl rfl))) pv_str)) (blkOk_by (N := ["_law_text", "_law_words", "_law_found", "_law_word"]) (sc := defScope s__law_quotient_in) (own := [("_law_word", 3)]) (by decide +kernel)) rfl (fun _ _ _ _ _ _ => gv_name (i := 3) nd rfl (.inl rfl)) (fun _ _ _ _ _ _ => tt_nil) (fun _ _ _ _ _ _ => (cv F__law_poly_in (Room.mono hr (by decide : 2 ≤ 5)) rfl rfl rfl air_blk rfl (ga_cons (pg_vl (pv_var 3 (pe_var (i := 3) rfl (by exact Or.inl rfl)))) ga_nil)))) (ss_cons (sv_if (PW.pt (wt_or (tt_cmp (op_inV (u65 hr)) prim_in rfl pv_non (pv_var 1 (pe_var (i := 1) rfl (by exact Or.inl rfl)))) (wt_or (tt_cmp op_gt prim_cmpI rfl (pv_callB call_lenV prim_len rfl b.len PySem.boot_len' (ga_cons (pg_vl (pv_var 1 (pe_var (i := 1) rfl (by exact Or.inl rfl)))) ga_nil)) pv_int) (wt_or (tt_cmp (op_eqD (Room.units hr)) prim_eq rfl (pv_sl rfl (pg_vl (pv_var 1 (pe_var (i := 1) rfl (by exact Or.inl rfl)))) (pp_some pv_int) pp_none) (pv_lst (av_cons (pv_tup (av_cons pv_int av_nil)) av_nil))) (wt_or1 (tt_cmp (op_eqD (Room.units hr)) prim_eq rfl (pv_sl rfl (pg_vl (pv_var 1 (pe_var (i := 1) rfl (by exact Or.inl rfl)))) (pp_some pv_int) pp_none) (pv_lst (av_cons (pv_tup av_nil) av_nil)))))))) (ss_one (sv_ret rfl pv_non)) ss_nil) (ss_cons (sv_asg nd rfl (.inl rfl) (pv_tup (av_cons (pv_ix prim_ix (pv_var 1 (pe_var (i := 1) rfl (by exact Or.inl rfl))) pv_int (fun _ _ => rfl)) (av_cons (pv_ix prim_ix (pv_op2 op_addV prim_add (pv_var 1 (pe_var (i := 1) rfl (by exact Or.inl rfl))) (pv_lst (av_cons (pv_tup (av_cons pv_int av_nil)) av_nil))) pv_int (fun _ _ => rfl)) av_nil)))) (ss_one (sv_ret rfl (pv_if (tt_cmp (op_eqD (Room.units hr)) prim_eq rfl (pv_var 2 (pe_var (i := 2) rfl (by exact Or.inl rfl))) (cv F__law_form (Room.mono hr (by decide : 5 ≤ 5)) rfl rfl rfl air_cx rfl (ga_cons (pg_vl (pv_ix prim_ix (pv_var 2 (pe_var (i := 2) rfl (by exact Or.inl rfl))) pv_int (fun _ _ => rfl))) (ga_cons (pg_vl (pv_ix prim_ix (pv_var 2 (pe_var (i := 2) rfl (by exact Or.inl rfl))) pv_int (fun _ _ => rfl))) ga_nil)))) (pv_var 2 (pe_var (i := 2) rfl (by exact Or.inl rfl))) pv_non)))))))
/-! ### _law_number_in -/
abbrev s__law_number_in : Stmt := topS 60
theorem sc__law_number_in : FnScope ["_law_text", "_law_words", "_law_word"] ["_law_text"] (defScope s__law_number_in) := ⟨rfl, rfl, rfl, by decide +kernel, rfl, by decide +kernel, by decide +kernel⟩
noncomputable def m__law_number_in : Cm Fl := (thenS (asgS 1 (lsE (lcE [2] (lstS (m1 (fun s => splitD (.str s)) (var 0) (ret (.str "/")))) (setI 2) (ret true) (callA R__law_whole_in (consG (vl (var 2)) (ret [])))))) (thenS (ifS (orT (blE (op2 inD (ret .non) (var 1))) (blE (op2 (cmpI fun i j => decide (j < i)) (opA lenD (consG (vl (var 1)) (ret []))) (ret (.int 2))))) (retS (ret .non)) skipS) (thenS (ifS (blE (op2 eqD (opA lenD (consG (vl (var 1)) (ret []))) (ret (.int 1)))) (retS (tupE (consA (op2 ixD (var 1) (ret (.int 0))) (consA (ret (.int 1)) (ret []))))) skipS) (retS (ifE (andT (blE (op2 (cmpI fun i j => decide (j < i)) (op2 ixD (var 1) (ret (.int 1))) (ret (.int 1)))) (blE (op2 eqD (callA R__law_divisor (consG (vl (op2 ixD (var 1) (ret (.int 0)))) (consG (vl (op2 ixD (var 1) (ret (.int 1)))) (ret [])))) (ret (.int 1))))) (opA tupleD (consG (vl (var 1)) (ret []))) (ret .non))))))
noncomputable def R__law_number_in : List D → Rs D := runD 1 3 m__law_number_in
theorem ok__law_number_in {f : Addr} {fd : FuncData} (D0 : Fun K "_law_number_in" "_law_number_in" s__law_number_in f fd) (hm : mg "_law_number_in" = some (.ref f)) (b : Bi mg) (F__law_whole_in : FD P w K mg base 1 "_law_whole_in" (spF K mg 1 3 false m__law_whole_in)) (F__law_divisor : FD P w K mg base 1 "_law_divisor" (spF K mg 2 2 false m__law_divisor)) : FD P w K mg base 2 "_law_number_in" (spF K mg 1 3 false m__law_number_in) :=
  fd_mk (ps := ["_law_text"]) D0 hm (D0.binds (ps := ["_law_text"]) fun _ _ _ _ _ _ us hl => match us, hl with | [_], _ => rfl) (fnV (np := 1) (fr := false) D0 sc__law_number_in rfl fun cdv A outer s H E O ρ vs hr => by
    have nd := sc__law_number_in.nd
    exact (ss_cons (sv_asgLc rfl rfl (by rfl) (own := [("_law_word", 2)]) (vs := [2]) frm_cx air_cx rfl nd (iv_list rfl (pv_split (pv_var 0 (pe_var (i := 0) rfl (by exact Or.inl rfl))) pv_str)) (blkOk_by (N := ["_law_text", "_law_words", "_law_word"]) (sc := defScope s__law_number_in) (own := [("_law_word", 2)]) (by decide +kernel)) rfl (fun _ _ _ _ _ _ => gv_name (i := 2) nd rfl (.inl rfl)) (fun _ _ _ _ _ _ => tt_nil) (fun _ _ _ _ _ _ => (cv F__law_whole_in (Room.mono hr (by decide : 1 ≤ 1)) rfl rfl rfl air_blk rfl (ga_cons (pg_vl (pv_var 2 (pe_var (i := 2) rfl (by exact Or.inl rfl)))) ga_nil)))) (ss_cons (sv_if (PW.pt (wt_or (tt_cmp (op_inV (u65 hr)) prim_in rfl pv_non (pv_var 1 (pe_var (i := 1) rfl (by exact Or.inl rfl)))) (wt_or1 (tt_cmp op_gt prim_cmpI rfl (pv_callB call_lenV prim_len rfl b.len PySem.boot_len' (ga_cons (pg_vl (pv_var 1 (pe_var (i := 1) rfl (by exact Or.inl rfl)))) ga_nil)) pv_int)))) (ss_one (sv_ret rfl pv_non)) ss_nil) (ss_cons (sv_if (tt_cmp (op_eqD (Room.units hr)) prim_eq rfl (pv_callB call_lenV prim_len rfl b.len PySem.boot_len' (ga_cons (pg_vl (pv_var 1 (pe_var (i := 1) rfl (by exact Or.inl rfl)))) ga_nil)) pv_int) (ss_one (sv_ret rfl (pv_tup (av_cons (pv_ix prim_ix (pv_var 1 (pe_var (i := 1) rfl (by exact Or.inl rfl))) pv_int (fun _ _ => rfl)) (av_cons pv_int av_nil))))) ss_nil) (ss_one (sv_ret rfl (pv_if (PW.pt (wt_and (tt_cmp op_gt prim_cmpI rfl (pv_ix prim_ix (pv_var 1 (pe_var (i := 1) rfl (by exact Or.inl rfl))) pv_int (fun _ _ => rfl)) pv_int) (wt_and1 (tt_cmp (op_eqD (Room.units hr)) prim_eq rfl (cv F__law_divisor (Room.mono hr (by decide : 1 ≤ 1)) rfl rfl rfl air_cx rfl (ga_cons (pg_vl (pv_ix prim_ix (pv_var 1 (pe_var (i := 1) rfl (by exact Or.inl rfl))) pv_int (fun _ _ => rfl))) (ga_cons (pg_vl (pv_ix prim_ix (pv_var 1 (pe_var (i := 1) rfl (by exact Or.inl rfl))) pv_int (fun _ _ => rfl))) ga_nil))) pv_int)))) (pv_callTy call_tuple_of prim_tuple rfl b.tuple PySem.boot_tuple' (ga_cons (pg_vl (pv_var 1 (pe_var (i := 1) rfl (by exact Or.inl rfl)))) ga_nil)) pv_non)))))))
/-! ### _law_poly_text -/
abbrev s__law_poly_text : Stmt := topS 61
theorem sc__law_poly_text : FnScope ["_law_one", "_law_entry"] ["_law_one"] (defScope s__law_poly_text) := ⟨rfl, rfl, rfl, by decide +kernel, rfl, by decide +kernel, by decide +kernel⟩
noncomputable def m__law_poly_text : Cm Fl := (retS (ifE (blE (op2 neD (var 0) (tupE (ret [])))) (m1 (fun s => joinD (.str s)) (ret (.str " ")) (lsE (lcE [1] (tupS (var 0)) (setI 1) (ret true) (opA strD (consG (vl (var 1)) (ret [])))))) (ret (.str "0"))))
noncomputable def R__law_poly_text : List D → Rs D := runD 1 2 m__law_poly_text
theorem ok__law_poly_text {f : Addr} {fd : FuncData} (D0 : Fun K "_law_poly_text" "_law_poly_text" s__law_poly_text f fd) (hm : mg "_law_poly_text" = some (.ref f)) (b : Bi mg)  : FD P w K mg base 1 "_law_poly_text" (spF K mg 1 2 false m__law_poly_text) :=
  fd_mk (ps := ["_law_one"]) D0 hm (D0.binds (ps := ["_law_one"]) fun _ _ _ _ _ _ us hl => match us, hl with | [_], _ => rfl) (fnV (np := 1) (fr := false) D0 sc__law_poly_text rfl fun cdv A outer s H E O ρ vs hr => by
    have nd := sc__law_poly_text.nd
    exact (ss_one (sv_ret rfl (pv_if (tt_cmp (op_neD (Room.units hr)) prim_ne rfl (pv_var 0 (pe_var (i := 0) rfl (by exact Or.inl rfl))) (pv_tup av_nil)) (pv_join rfl pv_str (pv_fresh (pf_lc (own := [("_law_entry", 1)]) (vs := [1]) frm_cx air_cx rfl nd (iv_tup rfl (pv_var 0 (pe_var (i := 0) rfl (by exact Or.inl rfl)))) (blkOk_by (N := ["_law_one", "_law_entry"]) (sc := defScope s__law_poly_text) (own := [("_law_entry", 1)]) (by decide +kernel)) rfl (fun _ _ _ _ _ _ => gv_name (i := 1) nd rfl (.inl rfl)) (fun _ _ _ _ _ _ => tt_nil) (fun _ _ _ _ _ _ => (pv_callTy call_str_int prim_str rfl b.str PySem.boot_str' (ga_cons (pg_vl (pv_var 1 (pe_var (i := 1) rfl (by exact Or.inl rfl)))) ga_nil)))))) pv_str))))
/-! ### _law_quotient_text -/
abbrev s__law_quotient_text : Stmt := topS 62
theorem sc__law_quotient_text : FnScope ["_law_one"] ["_law_one"] (defScope s__law_quotient_text) := ⟨rfl, rfl, rfl, by decide +kernel, rfl, by decide +kernel, by decide +kernel⟩
noncomputable def m__law_quotient_text : Cm Fl := (thenS (ifS (blE (op2 eqD (op2 ixD (var 0) (ret (.int 1))) (tupE (consA (ret (.int 1)) (ret []))))) (retS (callA R__law_poly_text (consG (vl (op2 ixD (var 0) (ret (.int 0)))) (ret [])))) skipS) (retS (op2 addD (op2 addD (callA R__law_poly_text (consG (vl (op2 ixD (var 0) (ret (.int 0)))) (ret []))) (ret (.str " / "))) (callA R__law_poly_text (consG (vl (op2 ixD (var 0) (ret (.int 1)))) (ret []))))))
noncomputable def R__law_quotient_text : List D → Rs D := runD 1 1 m__law_quotient_text
theorem ok__law_quotient_text {f : Addr} {fd : FuncData} (D0 : Fun K "_law_quotient_text" "_law_quotient_text" s__law_quotient_text f fd) (hm : mg "_law_quotient_text" = some (.ref f)) (b : Bi mg) (F__law_poly_text : FD P w K mg base 1 "_law_poly_text" (spF K mg 1 2 false m__law_poly_text)) : FD P w K mg base 2 "_law_quotient_text" (spF K mg 1 1 false m__law_quotient_text) :=
  fd_mk (ps := ["_law_one"]) D0 hm (D0.binds (ps := ["_law_one"]) fun _ _ _ _ _ _ us hl => match us, hl with | [_], _ => rfl) (fnV (np := 1) (fr := false) D0 sc__law_quotient_text rfl fun cdv A outer s H E O ρ vs hr => by
    have nd := sc__law_quotient_text.nd
    exact (ss_cons (sv_if (tt_cmp (op_eqD (Room.units hr)) prim_eq rfl (pv_ix prim_ix (pv_var 0 (pe_var (i := 0) rfl (by exact Or.inl rfl))) pv_int (fun _ _ => rfl)) (pv_tup (av_cons pv_int av_nil))) (ss_one (sv_ret rfl (cv F__law_poly_text (Room.mono hr (by decide : 1 ≤ 1)) rfl rfl rfl air_cx rfl (ga_cons (pg_vl (pv_ix prim_ix (pv_var 0 (pe_var (i := 0) rfl (by exact Or.inl rfl))) pv_int (fun _ _ => rfl))) ga_nil)))) ss_nil) (ss_one (sv_ret rfl (pv_op2 op_addV prim_add (pv_op2 op_addV prim_add (cv F__law_poly_text (Room.mono hr (by decide : 1 ≤ 1)) rfl rfl rfl air_cx rfl (ga_cons (pg_vl (pv_ix prim_ix (pv_var 0 (pe_var (i := 0) rfl (by exact Or.inl rfl))) pv_int (fun _ _ => rfl))) ga_nil)) pv_str) (cv F__law_poly_text (Room.mono hr (by decide : 1 ≤ 1)) rfl rfl rfl air_cx rfl (ga_cons (pg_vl (pv_ix prim_ix (pv_var 0 (pe_var (i := 0) rfl (by exact Or.inl rfl))) pv_int (fun _ _ => rfl))) ga_nil)))))))
/-! ### _law_number_text -/
abbrev s__law_number_text : Stmt := topS 63
theorem sc__law_number_text : FnScope ["_law_one"] ["_law_one"] (defScope s__law_number_text) := ⟨rfl, rfl, rfl, by decide +kernel, rfl, by decide +kernel, by decide +kernel⟩
noncomputable def m__law_number_text : Cm Fl := (retS (ifE (blE (op2 eqD (op2 ixD (var 0) (ret (.int 1))) (ret (.int 1)))) (opA strD (consG (vl (op2 ixD (var 0) (ret (.int 0)))) (ret []))) (op2 addD (op2 addD (opA strD (consG (vl (op2 ixD (var 0) (ret (.int 0)))) (ret []))) (ret (.str "/"))) (opA strD (consG (vl (op2 ixD (var 0) (ret (.int 1)))) (ret []))))))
noncomputable def R__law_number_text : List D → Rs D := runD 1 1 m__law_number_text
theorem ok__law_number_text {f : Addr} {fd : FuncData} (D0 : Fun K "_law_number_text" "_law_number_text" s__law_number_text f fd) (hm : mg "_law_number_text" = some (.ref f)) (b : Bi mg)  : FD P w K mg base 1 "_law_number_text" (spF K mg 1 1 false m__law_number_text) :=
  fd_mk (ps := ["_law_one"]) D0 hm (D0.binds (ps := ["_law_one"]) fun _ _ _ _ _ _ us hl => match us, hl with | [_], _ => rfl) (fnV (np := 1) (fr := false) D0 sc__law_number_text rfl fun cdv A outer s H E O ρ vs hr => by
    have nd := sc__law_number_text.nd
    exact (ss_one (sv_ret rfl (pv_if (tt_cmp (op_eqD (Room.units hr)) prim_eq rfl (pv_ix prim_ix (pv_var 0 (pe_var (i := 0) rfl (by exact Or.inl rfl))) pv_int (fun _ _ => rfl)) pv_int) (pv_callTy call_str_int prim_str rfl b.str PySem.boot_str' (ga_cons (pg_vl (pv_ix prim_ix (pv_var 0 (pe_var (i := 0) rfl (by exact Or.inl rfl))) pv_int (fun _ _ => rfl))) ga_nil)) (pv_op2 op_addV prim_add (pv_op2 op_addV prim_add (pv_callTy call_str_int prim_str rfl b.str PySem.boot_str' (ga_cons (pg_vl (pv_ix prim_ix (pv_var 0 (pe_var (i := 0) rfl (by exact Or.inl rfl))) pv_int (fun _ _ => rfl))) ga_nil)) pv_str) (pv_callTy call_str_int prim_str rfl b.str PySem.boot_str' (ga_cons (pg_vl (pv_ix prim_ix (pv_var 0 (pe_var (i := 0) rfl (by exact Or.inl rfl))) pv_int (fun _ _ => rfl))) ga_nil)))))))
/-! ### _law_bent_text -/
abbrev s__law_bent_text : Stmt := topS 64
theorem sc__law_bent_text : FnScope ["_law_purse_here", "_law_text", "_law_again", "_law_spot", "_law_sign", "_law_way"] ["_law_purse_here", "_law_text"] (defScope s__law_bent_text) := ⟨rfl, rfl, rfl, by decide +kernel, rfl, by decide +kernel, by decide +kernel⟩
noncomputable def m__law_bent_text : Cm Fl := (thenS (forS (rng1S (consA (callL G__law_draw 0 (consA (ret (.int 3)) (ret []))) (ret []))) (setI 2) (thenS (asgS 3 (callL G__law_draw 0 (consA (op2 addD (opA lenD (consG (vl (var 1)) (ret []))) (ret (.int 1))) (ret [])))) (thenS (asgS 4 (op2 ixD (ret (.str "0123456789- /[]-x .+0 /1")) (callL G__law_draw 0 (consA (ret (.int 24)) (ret []))))) (thenS (asgS 5 (callL G__law_draw 0 (consA (ret (.int 3)) (ret [])))) (asgS 1 (op2 addD (op2 addD (slE (vl (var 1)) partN (partS (var 3))) (op2 mulD (var 4) (opA intD (consG (vl (op2 (cmpI fun i j => decide (i < j)) (var 5) (ret (.int 2)))) (ret []))))) (slE (vl (var 1)) (partS (op2 addD (var 3) (opA intD (consG (vl (op2 (cmpI fun i j => decide (j < i)) (var 5) (ret (.int 0)))) (ret []))))) partN))))))) (retS (var 1)))
noncomputable def G__law_bent_text : List D → List D → Rs (D × List D) := runL 2 6 m__law_bent_text
noncomputable def R__law_bent_text : List D → Rs D := runD 2 6 m__law_bent_text
theorem ok__law_bent_text {f : Addr} {fd : FuncData} (D0 : Fun K "_law_bent_text" "_law_bent_text" s__law_bent_text f fd) (hm : mg "_law_bent_text" = some (.ref f)) (b : Bi mg) (F__law_draw : FD P w K mg base 1 "_law_draw" (spF K mg 2 6 false m__law_draw)) : FD P w K mg base 2 "_law_bent_text" (spF K mg 2 6 false m__law_bent_text) :=
  fd_mk (ps := ["_law_purse_here", "_law_text"]) D0 hm (D0.binds (ps := ["_law_purse_here", "_law_text"]) fun _ _ _ _ _ _ us hl => match us, hl with | [_, _], _ => rfl) (fnV (np := 2) (fr := false) D0 sc__law_bent_text rfl fun cdv A outer s H E O ρ vs hr => by
    have nd := sc__law_bent_text.nd
    exact (ss_cons (sv_for pas_cx rfl (iv_rng1 rfl b.range (av_cons (cl F__law_draw (Room.mono hr (by decide : 1 ≤ 1)) rfl rfl rfl air_cx rfl (pe_var (i := 0) rfl (by exact Or.inl rfl)) (av_cons pv_int av_nil)) av_nil)) (gv_name (i := 2) nd rfl (.inl rfl)) (ss_cons (sv_asg nd rfl (.inl rfl) (cl F__law_draw (Room.mono hr (by decide : 1 ≤ 1)) rfl rfl rfl air_cx rfl (pe_var (i := 0) rfl (by exact Or.inl rfl)) (av_cons (pv_op2 op_addV prim_add (pv_callB call_lenV prim_len rfl b.len PySem.boot_len' (ga_cons (pg_vl (pv_var 1 (pe_var (i := 1) rfl (by exact Or.inl rfl)))) ga_nil)) pv_int) av_nil))) (ss_cons (sv_asg nd rfl (.inl rfl) (pv_ix prim_ix pv_str (cl F__law_draw (Room.mono hr (by decide : 1 ≤ 1)) rfl rfl rfl air_cx rfl (pe_var (i := 0) rfl (by exact Or.inl rfl)) (av_cons pv_int av_nil)) (fun _ _ => rfl))) (ss_cons (sv_asg nd rfl (.inl rfl) (cl F__law_draw (Room.mono hr (by decide : 1 ≤ 1)) rfl rfl rfl air_cx rfl (pe_var (i := 0) rfl (by exact Or.inl rfl)) (av_cons pv_int av_nil))) (ss_one (sv_asg nd rfl (.inl rfl) (pv_op2 op_addV prim_add (pv_op2 op_addV prim_add (pv_sl rfl (pg_vl (pv_var 1 (pe_var (i := 1) rfl (by exact Or.inl rfl)))) pp_none (pp_some (pv_var 3 (pe_var (i := 3) rfl (by exact Or.inl rfl))))) (pv_op2 op_mulAll prim_mul (pv_var 4 (pe_var (i := 4) rfl (by exact Or.inl rfl))) (pv_callTy call_intV prim_int rfl b.int PySem.boot_int' (ga_cons (pg_vl (pv_cmp op_lt prim_cmpI rfl (pv_var 5 (pe_var (i := 5) rfl (by exact Or.inl rfl))) pv_int)) ga_nil)))) (pv_sl rfl (pg_vl (pv_var 1 (pe_var (i := 1) rfl (by exact Or.inl rfl)))) (pp_some (pv_op2 op_addV prim_add (pv_var 3 (pe_var (i := 3) rfl (by exact Or.inl rfl))) (pv_callTy call_intV prim_int rfl b.int PySem.boot_int' (ga_cons (pg_vl (pv_cmp op_gt prim_cmpI rfl (pv_var 5 (pe_var (i := 5) rfl (by exact Or.inl rfl))) pv_int)) ga_nil)))) pp_none)))))))) (ss_one (sv_ret rfl (pv_var 1 (pe_var (i := 1) rfl (by exact Or.inl rfl)))))))
/-! ### _law_many -/
abbrev s__law_many : Stmt := topS 65
theorem sc__law_many : FnScope ["_law_script", "_law_most"] ["_law_script", "_law_most"] (defScope s__law_many) := ⟨rfl, rfl, rfl, by decide +kernel, rfl, by decide +kernel, by decide +kernel⟩
noncomputable def m__law_many : Cm Fl := (retS (lsE (lrgF (opA maxD (consG (vl (ret (.int 1))) (consG (vl (opA minD (consG (vl (var 1)) (consG (vl (opA lenD (consG (vl (var 0)) (ret [])))) (ret []))))) (ret [])))))))
noncomputable def R__law_many : List D → Rs D := runD 2 2 m__law_many
theorem ok__law_many {f : Addr} {fd : FuncData} (D0 : Fun K "_law_many" "_law_many" s__law_many f fd) (hm : mg "_law_many" = some (.ref f)) (b : Bi mg)  : FD P w K mg base 1 "_law_many" (spF K mg 2 2 false m__law_many) :=
  fd_mk (ps := ["_law_script", "_law_most"]) D0 hm (D0.binds (ps := ["_law_script", "_law_most"]) fun _ _ _ _ _ _ us hl => match us, hl with | [_, _], _ => rfl) (fnV (np := 2) (fr := false) D0 sc__law_many rfl fun cdv A outer s H E O ρ vs hr => by
    have nd := sc__law_many.nd
    exact (ss_one (sv_ret rfl (pv_fresh (pf_lrg rfl rfl b.list rfl b.range (pv_callB (call_max2 rfl) prim_max rfl b.max PySem.boot_max' (ga_cons (pg_vl pv_int) (ga_cons (pg_vl (pv_callB (call_min2 rfl) prim_min rfl b.min PySem.boot_min' (ga_cons (pg_vl (pv_var 1 (pe_var (i := 1) rfl (by exact Or.inl rfl)))) (ga_cons (pg_vl (pv_callB call_lenV prim_len rfl b.len PySem.boot_len' (ga_cons (pg_vl (pv_var 0 (pe_var (i := 0) rfl (by exact Or.inl rfl)))) ga_nil))) ga_nil)))) ga_nil))))))))
/-! ### _law_read -/
abbrev s__law_read : Stmt := topS 66
theorem sc__law_read : FnScope ["_law_kind", "_law_text", "e"] ["_law_kind", "_law_text"] (defScope s__law_read) := ⟨rfl, rfl, rfl, by decide +kernel, rfl, by decide +kernel, by decide +kernel⟩
noncomputable def m__law_read : Cm Fl := (tryC "NoText" 2 "NoText" (thenS (ifS (blE (op2 eqD (var 0) (ret (.int 0)))) (retS (callA R_read_number (consG (vl (var 1)) (ret [])))) skipS) (thenS (ifS (blE (op2 eqD (var 0) (ret (.int 1)))) (retS (callA R_read_poly (consG (vl (var 1)) (ret [])))) skipS) (retS (callA R_read_quotient (consG (vl (var 1)) (ret [])))))))
noncomputable def R__law_read : List D → Rs D := runD 2 3 m__law_read
theorem ok__law_read {f : Addr} {fd : FuncData} (D0 : Fun K "_law_read" "_law_read" s__law_read f fd) (hm : mg "_law_read" = some (.ref f)) (b : Bi mg) (F_read_quotient : FD P w K mg base 8 "read_quotient" (spF K mg 1 1 false m_read_quotient)) (F_read_number : FD P w K mg base 3 "read_number" (spF K mg 1 4 false m_read_number)) (F_read_poly : FD P w K mg base 4 "read_poly" (spF K mg 1 1 false m_read_poly)) (RT : RdT K mg) : FD P w K mg base 9 "_law_read" (spF K mg 2 3 false m__law_read) :=
  fd_mk (ps := ["_law_kind", "_law_text"]) D0 hm (D0.binds (ps := ["_law_kind", "_law_text"]) fun _ _ _ _ _ _ us hl => match us, hl with | [_, _], _ => rfl) (fnV (np := 2) (fr := false) D0 sc__law_read rfl fun cdv A outer s H E O ρ vs hr => by
    have nd := sc__law_read.nd
    obtain ⟨C_NoText, C_SlopeError, C_NoNumber, C_NoPlace, C_NoStep, C_NoRow, C_NoName, g_NoText, g_SlopeError, g_NoNumber, g_NoPlace, g_NoStep, g_NoRow, g_NoName, eC, x1, q1, q2, q3⟩ := RT.ex
    exact (ss_one (sv_tryC (i := 2) rfl rfl nd rfl rfl ⟨rfl, by decide, .inl g_SlopeError⟩ tk_cx g_NoText x1 (fun W pn xe tk' pas' => (ss_cons (sv_if (tt_cmp (op_eqD (Room.units hr)) prim_eq rfl (pv_var 0 (pe_var (i := 0) rfl (by exact Or.inl rfl))) pv_int) (ss_one (sv_ret rfl (cv F_read_number (Room.mono hr (by decide : 3 ≤ 8)) rfl rfl rfl (air_tr rfl tk') rfl (ga_cons (pg_vl (pv_var 1 (pe_var (i := 1) rfl (by exact Or.inl rfl)))) ga_nil)))) ss_nil) (ss_cons (sv_if (tt_cmp (op_eqD (Room.units hr)) prim_eq rfl (pv_var 0 (pe_var (i := 0) rfl (by exact Or.inl rfl))) pv_int) (ss_one (sv_ret rfl (cv F_read_poly (Room.mono hr (by decide : 4 ≤ 8)) rfl rfl rfl (air_tr rfl tk') rfl (ga_cons (pg_vl (pv_var 1 (pe_var (i := 1) rfl (by exact Or.inl rfl)))) ga_nil)))) ss_nil) (ss_one (sv_ret rfl (cv F_read_quotient (Room.mono hr (by decide : 8 ≤ 8)) rfl rfl rfl (air_tr rfl tk') rfl (ga_cons (pg_vl (pv_var 1 (pe_var (i := 1) rfl (by exact Or.inl rfl)))) ga_nil))))))) (fun a oe pn hz hd => hs_read (pe_isE1 (i := 2) eC hz hd rfl (.inl rfl) rfl b.isinstance (pe_bltn (v := V.ty "ValueError") rfl b.ValueError PySem.boot_ValueError' rfl) (.ty _) q1 (by decide) (by decide) rfl rfl rfl) (pe_isET1 (i := 2) eC hz hd rfl (.inl rfl) rfl b.isinstance (cv := [V.ref C_NoNumber, V.ref C_NoPlace, V.ref C_NoStep, V.ref C_NoRow, V.ref C_NoName]) (pa_imp (pa_cons (pe_glob (v := V.ref C_NoNumber) rfl g_NoNumber rfl) (pa_cons (pe_glob (v := V.ref C_NoPlace) rfl g_NoPlace rfl) (pa_cons (pe_glob (v := V.ref C_NoStep) rfl g_NoStep rfl) (pa_cons (pe_glob (v := V.ref C_NoRow) rfl g_NoRow rfl) (pa_cons (pe_glob (v := V.ref C_NoName) rfl g_NoName rfl) pa_nil))))) fun _ _ _ h => h) (show 5 ≤ sizeLine by decide) (.cons (.own _) (.cons (.own _) (.cons (.own _) (.cons (.own _) (.cons (.own _) .nil))))) q2 (by decide) (by decide) rfl rfl rfl) (pe_isE1 (i := 2) eC hz hd rfl (.inl rfl) rfl b.isinstance (pe_glob (v := V.ref C_NoText) rfl g_NoText rfl) (.own _) q3 (by decide) (by decide) rfl rfl rfl) pe_str rfl b.int (by intro _; rfl) (by intro _; rfl) rfl))))
/-! ### _law_due -/
abbrev s__law_due : Stmt := topS 67
theorem sc__law_due : FnScope ["_law_kind", "_law_text", "_law_found", "_law_told"] ["_law_kind", "_law_text"] (defScope s__law_due) := ⟨rfl, rfl, rfl, by decide +kernel, rfl, by decide +kernel, by decide +kernel⟩
noncomputable def m__law_due : Cm Fl := (thenS (pickS [R__law_number_in, R__law_poly_in, R__law_quotient_in] 2 3 (var 0) (consA (var 1) (ret []))) (retS (ifE (blE (op2 isNotND (var 3) (ret .non))) (var 3) (ret (.str "NoText")))))
noncomputable def R__law_due : List D → Rs D := runD 2 4 m__law_due
theorem ok__law_due {f : Addr} {fd : FuncData} (D0 : Fun K "_law_due" "_law_due" s__law_due f fd) (hm : mg "_law_due" = some (.ref f)) (b : Bi mg) (F__law_number_in : FD P w K mg base 2 "_law_number_in" (spF K mg 1 3 false m__law_number_in)) (F__law_poly_in : FD P w K mg base 2 "_law_poly_in" (spF K mg 1 3 false m__law_poly_in)) (F__law_quotient_in : FD P w K mg base 6 "_law_quotient_in" (spF K mg 1 4 false m__law_quotient_in)) : FD P w K mg base 7 "_law_due" (spF K mg 2 4 false m__law_due) :=
  fd_mk (ps := ["_law_kind", "_law_text"]) D0 hm (D0.binds (ps := ["_law_kind", "_law_text"]) fun _ _ _ _ _ _ us hl => match us, hl with | [_, _], _ => rfl) (fnV (np := 2) (fr := false) D0 sc__law_due rfl fun cdv A outer s H E O ρ vs hr => by
    have nd := sc__law_due.nd
    obtain ⟨f__law_number_in, fd__law_number_in, ps__law_number_in, FF__law_number_in, gm__law_number_in, kk__law_number_in, bb__law_number_in⟩ := F__law_number_in.ex
    obtain ⟨f__law_poly_in, fd__law_poly_in, ps__law_poly_in, FF__law_poly_in, gm__law_poly_in, kk__law_poly_in, bb__law_poly_in⟩ := F__law_poly_in.ex
    obtain ⟨f__law_quotient_in, fd__law_quotient_in, ps__law_quotient_in, FF__law_quotient_in, gm__law_quotient_in, kk__law_quotient_in, bb__law_quotient_in⟩ := F__law_quotient_in.ex
    exact (ss_pick (pks := [⟨f__law_number_in, 1, 3, m__law_number_in⟩, ⟨f__law_poly_in, 1, 3, m__law_poly_in⟩, ⟨f__law_quotient_in, 1, 4, m__law_quotient_in⟩]) (k := 6) (fun n q h => match n, h with | 0, h => (by cases h; exact ⟨fd__law_number_in, ps__law_number_in, FF__law_number_in.mono (by decide), kk__law_number_in, bb__law_number_in⟩) | 1, h => (by cases h; exact ⟨fd__law_poly_in, ps__law_poly_in, FF__law_poly_in.mono (by decide), kk__law_poly_in, bb__law_poly_in⟩) | 2, h => (by cases h; exact ⟨fd__law_quotient_in, ps__law_quotient_in, FF__law_quotient_in.mono (by decide), kk__law_quotient_in, bb__law_quotient_in⟩) | n + 3, h => (by cases h)) rfl rfl (Room.mono hr (by decide : 6 ≤ 6)) air_cx rfl nd rfl (.inl rfl) (Or.inl rfl) rfl (.inl rfl) (by decide) (pa_imp (pa_cons (pe_glob (v := V.ref f__law_number_in) rfl gm__law_number_in rfl) (pa_cons (pe_glob (v := V.ref f__law_poly_in) rfl gm__law_poly_in rfl) (pa_cons (pe_glob (v := V.ref f__law_quotient_in) rfl gm__law_quotient_in rfl) pa_nil))) fun _ _ _ h => h) (show 3 ≤ sizeLine by decide) (pv_var 0 (pe_var (i := 0) rfl (by exact Or.inl rfl))) (av_cons (pv_var 1 (pe_var (i := 1) rfl (by exact Or.inl rfl))) av_nil) (hrest := (ss_one (sv_ret rfl (pv_if (tt_cmp op_notN prim_isNotN rfl (pv_var 3 (pe_var (i := 3) rfl (by exact Or.inl rfl))) pv_non) (pv_var 3 (pe_var (i := 3) rfl (by exact Or.inl rfl))) pv_str))))))
/-! ### law -/
abbrev s_law : Stmt := topS 68
theorem sc_law : FnScope ["_law_script", "_law_k", "_law_purse_here", "_law_small", "_law_middle", "_law_great", "_law_written", "_law_again", "_law_text", "_law_kind", "_law_odd", "_law_place"] ["_law_script"] (defScope s_law) := ⟨rfl, rfl, rfl, by decide +kernel, rfl, by decide +kernel, by decide +kernel⟩
noncomputable def m_law : Cm Fl := (thenS (forS (lstS (callA R__law_many (consG (vl (var 0)) (consG (vl (ret (.int 4))) (ret []))))) (setI 1) (thenS (asgO 2 1 (callN R__law_purse (consA (var 0) (consA (var 1) (ret []))))) (thenS (parS 3 4 (consA (callL G__law_number 2 (consA (op2 powD (ret (.int 10)) (ret (.int 12))) (ret []))) (consA (callL G__law_poly 2 (consA (ret (.int 5)) (consA (op2 powD (ret (.int 10)) (ret (.int 12))) (ret [])))) (ret [])))) (thenS (asgS 5 (callL G__law_quotient 2 (consA (ret (.int 4)) (consA (op2 powD (ret (.int 10)) (ret (.int 12))) (ret []))))) (thenS (asgS 6 (lstE (consA (callA R__law_number_text (consG (vl (var 3)) (ret []))) (consA (callA R__law_poly_text (consG (vl (var 4)) (ret []))) (consA (callA R__law_quotient_text (consG (vl (var 5)) (ret []))) (ret [])))))) (thenS (ifS (blE (op2 neD (lstE (consA (callA R_show_number (consG (vl (var 3)) (ret []))) (consA (callA R_show_poly (consG (vl (var 4)) (ret []))) (consA (callA R_show_quotient (consG (vl (var 5)) (ret []))) (ret []))))) (var 6))) (retS (ret (.bl false))) skipS) (thenS (ifS (blE (op2 neD (lsE (lcE [9] (rng1S (consA (ret (.int 3)) (ret []))) (setI 9) (ret true) (callA R__law_read (consG (vl (var 9)) (consG (vl (op2 ixD (var 6) (var 9))) (ret [])))))) (lstE (consA (var 3) (consA (var 4) (consA (var 5) (ret []))))))) (retS (ret (.bl false))) skipS) (thenS (forS (rng1S (consA (ret (.int 6)) (ret []))) (setI 7) (thenS (asgS 8 (callL G__law_bent_text 2 (consA (op2 ixD (var 6) (callL G__law_draw 2 (consA (ret (.int 3)) (ret [])))) (ret [])))) (thenS (ifS (blE (op2 eqD (var 7) (ret (.int 5)))) (asgS 8 (m1 (fun s => joinD (.str s)) (ret (.str "")) (lsE (lcE [11] (rng1S (consA (callL G__law_draw 2 (consA (ret (.int 4)) (ret []))) (ret []))) (setI 11) (ret true) (op2 ixD (ret (.str "0123456789- /")) (callL G__law_draw 2 (consA (ret (.int 13)) (ret [])))))))) skipS) (forS (rng1S (consA (ret (.int 3)) (ret []))) (setI 9) (ifS (blE (op2 neD (callA R__law_read (consG (vl (var 9)) (consG (vl (var 8)) (ret [])))) (callA R__law_due (consG (vl (var 9)) (consG (vl (var 8)) (ret [])))))) (retS (ret (.bl false))) skipS))))) (thenS (asgS 10 (op2 ixD (lstE (consA (ret .non) (consA (ret (.int 7)) (consA (ret (.bl true)) (consA (tupE (consA (ret (.str "1")) (ret []))) (consA (lstE (consA (ret (.str "1")) (ret []))) (consA (tupE (consA (ret (.int 1)) (ret []))) (ret [])))))))) (callL G__law_draw 2 (consA (ret (.int 6)) (ret []))))) (ifS (blE (op2 neD (lsE (lcE [9] (rng1S (consA (ret (.int 3)) (ret []))) (setI 9) (ret true) (callA R__law_read (consG (vl (var 9)) (consG (vl (var 10)) (ret [])))))) (op2 mulD (lstE (consA (ret (.str "NoText")) (ret []))) (ret (.int 3))))) (retS (ret (.bl false))) skipS)))))))))) (retS (ret (.bl true))))
noncomputable def R_law : List D → Rs D := runD 1 12 m_law
theorem ok_law {f : Addr} {fd : FuncData} (D0 : Fun K "law" "law" s_law f fd) (b : Bi mg) (F__law_many : FD P w K mg base 1 "_law_many" (spF K mg 2 2 false m__law_many)) (F__law_purse : FD P w K mg base 1 "_law_purse" (spF K mg 2 5 true m__law_purse)) (F__law_quotient : FD P w K mg base 6 "_law_quotient" (spF K mg 3 5 false m__law_quotient)) (F__law_number : FD P w K mg base 3 "_law_number" (spF K mg 2 3 false m__law_number)) (F__law_poly : FD P w K mg base 3 "_law_poly" (spF K mg 3 5 false m__law_poly)) (F__law_number_text : FD P w K mg base 1 "_law_number_text" (spF K mg 1 1 false m__law_number_text)) (F__law_poly_text : FD P w K mg base 1 "_law_poly_text" (spF K mg 1 2 false m__law_poly_text)) (F__law_quotient_text : FD P w K mg base 2 "_law_quotient_text" (spF K mg 1 1 false m__law_quotient_text)) (F__law_bent_text : FD P w K mg base 2 "_law_bent_text" (spF K mg 2 6 false m__law_bent_text)) (F__law_draw : FD P w K mg base 1 "_law_draw" (spF K mg 2 6 false m__law_draw)) (F_show_number : FD P w K mg base 1 "show_number" (spF K mg 1 1 false m_show_number)) (F_show_poly : FD P w K mg base 1 "show_poly" (spF K mg 1 2 false m_show_poly)) (F_show_quotient : FD P w K mg base 2 "show_quotient" (spF K mg 1 1 false m_show_quotient)) (F__law_read : FD P w K mg base 9 "_law_read" (spF K mg 2 3 false m__law_read)) (F__law_due : FD P w K mg base 7 "_law_due" (spF K mg 2 4 false m__law_due)) : FnOk P w K mg base (L2.CX P w) 10 f fd ["_law_script"] (spF K mg 1 12 false m_law) :=
  fnV (np := 1) (fr := false) D0 sc_law rfl fun cdv A outer s H E O ρ vs hr => by
    have nd := sc_law.nd
    exact (ss_cons (sv_for pas_cx rfl (iv_list rfl (cv F__law_many (Room.mono hr (by decide : 1 ≤ 9)) rfl rfl rfl air_cx rfl (ga_cons (pg_vl (pv_var 0 (pe_var (i := 0) rfl (by exact Or.inl rfl)))) (ga_cons (pg_vl pv_int) ga_nil)))) (gv_name (i := 1) nd rfl (.inl rfl)) (ss_cons (sv_asgO rfl nd rfl (.inr rfl) (cf F__law_purse (Room.mono hr (by decide : 1 ≤ 9)) rfl rfl rfl air_cx rfl (av_cons (pv_var 0 (pe_var (i := 0) rfl (by exact Or.inl rfl))) (av_cons (pv_var 1 (pe_var (i := 1) rfl (by exact Or.inl rfl))) av_nil)))) (ss_cons (sv_par rfl nd rfl rfl (by decide) rfl rfl (av_cons (cl F__law_number (Room.mono hr (by decide : 3 ≤ 9)) rfl rfl rfl air_cx rfl (pe_var (i := 2) rfl (by exact Or.inr (Or.inl rfl))) (av_cons (pv_op2 op_pow prim_pow pv_int pv_int) av_nil)) (av_cons (cl F__law_poly (Room.mono hr (by decide : 3 ≤ 9)) rfl rfl rfl air_cx rfl (pe_var (i := 2) rfl (by exact Or.inr (Or.inl rfl))) (av_cons pv_int (av_cons (pv_op2 op_pow prim_pow pv_int pv_int) av_nil))) av_nil)) rfl) (ss_cons (sv_asg nd rfl (.inl rfl) (cl F__law_quotient (Room.mono hr (by decide : 6 ≤ 9)) rfl rfl rfl air_cx rfl (pe_var (i := 2) rfl (by exact Or.inr (Or.inl rfl))) (av_cons pv_int (av_cons (pv_op2 op_pow prim_pow pv_int pv_int) av_nil)))) (ss_cons (sv_asg nd rfl (.inr rfl) (pv_lst (av_cons (cv F__law_number_text (Room.mono hr (by decide : 1 ≤ 9)) rfl rfl rfl air_cx rfl (ga_cons (pg_vl (pv_var 3 (pe_var (i := 3) rfl (by exact Or.inl rfl)))) ga_nil)) (av_cons (cv F__law_poly_text (Room.mono hr (by decide : 1 ≤ 9)) rfl rfl rfl air_cx rfl (ga_cons (pg_vl (pv_var 4 (pe_var (i := 4) rfl (by exact Or.inl rfl)))) ga_nil)) (av_cons (cv F__law_quotient_text (Room.mono hr (by decide : 2 ≤ 9)) rfl rfl rfl air_cx rfl (ga_cons (pg_vl (pv_var 5 (pe_var (i := 5) rfl (by exact Or.inl rfl)))) ga_nil)) av_nil))))) (ss_cons (sv_if (tt_cmp (op_neD (Room.units hr)) prim_ne rfl (pv_lst (av_cons (cv F_show_number (Room.mono hr (by decide : 1 ≤ 9)) rfl rfl rfl air_cx rfl (ga_cons (pg_vl (pv_var 3 (pe_var (i := 3) rfl (by exact Or.inl rfl)))) ga_nil)) (av_cons (cv F_show_poly (Room.mono hr (by decide : 1 ≤ 9)) rfl rfl rfl air_cx rfl (ga_cons (pg_vl (pv_var 4 (pe_var (i := 4) rfl (by exact Or.inl rfl)))) ga_nil)) (av_cons (cv F_show_quotient (Room.mono hr (by decide : 2 ≤ 9)) rfl rfl rfl air_cx rfl (ga_cons (pg_vl (pv_var 5 (pe_var (i := 5) rfl (by exact Or.inl rfl)))) ga_nil)) av_nil)))) (pv_var 6 (pe_var (i := 6) rfl (by exact Or.inr (Or.inl rfl))))) (ss_one (sv_ret rfl pv_bl)) ss_nil) (ss_cons (sv_if (tt_cmp (op_neD (Room.units hr)) prim_ne rfl (pv_fresh (pf_lc (own := [("_law_kind", 9)]) (vs := [9]) frm_cx air_cx rfl nd (iv_rng1 rfl b.range (av_cons pv_int av_nil)) (blkOk_by (N := ["_law_script", "_law_k", "_law_purse_here", "_law_small", "_law_middle", "_law_great", "_law_written", "_law_again", "_law_text", "_law_kind", "_law_odd", "_law_place"]) (sc := defScope s_law) (own := [("_law_kind", 9)]) (by decide +kernel)) rfl (fun _ _ _ _ _ _ => gv_name (i := 9) nd rfl (.inl rfl)) (fun _ _ _ _ _ _ => tt_nil) (fun _ _ _ _ _ _ => (cv F__law_read (Room.mono hr (by decide : 9 ≤ 9)) rfl rfl rfl air_blk rfl (ga_cons (pg_vl (pv_var 9 (pe_var (i := 9) rfl (by exact Or.inl rfl)))) (ga_cons (pg_vl (pv_ix prim_ix (pv_var 6 (pe_var (i := 6) rfl (by exact Or.inr (Or.inl rfl)))) (pv_var 9 (pe_var (i := 9) rfl (by exact Or.inl rfl))) (fun _ _ => rfl))) ga_nil)))))) (pv_lst (av_cons (pv_var 3 (pe_var (i := 3) rfl (by exact Or.inl rfl))) (av_cons (pv_var 4 (pe_var (i := 4) rfl (by exact Or.inl rfl))) (av_cons (pv_var 5 (pe_var (i := 5) rfl (by exact Or.inl rfl))) av_nil))))) (ss_one (sv_ret rfl pv_bl)) ss_nil) (ss_cons (sv_for pas_cx rfl (iv_rng1 rfl b.range (av_cons pv_int av_nil)) (gv_name (i := 7) nd rfl (.inl rfl)) (ss_cons (sv_asg nd rfl (.inl rfl) (cl F__law_bent_text (Room.mono hr (by decide : 2 ≤ 9)) rfl rfl rfl air_cx rfl (pe_var (i := 2) rfl (by exact Or.inr (Or.inl rfl))) (av_cons (pv_ix prim_ix (pv_var 6 (pe_var (i := 6) rfl (by exact Or.inr (Or.inl rfl)))) (cl F__law_draw (Room.mono hr (by decide : 1 ≤ 9)) rfl rfl rfl air_cx rfl (pe_var (i := 2) rfl (by exact Or.inr (Or.inl rfl))) (av_cons pv_int av_nil)) (fun _ _ => rfl)) av_nil))) (ss_cons (sv_if (tt_cmp (op_eqD (Room.units hr)) prim_eq rfl (pv_var 7 (pe_var (i := 7) rfl (by exact Or.inl rfl))) pv_int) (ss_one (sv_asg nd rfl (.inl rfl) (pv_join rfl pv_str (pv_fresh (pf_lc (own := [("_law_place", 11)]) (vs := [11]) frm_cx air_cx rfl nd (iv_rng1 rfl b.range (av_cons (cl F__law_draw (Room.mono hr (by decide : 1 ≤ 9)) rfl rfl rfl air_cx rfl (pe_var (i := 2) rfl (by exact Or.inr (Or.inl rfl))) (av_cons pv_int av_nil)) av_nil)) (blkOk_by (N := ["_law_script", "_law_k", "_law_purse_here", "_law_small", "_law_middle", "_law_great", "_law_written", "_law_again", "_law_text", "_law_kind", "_law_odd", "_law_place"]) (sc := defScope s_law) (own := [("_law_place", 11)]) (by decide +kernel)) rfl (fun _ _ _ _ _ _ => gv_name (i := 11) nd rfl (.inl rfl)) (fun _ _ _ _ _ _ => tt_nil) (fun _ _ _ _ _ _ => (pv_ix prim_ix pv_str (cl F__law_draw (Room.mono hr (by decide : 1 ≤ 9)) rfl rfl rfl air_blk rfl (pe_var (i := 2) rfl (by exact Or.inr (Or.inl rfl))) (av_cons pv_int av_nil)) (fun _ _ => rfl)))))))) ss_nil) (ss_one (sv_for pas_cx rfl (iv_rng1 rfl b.range (av_cons pv_int av_nil)) (gv_name (i := 9) nd rfl (.inl rfl)) (ss_one (sv_if (tt_cmp (op_neD (Room.units hr)) prim_ne rfl (cv F__law_read (Room.mono hr (by decide : 9 ≤ 9)) rfl rfl rfl air_cx rfl (ga_cons (pg_vl (pv_var 9 (pe_var (i := 9) rfl (by exact Or.inl rfl)))) (ga_cons (pg_vl (pv_var 8 (pe_var (i := 8) rfl (by exact Or.inl rfl)))) ga_nil))) (cv F__law_due (Room.mono hr (by decide : 7 ≤ 9)) rfl rfl rfl air_cx rfl (ga_cons (pg_vl (pv_var 9 (pe_var (i := 9) rfl (by exact Or.inl rfl)))) (ga_cons (pg_vl (pv_var 8 (pe_var (i := 8) rfl (by exact Or.inl rfl)))) ga_nil)))) (ss_one (sv_ret rfl pv_bl)) ss_nil))))))) (ss_cons (sv_asg nd rfl (.inr rfl) (pv_ix prim_ix (pv_lst (av_cons pv_non (av_cons pv_int (av_cons pv_bl (av_cons (pv_tup (av_cons pv_str av_nil)) (av_cons (pv_lst (av_cons pv_str av_nil)) (av_cons (pv_tup (av_cons pv_int av_nil)) av_nil))))))) (cl F__law_draw (Room.mono hr (by decide : 1 ≤ 9)) rfl rfl rfl air_cx rfl (pe_var (i := 2) rfl (by exact Or.inr (Or.inl rfl))) (av_cons pv_int av_nil)) (fun _ _ => rfl))) (ss_one (sv_if (tt_cmp (op_neD (Room.units hr)) prim_ne rfl (pv_fresh (pf_lc (own := [("_law_kind", 9)]) (vs := [9]) frm_cx air_cx rfl nd (iv_rng1 rfl b.range (av_cons pv_int av_nil)) (blkOk_by (N := ["_law_script", "_law_k", "_law_purse_here", "_law_small", "_law_middle", "_law_great", "_law_written", "_law_again", "_law_text", "_law_kind", "_law_odd", "_law_place"]) (sc := defScope s_law) (own := [("_law_kind", 9)]) (by decide +kernel)) rfl (fun _ _ _ _ _ _ => gv_name (i := 9) nd rfl (.inl rfl)) (fun _ _ _ _ _ _ => tt_nil) (fun _ _ _ _ _ _ => (cv F__law_read (Room.mono hr (by decide : 9 ≤ 9)) rfl rfl rfl air_blk rfl (ga_cons (pg_vl (pv_var 9 (pe_var (i := 9) rfl (by exact Or.inl rfl)))) (ga_cons (pg_vl (pv_var 10 (pe_var (i := 10) rfl (by exact Or.inr (Or.inl rfl))))) ga_nil)))))) (pv_op2 op_mulAll prim_mul (pv_lst (av_cons pv_str av_nil)) pv_int)) (ss_one (sv_ret rfl pv_bl)) ss_nil))))))))))) (ss_one (sv_ret rfl pv_bl)))
end K82
end

section
set_option Elab.async false
set_option linter.all false
set_option maxRecDepth 100000
set_option maxHeartbeats 1000000
/-! K82n: names of loops and comprehensions within the mirrors (printed by names.py). -/
namespace K82
open PySem (Str sizeLine)
open V3
noncomputable def divisor_w1c : Cm Bool := (blE (op2 (cmpI fun i j => decide (j < i)) (var 1) (ret (.int 0))))
noncomputable def divisor_w1b : Cm Fl := (parS 0 1 (consA (var 1) (consA (op2 modD (var 0) (var 1)) (ret []))))
theorem eq_divisor : m_divisor = (thenS (asgS 0 (opA absD (consG (vl (var 0)) (ret [])))) (thenS (asgS 1 (opA absD (consG (vl (var 1)) (ret [])))) (thenS (whl divisor_w1c divisor_w1b) (retS (var 0))))) := rfl
noncomputable def poly_w1c : Cm Bool := (andT (blE (op2 (cmpI fun i j => decide (j < i)) (var 1) (ret (.int 0)))) (blE (op2 eqD (op2 ixD (var 0) (op2 subD (var 1) (ret (.int 1)))) (ret (.int 0)))))
noncomputable def poly_w1b : Cm Fl := (asgS 1 (op2 subD (var 1) (ret (.int 1))))
theorem eq_poly : m_poly = (thenS (asgS 1 (opA lenD (consG (vl (var 0)) (ret [])))) (thenS (whl poly_w1c poly_w1b) (retS (opA tupleD (consG (vl (slE (vl (var 0)) partN (partS (var 1)))) (ret [])))))) := rfl
noncomputable def poly_minus_l1e : Cm D := (op2 subD (callA R_figure_at (consG (vl (var 0)) (consG (vl (var 3)) (ret [])))) (callA R_figure_at (consG (vl (var 1)) (consG (vl (var 3)) (ret [])))))
noncomputable def poly_minus_l1 : Cm (List D) := (lcE [3] (rng1S (consA (var 2) (ret []))) (setI 3) (ret true) poly_minus_l1e)
theorem eq_poly_minus : m_poly_minus = (thenS (asgS 2 (opA maxD (consG (vl (opA lenD (consG (vl (var 0)) (ret [])))) (consG (vl (opA lenD (consG (vl (var 1)) (ret [])))) (ret []))))) (retS (callA R_poly (consG (vl (lsE poly_minus_l1)) (ret []))))) := rfl
noncomputable def scaled_l1e : Cm D := (op2 mulD (var 2) (var 1))
noncomputable def scaled_l1 : Cm (List D) := (lcE [2] (tupS (var 0)) (setI 2) (ret true) scaled_l1e)
theorem eq_scaled : m_scaled = (retS (callA R_poly (consG (vl (lsE scaled_l1)) (ret [])))) := rfl
noncomputable def content_f1b : Cm Fl := (asgS 1 (callA R_divisor (consG (vl (var 1)) (consG (vl (var 2)) (ret [])))))
theorem eq_content : m_content = (thenS (asgS 1 (ret (.int 0))) (thenS (forS (tupS (var 0)) (setI 2) content_f1b) (retS (var 1)))) := rfl
noncomputable def parted_l1e : Cm D := (op2 fdivD (var 2) (var 1))
noncomputable def parted_l1 : Cm (List D) := (lcE [2] (tupS (var 0)) (setI 2) (ret true) parted_l1e)
theorem eq_parted : m_parted = (retS (opA tupleD (consG (vl (lsE parted_l1)) (ret [])))) := rfl
noncomputable def rest_by_w1c : Cm Bool := (blE (op2 (cmpI fun i j => decide (j ≤ i)) (opA lenD (consG (vl (var 0)) (ret []))) (opA lenD (consG (vl (var 1)) (ret [])))))
noncomputable def rest_by_w1b : Cm Fl := (asgS 0 (op2 ixD (callA R_without_head (consG (vl (var 0)) (consG (vl (var 1)) (ret [])))) (ret (.int 0))))
theorem eq_rest_by : m_rest_by = (thenS (whl rest_by_w1c rest_by_w1b) (retS (var 0))) := rfl
noncomputable def common_w1c : Cm Bool := (blE (op2 neD (var 1) (tupE (ret []))))
noncomputable def common_w1b : Cm Fl := (parS 0 1 (consA (var 1) (consA (callA R_plain (consG (vl (callA R_rest_by (consG (vl (var 0)) (consG (vl (var 1)) (ret []))))) (ret []))) (ret []))))
theorem eq_common : m_common = (thenS (parS 0 1 (consA (callA R_plain (consG (vl (var 0)) (ret []))) (consA (callA R_plain (consG (vl (var 1)) (ret []))) (ret [])))) (thenS (whl common_w1c common_w1b) (retS (var 0)))) := rfl
noncomputable def is_poly_l1e : Cm D := (andE (op1 (isiD "int") (var 1)) (op1 notD (op1 (isiD "bool") (var 1))))
noncomputable def is_poly_l1 : Cm (List D) := (lcE [1] (tupS (var 0)) (setI 1) (ret true) is_poly_l1e)
theorem eq_is_poly : m_is_poly = (thenS (ifS (orT (notT (tst (op1 (isiD "tuple") (var 0)))) (notT (tst (opA allD (consG (vl (lsE is_poly_l1)) (ret [])))))) (retS (ret (.bl false))) skipS) (retS (orE (op2 eqD (var 0) (tupE (ret []))) (op2 neD (op2 ixD (var 0) (op1 negD (ret (.int 1)))) (ret (.int 0)))))) := rfl
noncomputable def show_poly_l1e : Cm D := (opA strD (consG (vl (var 1)) (ret [])))
noncomputable def show_poly_l1 : Cm (List D) := (lcE [1] (tupS (var 0)) (setI 1) (ret true) show_poly_l1e)
theorem eq_show_poly : m_show_poly = (retS (ifE (blE (op2 neD (var 0) (tupE (ret [])))) (m1 (fun s => joinD (.str s)) (ret (.str " ")) (lsE show_poly_l1)) (ret (.str "0")))) := rfl
noncomputable def whole_in_l1e : Cm D := (op2 inD (var 2) (ret (.str "0123456789")))
noncomputable def whole_in_l1 : Cm (List D) := (lcE [2] (strS (var 1)) (setI 2) (ret true) whole_in_l1e)
theorem eq_whole_in : m_whole_in = (thenS (asgS 1 (ifE (blE (op2 eqD (slE (vl (var 0)) partN (partS (ret (.int 1)))) (ret (.str "-")))) (slE (vl (var 0)) (partS (ret (.int 1))) partN) (var 0))) (thenS (exprS (callA R_must (consG (vl (andE (op2 neD (var 1) (ret (.str ""))) (opA allD (consG (vl (lsE whole_in_l1)) (ret []))))) (ret [])))) (thenS (exprS (callA R_must (consG (vl (orE (op2 neD (op2 ixD (var 1) (ret (.int 0))) (ret (.str "0"))) (op2 eqD (var 0) (ret (.str "0"))))) (ret [])))) (retS (opA intD (consG (vl (var 0)) (ret []))))))) := rfl
noncomputable def poly_in_l1e : Cm D := (callA R_whole_in (consG (vl (var 2)) (ret [])))
noncomputable def poly_in_l1 : Cm (List D) := (lcE [2] (lstS (m1 (fun s => splitD (.str s)) (var 0) (ret (.str " ")))) (setI 2) (ret true) poly_in_l1e)
theorem eq_poly_in : m_poly_in = (thenS (ifS (blE (op2 eqD (var 0) (ret (.str "0")))) (retS (tupE (ret []))) skipS) (thenS (asgS 1 (opA tupleD (consG (vl (lsE poly_in_l1)) (ret [])))) (thenS (exprS (callA R_must (consG (vl (op2 neD (op2 ixD (var 1) (op1 negD (ret (.int 1)))) (ret (.int 0)))) (ret [])))) (retS (var 1))))) := rfl
noncomputable def _law_purse_f1b : Cm Fl := (asgS 3 (op2 modD (op2 addD (op2 addD (op2 powD (var 3) (ret (.int 3))) (op2 modD (op2 ixD (var 0) (var 4)) (ret (.int 1000000007)))) (var 4)) (ret (.int 2147483629))))
theorem eq__law_purse : m__law_purse = (thenS (asgS 2 (ret (.int 0))) (thenS (ifS (blE (op2 (cmpI fun i j => decide (i < j)) (var 1) (opA lenD (consG (vl (var 0)) (ret []))))) (asgS 2 (opA absD (consG (vl (op2 ixD (var 0) (var 1))) (ret [])))) skipS) (thenS (asgS 3 (op2 addD (ret (.int 7919)) (op2 mulD (ret (.int 31)) (var 1)))) (thenS (forS (rng1S (consA (opA minD (consG (vl (opA lenD (consG (vl (var 0)) (ret [])))) (consG (vl (ret (.int 40))) (ret [])))) (ret []))) (setI 4) _law_purse_f1b) (thenS (ifS (blE (op2 (cmpI fun i j => decide (i < j)) (var 2) (op2 powD (ret (.int 10)) (ret (.int 18))))) (asgS 2 (op2 powD (ret (.int 10)) (ret (.int 18)))) skipS) (retF (dispF (consA (op2 subD (var 2) (op2 powD (ret (.int 10)) (ret (.int 18)))) (consA (var 3) (consA (op2 modD (var 1) (ret (.int 11))) (ret []))))))))))) := rfl
noncomputable def _law_draw_w1c : Cm Bool := (blE (op2 (cmpI fun i j => decide (i < j)) (var 5) (op2 mulD (var 1) (ret (.int 100)))))
noncomputable def _law_draw_w1b : Cm Fl := (thenS (setIx 0 (op2 modD (op2 addD (op2 mulD (op2g ixD (V3.own 0) (vl (ret (.int 1)))) (ret (.int 48271))) (ret (.int 12345))) (ret (.int 2147483629))) (ret (.int 1))) (thenS (setIx 0 (op2 modD (op2 addD (op2g ixD (V3.own 0) (vl (ret (.int 2)))) (ret (.int 1))) (ret (.int 11))) (ret (.int 2))) (thenS (asgS 4 (op2 addD (op2 mulD (var 4) (ret (.int 99000))) (op2 modD (op2 powD (op2g ixD (V3.own 0) (vl (ret (.int 1)))) (ret (.int 5))) (op2 ixD (var 3) (op2g ixD (V3.own 0) (vl (ret (.int 2)))))))) (asgS 5 (op2 mulD (var 5) (ret (.int 99000)))))))
theorem eq__law_draw : m__law_draw = (thenS (ifS (blE (op2 (cmpI fun i j => decide (j < i)) (op2g ixD (V3.own 0) (vl (ret (.int 0)))) (ret (.int 0)))) (thenS (asgS 2 (op2 modD (op2g ixD (V3.own 0) (vl (ret (.int 0)))) (var 1))) (thenS (setIx 0 (op2 fdivD (op2g ixD (V3.own 0) (vl (ret (.int 0)))) (var 1)) (ret (.int 0))) (retS (var 2)))) skipS) (thenS (asgS 3 (tupE (consA (ret (.int 99991)) (consA (ret (.int 99989)) (consA (ret (.int 99971)) (consA (ret (.int 99961)) (consA (ret (.int 99929)) (consA (ret (.int 99923)) (consA (ret (.int 99907)) (consA (ret (.int 99901)) (consA (ret (.int 99881)) (consA (ret (.int 99877)) (consA (ret (.int 99871)) (ret [])))))))))))))) (thenS (asgS 4 (ret (.int 0))) (thenS (asgS 5 (ret (.int 1))) (thenS (whl _law_draw_w1c _law_draw_w1b) (retS (op2 modD (var 4) (var 1)))))))) := rfl
noncomputable def _law_divisor_w1c : Cm Bool := (blE (op2 (cmpI fun i j => decide (j < i)) (var 1) (ret (.int 0))))
noncomputable def _law_divisor_w1b : Cm Fl := (parS 0 1 (consA (var 1) (consA (op2 modD (var 0) (var 1)) (ret []))))
theorem eq__law_divisor : m__law_divisor = (thenS (parS 0 1 (consA (opA absD (consG (vl (var 0)) (ret []))) (consA (opA absD (consG (vl (var 1)) (ret []))) (ret [])))) (thenS (whl _law_divisor_w1c _law_divisor_w1b) (retS (var 0)))) := rfl
noncomputable def _law_cut_w1c : Cm Bool := (andT (blE (op2 (cmpI fun i j => decide (j < i)) (var 1) (ret (.int 0)))) (blE (op2 eqD (op2 ixD (var 0) (op2 subD (var 1) (ret (.int 1)))) (ret (.int 0)))))
noncomputable def _law_cut_w1b : Cm Fl := (augN 1 (fun i j => i - j) (ret (.int 1)))
theorem eq__law_cut : m__law_cut = (thenS (asgS 1 (opA lenD (consG (vl (var 0)) (ret [])))) (thenS (whl _law_cut_w1c _law_cut_w1b) (retS (opA tupleD (consG (vl (slE (vl (var 0)) partN (partS (var 1)))) (ret [])))))) := rfl
noncomputable def _law_poly_l1e : Cm D := (callL G__law_whole 0 (consA (var 2) (ret [])))
noncomputable def _law_poly_l1 : Cm (List D) := (lcE [4] (rng1S (consA (callL G__law_draw 0 (consA (op2 addD (var 1) (ret (.int 1))) (ret []))) (ret []))) (setI 4) (ret true) _law_poly_l1e)
theorem eq__law_poly : m__law_poly = (thenS (asgS 3 (lsE _law_poly_l1)) (retS (callA R__law_cut (consG (vl (var 3)) (ret []))))) := rfl
noncomputable def _law_sum_l1e : Cm D := (op2 addD (op2 ixD (var 4) (var 6)) (op2 mulD (var 2) (op2 ixD (var 5) (var 6))))
noncomputable def _law_sum_l1 : Cm (List D) := (lcE [6] (rng1S (consA (var 3) (ret []))) (setI 6) (ret true) _law_sum_l1e)
theorem eq__law_sum : m__law_sum = (thenS (asgS 3 (opA maxD (consG (vl (opA lenD (consG (vl (var 0)) (ret [])))) (consG (vl (opA lenD (consG (vl (var 1)) (ret [])))) (ret []))))) (thenS (asgS 4 (op2 addD (opA listD (consG (vl (var 0)) (ret []))) (op2 mulD (lstE (consA (ret (.int 0)) (ret []))) (op2 subD (var 3) (opA lenD (consG (vl (var 0)) (ret []))))))) (thenS (asgS 5 (op2 addD (opA listD (consG (vl (var 1)) (ret []))) (op2 mulD (lstE (consA (ret (.int 0)) (ret []))) (op2 subD (var 3) (opA lenD (consG (vl (var 1)) (ret []))))))) (retS (callA R__law_cut (consG (vl (lsE _law_sum_l1)) (ret []))))))) := rfl
noncomputable def _law_product_f1b : Cm Fl := (augIx 2 (op2 addD (var 3) (var 4)) (fun i j => i + j) (op2 mulD (op2 ixD (var 0) (var 3)) (op2 ixD (var 1) (var 4))))
noncomputable def _law_product_f2b : Cm Fl := (forS (rng1S (consA (opA lenD (consG (vl (var 1)) (ret []))) (ret []))) (setI 4) _law_product_f1b)
theorem eq__law_product : m__law_product = (thenS (asgO 2 2 (repF (lstE (consA (ret (.int 0)) (ret []))) (op2 addD (opA lenD (consG (vl (var 0)) (ret []))) (opA lenD (consG (vl (var 1)) (ret [])))))) (thenS (forS (rng1S (consA (opA lenD (consG (vl (var 0)) (ret []))) (ret []))) (setI 3) _law_product_f2b) (retS (callA R__law_cut (consG (V3.own 2) (ret [])))))) := rfl
noncomputable def _law_plain_f1b : Cm Fl := (asgS 1 (callA R__law_divisor (consG (vl (var 1)) (consG (vl (var 2)) (ret [])))))
noncomputable def _law_plain_l1e : Cm D := (op2 fdivD (var 2) (var 1))
noncomputable def _law_plain_l1 : Cm (List D) := (lcE [2] (tupS (var 0)) (setI 2) (ret true) _law_plain_l1e)
theorem eq__law_plain : m__law_plain = (thenS (asgS 1 (ret (.int 0))) (thenS (forS (tupS (var 0)) (setI 2) _law_plain_f1b) (thenS (ifS (andT (blE (op2 neD (var 0) (tupE (ret [])))) (blE (op2 (cmpI fun i j => decide (i < j)) (op2 ixD (var 0) (op1 negD (ret (.int 1)))) (ret (.int 0))))) (asgS 1 (op1 negD (var 1))) skipS) (retS (opA tupleD (consG (vl (lsE _law_plain_l1)) (ret []))))))) := rfl
noncomputable def _law_left_w1c : Cm Bool := (blE (op2 (cmpI fun i j => decide (j ≤ i)) (opA lenD (consG (vl (var 0)) (ret []))) (opA lenD (consG (vl (var 1)) (ret [])))))
noncomputable def _law_left_w1b : Cm Fl := (thenS (asgS 2 (op2 subD (opA lenD (consG (vl (var 0)) (ret []))) (opA lenD (consG (vl (var 1)) (ret []))))) (thenS (asgS 3 (callA R__law_product (consG (vl (op2 addD (op2 mulD (tupE (consA (ret (.int 0)) (ret []))) (var 2)) (tupE (consA (op2 ixD (var 0) (op1 negD (ret (.int 1)))) (ret []))))) (consG (vl (var 1)) (ret []))))) (asgS 0 (callA R__law_plain (consG (vl (callA R__law_sum (consG (vl (callA R__law_product (consG (vl (tupE (consA (op2 ixD (var 1) (op1 negD (ret (.int 1)))) (ret [])))) (consG (vl (var 0)) (ret []))))) (consG (vl (var 3)) (consG (vl (op1 negD (ret (.int 1)))) (ret [])))))) (ret []))))))
theorem eq__law_left : m__law_left = (thenS (whl _law_left_w1c _law_left_w1b) (retS (var 0))) := rfl
noncomputable def _law_common_w1c : Cm Bool := (blE (op2 neD (var 1) (tupE (ret []))))
noncomputable def _law_common_w1b : Cm Fl := (parS 0 1 (consA (var 1) (consA (callA R__law_left (consG (vl (var 0)) (consG (vl (var 1)) (ret [])))) (ret []))))
theorem eq__law_common : m__law_common = (thenS (whl _law_common_w1c _law_common_w1b) (retS (callA R__law_plain (consG (vl (var 0)) (ret []))))) := rfl
noncomputable def _law_divided_w1c : Cm Bool := (blE (op2 neD (var 0) (tupE (ret []))))
noncomputable def _law_divided_w1b : Cm Fl := (thenS (asgS 3 (op2 subD (opA lenD (consG (vl (var 0)) (ret []))) (opA lenD (consG (vl (var 1)) (ret []))))) (thenS (setIx 2 (op2 fdivD (op2 ixD (var 0) (op1 negD (ret (.int 1)))) (op2 ixD (var 1) (op1 negD (ret (.int 1))))) (var 3)) (asgS 0 (callA R__law_sum (consG (vl (var 0)) (consG (vl (callA R__law_product (consG (vl (op2 addD (op2 mulD (tupE (consA (ret (.int 0)) (ret []))) (var 3)) (tupE (consA (op2g ixD (V3.own 2) (vl (var 3))) (ret []))))) (consG (vl (var 1)) (ret []))))) (consG (vl (op1 negD (ret (.int 1)))) (ret []))))))))
theorem eq__law_divided : m__law_divided = (thenS (asgO 2 2 (repF (lstE (consA (ret (.int 0)) (ret []))) (op2 addD (op2 subD (opA lenD (consG (vl (var 0)) (ret []))) (opA lenD (consG (vl (var 1)) (ret [])))) (ret (.int 1))))) (thenS (whl _law_divided_w1c _law_divided_w1b) (retS (opA tupleD (consG (V3.own 2) (ret [])))))) := rfl
noncomputable def _law_form_f1b : Cm Fl := (asgS 3 (callA R__law_divisor (consG (vl (var 3)) (consG (vl (var 4)) (ret [])))))
noncomputable def _law_form_l1e : Cm D := (op2 fdivD (var 4) (var 3))
noncomputable def _law_form_l1 : Cm (List D) := (lcE [4] (tupS (var 0)) (setI 4) (ret true) _law_form_l1e)
noncomputable def _law_form_l2e : Cm D := (op2 fdivD (var 4) (var 3))
noncomputable def _law_form_l2 : Cm (List D) := (lcE [4] (tupS (var 1)) (setI 4) (ret true) _law_form_l2e)
theorem eq__law_form : m__law_form = (thenS (ifS (blE (op2 eqD (var 0) (tupE (ret [])))) (retS (tupE (consA (tupE (ret [])) (consA (tupE (consA (ret (.int 1)) (ret []))) (ret []))))) skipS) (thenS (asgS 2 (callA R__law_common (consG (vl (var 0)) (consG (vl (var 1)) (ret []))))) (thenS (parS 0 1 (consA (callA R__law_divided (consG (vl (var 0)) (consG (vl (var 2)) (ret [])))) (consA (callA R__law_divided (consG (vl (var 1)) (consG (vl (var 2)) (ret [])))) (ret [])))) (thenS (asgS 3 (ret (.int 0))) (thenS (forS (tupS (op2 addD (var 0) (var 1))) (setI 4) _law_form_f1b) (thenS (ifS (blE (op2 (cmpI fun i j => decide (i < j)) (op2 ixD (var 1) (op1 negD (ret (.int 1)))) (ret (.int 0)))) (asgS 3 (op1 negD (var 3))) skipS) (retS (tupE (consA (opA tupleD (consG (vl (lsE _law_form_l1)) (ret []))) (consA (opA tupleD (consG (vl (lsE _law_form_l2)) (ret []))) (ret []))))))))))) := rfl
noncomputable def _law_whole_in_l1e : Cm D := (op2 inD (var 2) (ret (.str "0123456789")))
noncomputable def _law_whole_in_l1 : Cm (List D) := (lcE [2] (strS (var 1)) (setI 2) (ret true) _law_whole_in_l1e)
theorem eq__law_whole_in : m__law_whole_in = (thenS (asgS 1 (ifE (blE (op2 eqD (slE (vl (var 0)) partN (partS (ret (.int 1)))) (ret (.str "-")))) (slE (vl (var 0)) (partS (ret (.int 1))) partN) (var 0))) (thenS (ifS (orT (blE (op2 eqD (var 1) (ret (.str "")))) (notT (tst (opA allD (consG (vl (lsE _law_whole_in_l1)) (ret [])))))) (retS (ret .non)) skipS) (thenS (ifS (andT (blE (op2 eqD (op2 ixD (var 1) (ret (.int 0))) (ret (.str "0")))) (blE (op2 neD (var 0) (ret (.str "0"))))) (retS (ret .non)) skipS) (retS (opA intD (consG (vl (var 0)) (ret []))))))) := rfl
noncomputable def _law_poly_in_l1e : Cm D := (callA R__law_whole_in (consG (vl (var 2)) (ret [])))
noncomputable def _law_poly_in_l1 : Cm (List D) := (lcE [2] (lstS (m1 (fun s => splitD (.str s)) (var 0) (ret (.str " ")))) (setI 2) (ret true) _law_poly_in_l1e)
theorem eq__law_poly_in : m__law_poly_in = (thenS (asgS 1 (lsE _law_poly_in_l1)) (thenS (ifS (blE (op2 eqD (var 1) (lstE (consA (ret (.int 0)) (ret []))))) (retS (tupE (ret []))) skipS) (thenS (ifS (orT (blE (op2 inD (ret .non) (var 1))) (blE (op2 eqD (op2 ixD (var 1) (op1 negD (ret (.int 1)))) (ret (.int 0))))) (retS (ret .non)) skipS) (retS (opA tupleD (consG (vl (var 1)) (ret []))))))) := rfl
noncomputable def _law_quotient_in_l1e : Cm D := (callA R__law_poly_in (consG (vl (var 3)) (ret [])))
noncomputable def _law_quotient_in_l1 : Cm (List D) := (lcE [3] (lstS (m1 (fun s => splitD (.str s)) (var 0) (ret (.str " / ")))) (setI 3) (ret true) _law_quotient_in_l1e)
theorem eq__law_quotient_in : m__law_quotient_in = (thenS (asgS 1 (lsE _law_quotient_in_l1)) (thenS (ifS (orT (blE (op2 inD (ret .non) (var 1))) (orT (blE (op2 (cmpI fun i j => decide (j < i)) (opA lenD (consG (vl (var 1)) (ret []))) (ret (.int 2)))) (orT (blE (op2 eqD (slE (vl (var 1)) (partS (ret (.int 1))) partN) (lstE (consA (tupE (consA (ret (.int 1)) (ret []))) (ret []))))) (blE (op2 eqD (slE (vl (var 1)) (partS (ret (.int 1))) partN) (lstE (consA (tupE (ret [])) (ret [])))))))) (retS (ret .non)) skipS) (thenS (asgS 2 (tupE (consA (op2 ixD (var 1) (ret (.int 0))) (consA (op2 ixD (op2 addD (var 1) (lstE (consA (tupE (consA (ret (.int 1)) (ret []))) (ret [])))) (ret (.int 1))) (ret []))))) (retS (ifE (blE (op2 eqD (var 2) (callA R__law_form (consG (vl (op2 ixD (var 2) (ret (.int 0)))) (consG (vl (op2 ixD (var 2) (ret (.int 1)))) (ret [])))))) (var 2) (ret .non)))))) := rfl
noncomputable def _law_number_in_l1e : Cm D := (callA R__law_whole_in (consG (vl (var 2)) (ret [])))
noncomputable def _law_number_in_l1 : Cm (List D) := (lcE [2] (lstS (m1 (fun s => splitD (.str s)) (var 0) (ret (.str "/")))) (setI 2) (ret true) _law_number_in_l1e)
theorem eq__law_number_in : m__law_number_in = (thenS (asgS 1 (lsE _law_number_in_l1)) (thenS (ifS (orT (blE (op2 inD (ret .non) (var 1))) (blE (op2 (cmpI fun i j => decide (j < i)) (opA lenD (consG (vl (var 1)) (ret []))) (ret (.int 2))))) (retS (ret .non)) skipS) (thenS (ifS (blE (op2 eqD (opA lenD (consG (vl (var 1)) (ret []))) (ret (.int 1)))) (retS (tupE (consA (op2 ixD (var 1) (ret (.int 0))) (consA (ret (.int 1)) (ret []))))) skipS) (retS (ifE (andT (blE (op2 (cmpI fun i j => decide (j < i)) (op2 ixD (var 1) (ret (.int 1))) (ret (.int 1)))) (blE (op2 eqD (callA R__law_divisor (consG (vl (op2 ixD (var 1) (ret (.int 0)))) (consG (vl (op2 ixD (var 1) (ret (.int 1)))) (ret [])))) (ret (.int 1))))) (opA tupleD (consG (vl (var 1)) (ret []))) (ret .non)))))) := rfl
noncomputable def _law_poly_text_l1e : Cm D := (opA strD (consG (vl (var 1)) (ret [])))
noncomputable def _law_poly_text_l1 : Cm (List D) := (lcE [1] (tupS (var 0)) (setI 1) (ret true) _law_poly_text_l1e)
theorem eq__law_poly_text : m__law_poly_text = (retS (ifE (blE (op2 neD (var 0) (tupE (ret [])))) (m1 (fun s => joinD (.str s)) (ret (.str " ")) (lsE _law_poly_text_l1)) (ret (.str "0")))) := rfl
noncomputable def _law_bent_text_f1b : Cm Fl := (thenS (asgS 3 (callL G__law_draw 0 (consA (op2 addD (opA lenD (consG (vl (var 1)) (ret []))) (ret (.int 1))) (ret [])))) (thenS (asgS 4 (op2 ixD (ret (.str "0123456789- /[]-x .+0 /1")) (callL G__law_draw 0 (consA (ret (.int 24)) (ret []))))) (thenS (asgS 5 (callL G__law_draw 0 (consA (ret (.int 3)) (ret [])))) (asgS 1 (op2 addD (op2 addD (slE (vl (var 1)) partN (partS (var 3))) (op2 mulD (var 4) (opA intD (consG (vl (op2 (cmpI fun i j => decide (i < j)) (var 5) (ret (.int 2)))) (ret []))))) (slE (vl (var 1)) (partS (op2 addD (var 3) (opA intD (consG (vl (op2 (cmpI fun i j => decide (j < i)) (var 5) (ret (.int 0)))) (ret []))))) partN))))))
theorem eq__law_bent_text : m__law_bent_text = (thenS (forS (rng1S (consA (callL G__law_draw 0 (consA (ret (.int 3)) (ret []))) (ret []))) (setI 2) _law_bent_text_f1b) (retS (var 1))) := rfl
noncomputable def law_l1e : Cm D := (callA R__law_read (consG (vl (var 9)) (consG (vl (op2 ixD (var 6) (var 9))) (ret []))))
noncomputable def law_l1 : Cm (List D) := (lcE [9] (rng1S (consA (ret (.int 3)) (ret []))) (setI 9) (ret true) law_l1e)
noncomputable def law_l2e : Cm D := (op2 ixD (ret (.str "0123456789- /")) (callL G__law_draw 2 (consA (ret (.int 13)) (ret []))))
noncomputable def law_l2 : Cm (List D) := (lcE [11] (rng1S (consA (callL G__law_draw 2 (consA (ret (.int 4)) (ret []))) (ret []))) (setI 11) (ret true) law_l2e)
noncomputable def law_f1b : Cm Fl := (ifS (blE (op2 neD (callA R__law_read (consG (vl (var 9)) (consG (vl (var 8)) (ret [])))) (callA R__law_due (consG (vl (var 9)) (consG (vl (var 8)) (ret [])))))) (retS (ret (.bl false))) skipS)
noncomputable def law_f2b : Cm Fl := (thenS (asgS 8 (callL G__law_bent_text 2 (consA (op2 ixD (var 6) (callL G__law_draw 2 (consA (ret (.int 3)) (ret [])))) (ret [])))) (thenS (ifS (blE (op2 eqD (var 7) (ret (.int 5)))) (asgS 8 (m1 (fun s => joinD (.str s)) (ret (.str "")) (lsE law_l2))) skipS) (forS (rng1S (consA (ret (.int 3)) (ret []))) (setI 9) law_f1b)))
noncomputable def law_l3e : Cm D := (callA R__law_read (consG (vl (var 9)) (consG (vl (var 10)) (ret []))))
noncomputable def law_l3 : Cm (List D) := (lcE [9] (rng1S (consA (ret (.int 3)) (ret []))) (setI 9) (ret true) law_l3e)
noncomputable def law_f3b : Cm Fl := (thenS (asgO 2 1 (callN R__law_purse (consA (var 0) (consA (var 1) (ret []))))) (thenS (parS 3 4 (consA (callL G__law_number 2 (consA (op2 powD (ret (.int 10)) (ret (.int 12))) (ret []))) (consA (callL G__law_poly 2 (consA (ret (.int 5)) (consA (op2 powD (ret (.int 10)) (ret (.int 12))) (ret [])))) (ret [])))) (thenS (asgS 5 (callL G__law_quotient 2 (consA (ret (.int 4)) (consA (op2 powD (ret (.int 10)) (ret (.int 12))) (ret []))))) (thenS (asgS 6 (lstE (consA (callA R__law_number_text (consG (vl (var 3)) (ret []))) (consA (callA R__law_poly_text (consG (vl (var 4)) (ret []))) (consA (callA R__law_quotient_text (consG (vl (var 5)) (ret []))) (ret [])))))) (thenS (ifS (blE (op2 neD (lstE (consA (callA R_show_number (consG (vl (var 3)) (ret []))) (consA (callA R_show_poly (consG (vl (var 4)) (ret []))) (consA (callA R_show_quotient (consG (vl (var 5)) (ret []))) (ret []))))) (var 6))) (retS (ret (.bl false))) skipS) (thenS (ifS (blE (op2 neD (lsE law_l1) (lstE (consA (var 3) (consA (var 4) (consA (var 5) (ret []))))))) (retS (ret (.bl false))) skipS) (thenS (forS (rng1S (consA (ret (.int 6)) (ret []))) (setI 7) law_f2b) (thenS (asgS 10 (op2 ixD (lstE (consA (ret .non) (consA (ret (.int 7)) (consA (ret (.bl true)) (consA (tupE (consA (ret (.str "1")) (ret []))) (consA (lstE (consA (ret (.str "1")) (ret []))) (consA (tupE (consA (ret (.int 1)) (ret []))) (ret [])))))))) (callL G__law_draw 2 (consA (ret (.int 6)) (ret []))))) (ifS (blE (op2 neD (lsE law_l3) (op2 mulD (lstE (consA (ret (.str "NoText")) (ret []))) (ret (.int 3))))) (retS (ret (.bl false))) skipS)))))))))
theorem eq_law : m_law = (thenS (forS (lstS (callA R__law_many (consG (vl (var 0)) (consG (vl (ret (.int 4))) (ret []))))) (setI 1) law_f3b) (retS (ret (.bl true)))) := rfl
end K82
end

section
set_option Elab.async false
set_option linter.all false
set_option maxRecDepth 100000
set_option maxHeartbeats 1000000
/-! Pm: polynomials with whole figures as lists, the lowest power first: plain Lean. -/
namespace Pm
abbrev P := List Int
def co (a : P) (k : Nat) : Int := a.getD k 0
@[simp] theorem co_nil {k : Nat} : co [] k = 0 := rfl
@[simp] theorem co_zero {x : Int} {a : P} : co (x :: a) 0 = x := rfl
@[simp] theorem co_succ {x : Int} {a : P} {k : Nat} : co (x :: a) (k + 1) = co a k := rfl
theorem co_ge {a : P} {k : Nat} (h : a.length ≤ k) : co a k = 0 := by
  unfold co; rw [List.getD_eq_getElem?_getD, List.getElem?_eq_none h]; rfl
theorem co_lt {a : P} {k : Nat} (h : k < a.length) : co a k = a[k] := by
  unfold co; rw [List.getD_eq_getElem?_getD, List.getElem?_eq_getElem h]; rfl
theorem co_mem {a : P} {k : Nat} (h : k < a.length) : co a k ∈ a := by
  rw [co_lt h]; exact List.getElem_mem h
theorem mem_co {a : P} {x : Int} (h : x ∈ a) : ∃ k, k < a.length ∧ co a k = x := by
  obtain ⟨k, hk, e⟩ := List.getElem_of_mem h
  exact ⟨k, hk, by rw [co_lt hk]; exact e⟩
/-- no head that is 0 -/
def Tr (a : P) : Prop := a = [] ∨ co a (a.length - 1) ≠ 0
def ld (a : P) : Int := co a (a.length - 1)
theorem tr_nil : Tr [] := .inl rfl
theorem Tr.ld {a : P} (h : Tr a) (hn : a ≠ []) : ld a ≠ 0 := h.elim (fun e => absurd e hn) id
theorem len_pos {a : P} (h : a ≠ []) : 0 < a.length := List.length_pos_iff.mpr h
theorem tr_eq {a b : P} (ha : Tr a) (hb : Tr b) (h : ∀ k, co a k = co b k) : a = b := by
  have hl : ∀ {a b : P}, Tr a → (∀ k, co a k = co b k) → a.length ≤ b.length := fun {a b} ha h => by
    by_cases hn : a = []
    · subst hn; exact Nat.zero_le _
    · have := ha.ld hn
      unfold Pm.ld at this
      rw [h] at this
      by_cases hlt : a.length - 1 < b.length
      · have := len_pos hn; omega
      · exact absurd (co_ge (by omega)) this
  have e : a.length = b.length := Nat.le_antisymm (hl ha h) (hl hb fun k => (h k).symm)
  apply List.ext_getElem e
  intro k h1 h2
  rw [← co_lt h1, ← co_lt h2, h k]
/-- lengths told by figures -/
theorem len_le {a : P} {n : Nat} (ha : Tr a) (h : ∀ k, n ≤ k → co a k = 0) : a.length ≤ n := by
  by_cases hn : a = []
  · subst hn; exact Nat.zero_le _
  · by_cases hlt : a.length ≤ n
    · exact hlt
    · exact absurd (h (a.length - 1) (by omega)) (ha.ld hn)
theorem len_eq {a : P} {n : Nat} (ha : Tr a) (h : ∀ k, n ≤ k → co a k = 0) (hn : n = 0 ∨ co a (n - 1) ≠ 0) : a.length = n := by
  refine Nat.le_antisymm (len_le ha h) ?_
  rcases hn with e | e
  · omega
  · by_cases hlt : n ≤ a.length
    · exact hlt
    · exact absurd (co_ge (by omega)) e
def trim : P → P
  | [] => []
  | x :: l => if trim l = [] ∧ x = 0 then [] else x :: trim l
theorem co_trim : ∀ (a : P) (k : Nat), co (trim a) k = co a k
  | [], _ => rfl
  | x :: l, k => by
    unfold trim
    by_cases h : trim l = [] ∧ x = 0
    · rw [if_pos h]
      cases k with
      | zero => rw [co_zero, h.2]; rfl
      | succ k => rw [co_succ, ← co_trim l k, h.1]; rfl
    · rw [if_neg h]
      cases k with
      | zero => rfl
      | succ k => rw [co_succ, co_succ, co_trim l k]
theorem trim_tr : ∀ a : P, Tr (trim a)
  | [] => .inl rfl
  | x :: l => by
    unfold trim
    by_cases h : trim l = [] ∧ x = 0
    · rw [if_pos h]; exact .inl rfl
    · rw [if_neg h]
      by_cases he : trim l = []
      · rw [he]
        refine .inr ?_
        show x ≠ 0
        exact fun z => h ⟨he, z⟩
      · refine .inr ?_
        have := (trim_tr l).ld he
        unfold ld at this
        have hp := len_pos he
        rw [List.length_cons, show (trim l).length + 1 - 1 = ((trim l).length - 1) + 1 by omega, co_succ]
        exact this
theorem trim_of {a : P} (h : Tr a) : trim a = a := tr_eq (trim_tr a) h (co_trim a)
theorem trim_len (a : P) : (trim a).length ≤ a.length := len_le (trim_tr a) fun k hk => by rw [co_trim, co_ge hk]
theorem trim_take (a : P) : a.take (trim a).length = trim a := by
  have h := trim_len a
  apply List.ext_getElem (by rw [List.length_take]; omega)
  intro k h1 h2
  rw [List.getElem_take, ← co_lt h2, co_trim, co_lt (by omega)]
theorem trim_eq {a b : P} (hb : Tr b) (h : ∀ k, co a k = co b k) : trim a = b := tr_eq (trim_tr a) hb fun k => by rw [co_trim, h]
theorem tr_one {x : Int} (h : x ≠ 0) : Tr [x] := .inr h
theorem co_tab {n : Nat} {f : Nat → Int} {k : Nat} : co ((List.range n).map f) k = if k < n then f k else 0 := by
  by_cases h : k < n
  · rw [if_pos h, co_lt (by simpa using h)]; simp
  · rw [if_neg h, co_ge (by simp; omega)]
theorem co_map {a : P} {f : Int → Int} (h0 : f 0 = 0) {k : Nat} : co (a.map f) k = f (co a k) := by
  by_cases h : k < a.length
  · rw [co_lt (by simpa using h), co_lt h]; simp
  · rw [co_ge (by simp; omega), co_ge (by omega), h0]
theorem co_rep {n : Nat} {a : P} {k : Nat} : co (List.replicate n 0 ++ a) k = if k < n then 0 else co a (k - n) := by
  unfold co
  rw [List.getD_eq_getElem?_getD, List.getD_eq_getElem?_getD]
  by_cases h : k < n
  · rw [if_pos h, List.getElem?_append_left (by simpa using h), List.getElem?_replicate, if_pos h]; rfl
  · rw [if_neg h, List.getElem?_append_right (by simpa using h), List.length_replicate]

/-! ### sums and products -/
def add : P → P → P
  | [], b => b
  | x :: a, [] => x :: a
  | x :: a, y :: b => (x + y) :: add a b
theorem co_add : ∀ (a b : P) (k : Nat), co (add a b) k = co a k + co b k
  | [], b, k => by simp [add]
  | x :: a, [], k => by simp [add]
  | x :: a, y :: b, 0 => rfl
  | x :: a, y :: b, k + 1 => co_add a b k
def mul : P → P → P
  | [], _ => []
  | x :: p, u => add (u.map (x * ·)) (0 :: mul p u)
theorem mul_zero {x : Int} {p u : P} : co (mul (x :: p) u) 0 = x * co u 0 := by
  unfold mul; rw [co_add, co_map (by simp)]; simp
theorem mul_succ {x : Int} {p u : P} {k : Nat} : co (mul (x :: p) u) (k + 1) = x * co u (k + 1) + co (mul p u) k := by
  show co (add (u.map (x * ·)) (0 :: mul p u)) (k + 1) = _
  rw [co_add, co_map (by simp)]; simp
theorem mul_nil : ∀ (p : P) (k : Nat), co (mul p []) k = 0
  | [], _ => rfl
  | x :: p, 0 => by rw [mul_zero]; simp
  | x :: p, k + 1 => by rw [mul_succ, mul_nil p k]; simp
theorem mulR_zero : ∀ {p : P} {y : Int} {u : P}, co (mul p (y :: u)) 0 = co p 0 * y
  | [], _, _ => by simp [mul]
  | x :: p, y, u => by rw [mul_zero]; rfl
theorem mulR_succ : ∀ {p : P} {y : Int} {u : P} {k : Nat}, co (mul p (y :: u)) (k + 1) = co p (k + 1) * y + co (mul p u) k
  | [], _, _, _ => by simp [mul]
  | x :: p, y, u, 0 => by rw [mul_succ, mulR_zero, mul_zero]; simp; omega
  | x :: p, y, u, k + 1 => by
    rw [mul_succ, mulR_succ, mul_succ]
    simp
    omega
theorem mul_comm : ∀ (p u : P) (k : Nat), co (mul p u) k = co (mul u p) k
  | [], u, k => by rw [mul_nil]; rfl
  | x :: p, u, 0 => by rw [mul_zero, mulR_zero, Int.mul_comm]
  | x :: p, u, k + 1 => by rw [mul_succ, mulR_succ, mul_comm p u k, Int.mul_comm]
theorem mul_congr : ∀ {p u v : P}, (∀ k, co u k = co v k) → ∀ k, co (mul p u) k = co (mul p v) k
  | [], _, _, _, _ => rfl
  | x :: p, u, v, h, 0 => by rw [mul_zero, mul_zero, h 0]
  | x :: p, u, v, h, k + 1 => by rw [mul_succ, mul_succ, h, mul_congr h k]
theorem mul_smul : ∀ {p u v : P} {c : Int}, (∀ k, co u k = c * co v k) → ∀ k, co (mul p u) k = c * co (mul p v) k
  | [], _, _, _, _, _ => by simp [mul]
  | x :: p, u, v, c, h, 0 => by rw [mul_zero, mul_zero, h 0, Int.mul_left_comm]
  | x :: p, u, v, c, h, k + 1 => by rw [mul_succ, mul_succ, h, mul_smul h k, Int.mul_left_comm x, Int.mul_add]
theorem mul_add : ∀ {p u v w : P}, (∀ k, co w k = co u k + co v k) → ∀ k, co (mul p w) k = co (mul p u) k + co (mul p v) k
  | [], _, _, _, _, _ => by simp [mul]
  | x :: p, u, v, w, h, 0 => by rw [mul_zero, mul_zero, mul_zero, h 0, Int.mul_add]
  | x :: p, u, v, w, h, k + 1 => by
    rw [mul_succ, mul_succ, mul_succ, h, mul_add h k, Int.mul_add]
    omega
/-- raised by n -/
def sh (n : Nat) (a : P) (k : Nat) : Int := if k < n then 0 else co a (k - n)
def shL (n : Nat) (a : P) : P := List.replicate n 0 ++ a
theorem co_sh {n : Nat} {a : P} {k : Nat} : co (shL n a) k = sh n a k := co_rep
theorem mul_sh {p u : P} : ∀ (n : Nat) (k : Nat), co (mul p (shL n u)) k = sh n (mul p u) k
  | 0, k => by simp [shL, sh]
  | n + 1, 0 => by
    show co (mul p (0 :: shL n u)) 0 = _
    rw [mulR_zero]; simp [sh]
  | n + 1, k + 1 => by
    show co (mul p (0 :: shL n u)) (k + 1) = _
    rw [mulR_succ, mul_sh n k]
    unfold sh
    by_cases h : k < n
    · rw [if_pos h, if_pos (by omega)]; simp
    · rw [if_neg h, if_neg (by omega)]; simp
theorem mul_one {p : P} : ∀ k, co (mul p [1]) k = co p k
  | 0 => by rw [mulR_zero]; simp
  | k + 1 => by rw [mulR_succ, mul_nil]; simp
/-- heads and lengths of products -/
theorem mul_ge : ∀ {p u : P} {k : Nat}, p.length + u.length ≤ k + 1 → co (mul p u) k = 0
  | [], _, _, _ => rfl
  | x :: p, u, 0, h => by
    rw [List.length_cons] at h
    have : u = [] := List.length_eq_zero_iff.mp (by omega)
    subst this
    rw [mul_nil]
  | x :: p, u, k + 1, h => by
    rw [List.length_cons] at h
    rw [mul_succ, mul_ge (by omega), co_ge (a := u) (by omega)]; simp
theorem mul_ld : ∀ {p u : P}, p ≠ [] → u ≠ [] → co (mul p u) (p.length + u.length - 2) = ld p * ld u
  | [x], u, _, hu => by
    have := len_pos hu
    rw [show [x].length + u.length - 2 = u.length - 1 by simp; omega]
    cases e : u.length - 1 with
    | zero => rw [mul_zero]; unfold ld; rw [e]; rfl
    | succ k => rw [mul_succ]; unfold ld; rw [e]; simp [mul]
  | x :: y :: p, u, _, hu => by
    have hp := len_pos hu
    have ih := mul_ld (p := y :: p) (u := u) (by simp) hu
    rw [show (x :: y :: p).length + u.length - 2 = ((y :: p).length + u.length - 2) + 1 by simp; omega, mul_succ, ih, co_ge (a := u) (by simp; omega)]
    unfold ld
    simp
def mulT (p u : P) : P := trim (mul p u)
theorem co_mulT {p u : P} {k : Nat} : co (mulT p u) k = co (mul p u) k := co_trim _ _
theorem mulT_tr {p u : P} : Tr (mulT p u) := trim_tr _
theorem mulT_len {p u : P} (hp : Tr p) (hu : Tr u) (np : p ≠ []) (nu : u ≠ []) : (mulT p u).length = p.length + u.length - 1 := by
  have h1 := len_pos np
  have h2 := len_pos nu
  refine len_eq mulT_tr (fun k hk => by rw [co_mulT, mul_ge (by omega)]) (.inr ?_)
  rw [co_mulT, show p.length + u.length - 1 - 1 = p.length + u.length - 2 by omega, mul_ld np nu]
  exact Int.mul_ne_zero (hp.ld np) (hu.ld nu)
theorem mulT_ld {p u : P} (hp : Tr p) (hu : Tr u) (np : p ≠ []) (nu : u ≠ []) : ld (mulT p u) = ld p * ld u := by
  have h1 := len_pos np
  have h2 := len_pos nu
  unfold ld
  rw [mulT_len hp hu np nu, co_mulT, show p.length + u.length - 1 - 1 = p.length + u.length - 2 by omega, mul_ld np nu]
  rfl
theorem mulT_ne {p u : P} (hp : Tr p) (hu : Tr u) (np : p ≠ []) (nu : u ≠ []) : mulT p u ≠ [] := fun e => by
  have h1 := mulT_len hp hu np nu
  have h2 := len_pos np
  have h3 := len_pos nu
  rw [e, List.length_nil] at h1
  omega

/-! ### Gauss -/
theorem irr_dvd {n : Nat} (hn : ∀ m, m ∣ n → m = 1 ∨ m = n) {x y : Int} (h : (n : Int) ∣ x * y) : (n : Int) ∣ x ∨ (n : Int) ∣ y := by
  rcases hn (Nat.gcd n x.natAbs) (Nat.gcd_dvd_left _ _) with e | e
  · refine .inr ?_
    have h1 : n ∣ x.natAbs * y.natAbs := by
      rw [← Int.natAbs_mul]
      exact Int.ofNat_dvd_left.mp h
    exact Int.ofNat_dvd_left.mpr (Nat.Coprime.dvd_of_dvd_mul_left e h1)
  · refine .inl (Int.ofNat_dvd_left.mpr ?_)
    have := Nat.gcd_dvd_right n x.natAbs
    rw [e] at this
    exact this
theorem irr_poly {n : Nat} (hn : ∀ m, m ∣ n → m = 1 ∨ m = n) : ∀ (s : Nat) (p u : P), p.length + u.length ≤ s → (∀ k, (n : Int) ∣ co (mul p u) k) → (∀ k, (n : Int) ∣ co p k) ∨ (∀ k, (n : Int) ∣ co u k)
  | _, [], _, _, _ => .inl fun k => by simp
  | _, _ :: _, [], _, _ => .inr fun k => by simp
  | 0, _ :: _, _ :: _, h, _ => by simp at h
  | s + 1, x :: p, y :: u, h, hd => by
    have h0 := hd 0
    rw [mul_zero, co_zero] at h0
    rcases irr_dvd hn h0 with hx | hy
    · have hq : ∀ k, (n : Int) ∣ co (mul p (y :: u)) k := fun k => by
        have := hd (k + 1)
        rw [mul_succ] at this
        exact (Int.dvd_add_right (Int.dvd_trans hx (Int.dvd_mul_right _ _))).mp this
      rcases irr_poly hn s p (y :: u) (by simp at h ⊢; omega) hq with z | z
      · exact .inl fun k => match k with
          | 0 => hx
          | k + 1 => z k
      · exact .inr z
    · have hq : ∀ k, (n : Int) ∣ co (mul (x :: p) u) k := fun k => by
        have := hd (k + 1)
        rw [mulR_succ] at this
        exact (Int.dvd_add_right (Int.dvd_trans hy (Int.dvd_mul_left _ _))).mp this
      rcases irr_poly hn s (x :: p) u (by simp at h ⊢; omega) hq with z | z
      · exact .inl z
      · exact .inr fun k => match k with
          | 0 => hy
          | k + 1 => z k
/-- what divides all figures is 1 -/
def Prim (p : P) : Prop := ∀ n : Nat, (∀ k, (n : Int) ∣ co p k) → n = 1
theorem gauss : ∀ (s n : Nat), n ≤ s → 0 < n → ∀ (p u : P), Prim p → (∀ k, (n : Int) ∣ co (mul p u) k) → ∀ k, (n : Int) ∣ co u k := by
  intro s
  induction s with
  | zero => intro n h1 h2; omega
  | succ s ih =>
    intro n hs h0 p u hp hd
    by_cases h1 : n = 1
    · subst h1
      exact fun k => by simp
    by_cases hirr : ∀ m, m ∣ n → m = 1 ∨ m = n
    · rcases irr_poly hirr _ p u (Nat.le_refl _) hd with z | z
      · exact absurd (hp n z) h1
      · exact z
    · obtain ⟨m, hm⟩ := Classical.not_forall.mp hirr
      have hmd : m ∣ n := Classical.byContradiction fun z => hm fun q => absurd q z
      have hm1 : m ≠ 1 := fun e => hm fun _ => .inl e
      have hmn : m ≠ n := fun e => hm fun _ => .inr e
      obtain ⟨q, rfl⟩ := hmd
      have hm0 : 0 < m := by
        rcases Nat.eq_zero_or_pos m with e | e
        · rw [e] at h0; simp at h0
        · exact e
      have hq0 : 0 < q := by
        rcases Nat.eq_zero_or_pos q with e | e
        · rw [e] at h0; simp at h0
        · exact e
      have hq1 : q ≠ 1 := fun e => hmn (by rw [e]; simp)
      have l1 : m < m * q := by
        have : m * 2 ≤ m * q := Nat.mul_le_mul_left m (by omega)
        omega
      have l2 : q < m * q := by
        have : 2 * q ≤ m * q := Nat.mul_le_mul_right q (by omega)
        omega
      have d1 := ih m (by omega) hm0 p u hp fun k => Int.dvd_trans (by rw [Int.natCast_mul]; exact Int.dvd_mul_right _ _) (hd k)
      have hu : ∀ k, co u k = (m : Int) * co (u.map (· / (m : Int))) k := fun k => by
        rw [co_map (by simp)]
        exact (Int.mul_ediv_cancel' (d1 k)).symm
      have d2 := ih q (by omega) hq0 p (u.map (· / (m : Int))) hp fun k => by
        have := hd k
        rw [mul_smul hu, Int.natCast_mul] at this
        exact (Int.mul_dvd_mul_iff_left (by omega)).mp this
      intro k
      rw [hu k, Int.natCast_mul]
      exact Int.mul_dvd_mul_left _ (d2 k)
end Pm
end

section
set_option Elab.async false
set_option linter.all false
set_option maxRecDepth 100000
set_option maxHeartbeats 1000000
/-! Pe: rests and common parts of polynomials, up to numbers: plain Lean. -/
namespace Pm
/-- the same but for numbers not 0 -/
def Sim (a b : P) : Prop := ∃ c d : Int, c ≠ 0 ∧ d ≠ 0 ∧ ∀ k, c * co a k = d * co b k
theorem Sim.refl {a : P} : Sim a a := ⟨1, 1, by decide, by decide, fun _ => rfl⟩
theorem Sim.symm {a b : P} (h : Sim a b) : Sim b a := let ⟨c, d, hc, hd, h⟩ := h; ⟨d, c, hd, hc, fun k => (h k).symm⟩
theorem Sim.trans {a b e : P} (h : Sim a b) (h2 : Sim b e) : Sim a e := by
  obtain ⟨c, d, hc, hd, h⟩ := h
  obtain ⟨c2, d2, hc2, hd2, h2⟩ := h2
  refine ⟨c2 * c, d * d2, Int.mul_ne_zero hc2 hc, Int.mul_ne_zero hd hd2, fun k => ?_⟩
  rw [Int.mul_assoc, h k, Int.mul_left_comm, h2 k, Int.mul_assoc]
theorem Sim.zero {a b : P} (h : Sim a b) {k : Nat} (e : co b k = 0) : co a k = 0 := by
  obtain ⟨c, d, hc, hd, h⟩ := h
  have := h k
  rw [e, Int.mul_zero] at this
  exact (Int.mul_eq_zero.mp this).resolve_left hc
theorem Sim.len {a b : P} (h : Sim a b) (ha : Tr a) (hb : Tr b) : a.length = b.length :=
  Nat.le_antisymm (len_le ha fun k hk => h.zero (co_ge hk)) (len_le hb fun k hk => h.symm.zero (co_ge hk))
theorem Sim.ne {a b : P} (h : Sim a b) (ha : Tr a) (hb : Tr b) (hn : a ≠ []) : b ≠ [] := fun e => by
  have := h.len ha hb
  rw [e] at this
  exact hn (List.length_eq_zero_iff.mp this)
/-- r is a less b's multiple at a's head, but for numbers -/
def El (a b r : P) : Prop := ∃ c d : Int, c ≠ 0 ∧ d ≠ 0 ∧ ∀ k, c * co r k = d * (ld b * co a k - ld a * sh (a.length - b.length) b k)
theorem El.zero {a b r : P} (h : El a b r) (hb : b ≠ []) (hl : b.length ≤ a.length) {k : Nat} (hk : a.length - 1 ≤ k) : co r k = 0 := by
  obtain ⟨c, d, hc, hd, h⟩ := h
  have hp := len_pos hb
  have e : ld b * co a k - ld a * sh (a.length - b.length) b k = 0 := by
    unfold sh
    rw [if_neg (by omega)]
    by_cases hk2 : k = a.length - 1
    · subst hk2
      rw [show a.length - 1 - (a.length - b.length) = b.length - 1 by omega]
      show ld b * ld a - ld a * ld b = 0
      rw [Int.mul_comm]; omega
    · rw [co_ge (a := a) (by omega), co_ge (a := b) (by omega)]; simp
  have := h k
  rw [e, Int.mul_zero] at this
  exact (Int.mul_eq_zero.mp this).resolve_left hc
theorem El.len {a b r : P} (h : El a b r) (hb : b ≠ []) (hl : b.length ≤ a.length) (hr : Tr r) : r.length < a.length := by
  have := len_pos hb
  have := len_le hr fun k hk => h.zero hb hl hk
  omega
theorem El_sim {a b r a' b' r' : P} (h : El a b r) (h' : El a' b' r') (ha : Tr a) (ha' : Tr a') (hb : Tr b) (hb' : Tr b') (sa : Sim a a') (sb : Sim b b') : Sim r r' := by
  have la := sa.len ha ha'
  have lb := sb.len hb hb'
  obtain ⟨c, d, hc, hd, h⟩ := h
  obtain ⟨c', d', hc', hd', h'⟩ := h'
  obtain ⟨c1, d1, hc1, hd1, s1⟩ := sa
  obtain ⟨c2, d2, hc2, hd2, s2⟩ := sb
  have sla : c1 * ld a = d1 * ld a' := by unfold ld; rw [la]; exact s1 _
  have slb : c2 * ld b = d2 * ld b' := by unfold ld; rw [lb]; exact s2 _
  have ss : ∀ k, c2 * sh (a.length - b.length) b k = d2 * sh (a'.length - b'.length) b' k := fun k => by
    unfold sh
    rw [la, lb]
    by_cases hk : k < a'.length - b'.length
    · rw [if_pos hk, if_pos hk]; simp
    · rw [if_neg hk, if_neg hk]; exact s2 _
  refine ⟨d' * (c1 * c2) * c, d * (d1 * d2) * c', Int.mul_ne_zero (Int.mul_ne_zero hd' (Int.mul_ne_zero hc1 hc2)) hc, Int.mul_ne_zero (Int.mul_ne_zero hd (Int.mul_ne_zero hd1 hd2)) hc', fun k => ?_⟩
  rw [Int.mul_assoc (d' * (c1 * c2)) c, h k, Int.mul_assoc (d * (d1 * d2)) c', h' k]
  have key : c1 * c2 * (ld b * co a k - ld a * sh (a.length - b.length) b k) = d1 * d2 * (ld b' * co a' k - ld a' * sh (a'.length - b'.length) b' k) := by
    have e1 : c1 * c2 * (ld b * co a k) = d1 * d2 * (ld b' * co a' k) := by
      rw [show c1 * c2 * (ld b * co a k) = (c2 * ld b) * (c1 * co a k) by simp only [Int.mul_comm, Int.mul_left_comm, Int.mul_assoc], slb, s1 k]
      simp only [Int.mul_comm, Int.mul_left_comm, Int.mul_assoc]
    have e2 : c1 * c2 * (ld a * sh (a.length - b.length) b k) = d1 * d2 * (ld a' * sh (a'.length - b'.length) b' k) := by
      rw [show c1 * c2 * (ld a * sh (a.length - b.length) b k) = (c1 * ld a) * (c2 * sh (a.length - b.length) b k) by simp only [Int.mul_comm, Int.mul_left_comm, Int.mul_assoc], sla, ss k]
      simp only [Int.mul_comm, Int.mul_left_comm, Int.mul_assoc]
    rw [Int.mul_sub, Int.mul_sub, e1, e2]
  rw [show d' * (c1 * c2) * (d * (ld b * co a k - ld a * sh (a.length - b.length) b k)) = d' * d * (c1 * c2 * (ld b * co a k - ld a * sh (a.length - b.length) b k)) by simp only [Int.mul_comm, Int.mul_left_comm, Int.mul_assoc], key]
  simp only [Int.mul_comm, Int.mul_left_comm, Int.mul_assoc]
inductive Rest (b : P) : P → P → Prop
  | done {a : P} : a.length < b.length → Rest b a a
  | step {a r s : P} : b.length ≤ a.length → El a b r → Tr r → Rest b r s → Rest b a s
theorem Rest.tr {b a s : P} (h : Rest b a s) : Tr a → Tr s := by
  induction h with
  | done _ => exact id
  | step _ _ hr _ ih => exact fun _ => ih hr
theorem Rest.lt {b a s : P} (h : Rest b a s) : s.length < b.length := by
  induction h with
  | done h => exact h
  | step _ _ _ _ ih => exact ih
theorem Rest_sim {b a s : P} (h : Rest b a s) : Tr a → Tr b → b ≠ [] → ∀ {b' a' s' : P}, Rest b' a' s' → Tr a' → Tr b' → Sim a a' → Sim b b' → Sim s s' := by
  induction h with
  | done hl =>
    intro ha hb hn b' a' s' h' ha' hb' sa sb
    cases h' with
    | done _ => exact sa
    | step hl' _ _ _ =>
      have := sa.len ha ha'
      have := sb.len hb hb'
      omega
  | step hl he hr _ ih =>
    intro ha hb hn b' a' s' h' ha' hb' sa sb
    cases h' with
    | done hl' =>
      have := sa.len ha ha'
      have := sb.len hb hb'
      omega
    | step hl' he' hr' h2 => exact ih hr hb hn h2 hr' hb' (El_sim he he' ha ha' hb hb' sa sb) sb
inductive Euc : P → P → P → Prop
  | done {a : P} : Euc a [] a
  | step {a b s t g : P} : b ≠ [] → Rest b a s → Sim s t → Tr t → Euc b t g → Euc a b g
theorem Euc.tr {a b g : P} (h : Euc a b g) : Tr a → Tr b → Tr g := by
  induction h with
  | done => exact fun h _ => h
  | step _ _ _ ht _ ih => exact fun _ hb => ih hb ht
theorem Euc.ne {a b g : P} (h : Euc a b g) : a ≠ [] ∨ b ≠ [] → g ≠ [] := by
  induction h with
  | done => exact fun h => h.elim id fun h => absurd rfl h
  | step hb _ _ _ _ ih => exact fun _ => ih (.inl hb)
theorem Euc_sim {a b g : P} (h : Euc a b g) : Tr a → Tr b → ∀ {a' b' g' : P}, Euc a' b' g' → Tr a' → Tr b' → Sim a a' → Sim b b' → Sim g g' := by
  induction h with
  | done =>
    intro ha hb a' b' g' h' ha' hb' sa sb
    cases h' with
    | done => exact sa
    | step hn _ _ _ _ => exact absurd (List.length_eq_zero_iff.mp (sb.len hb hb').symm) hn
  | step hn hr hs ht _ ih =>
    intro ha hb a' b' g' h' ha' hb' sa sb
    cases h' with
    | done => exact absurd (List.length_eq_zero_iff.mp (sb.len hb hb')) hn
    | step hn' hr' hs' ht' h2 => exact ih hb ht h2 hb' ht' sb ((hs.symm.trans (Rest_sim hr ha hb hn hr' ha' hb' sa sb)).trans hs')
theorem El_ex {a b : P} : ∃ r, Tr r ∧ El a b r := by
  refine ⟨trim (add (a.map (ld b * ·)) ((shL (a.length - b.length) b).map (-(ld a) * ·))), trim_tr _, 1, 1, by decide, by decide, fun k => ?_⟩
  rw [co_trim, co_add, co_map (by simp), co_map (by simp), co_sh, Int.neg_mul]
  omega
theorem Rest_ex {b : P} (hb : b ≠ []) : ∀ (n : Nat) (a : P), a.length ≤ n → Tr a → ∃ s, Rest b a s := by
  intro n
  induction n with
  | zero =>
    intro a h ha
    have := len_pos hb
    exact ⟨a, .done (by omega)⟩
  | succ n ih =>
    intro a h ha
    by_cases hl : a.length < b.length
    · exact ⟨a, .done hl⟩
    · obtain ⟨r, hr, he⟩ := El_ex (a := a) (b := b)
      have := he.len hb (by omega) hr
      obtain ⟨s, hs⟩ := ih r (by omega) hr
      exact ⟨s, .step (by omega) he hr hs⟩
theorem Euc_ex : ∀ (n : Nat) (a b : P), b.length ≤ n → Tr a → Tr b → ∃ g, Euc a b g := by
  intro n
  induction n with
  | zero =>
    intro a b h ha hb
    have : b = [] := List.length_eq_zero_iff.mp (by omega)
    subst this
    exact ⟨a, .done⟩
  | succ n ih =>
    intro a b h ha hb
    by_cases hn : b = []
    · subst hn; exact ⟨a, .done⟩
    · obtain ⟨s, hs⟩ := Rest_ex hn _ a (Nat.le_refl _) ha
      obtain ⟨g, hg⟩ := ih b s (by have := hs.lt; omega) hb (hs.tr ha)
      exact ⟨g, .step hn hs Sim.refl (hs.tr ha) hg⟩

/-! ### what the common part divides -/
def DvQ (p a : P) : Prop := ∃ c : Int, c ≠ 0 ∧ ∃ u, ∀ k, c * co a k = co (mul p u) k
theorem DvQ.self {p : P} : DvQ p p := ⟨1, by decide, [1], fun k => by rw [mul_one]; omega⟩
theorem DvQ.zero {p : P} : DvQ p [] := ⟨1, by decide, [], fun k => by rw [mul_nil]; simp⟩
theorem DvQ.sim {p a b : P} (h : DvQ p a) (s : Sim b a) : DvQ p b := by
  obtain ⟨c, hc, u, h⟩ := h
  obtain ⟨e, d, he, hd, s⟩ := s
  refine ⟨c * e, Int.mul_ne_zero hc he, u.map (d * ·), fun k => ?_⟩
  rw [Int.mul_assoc, s k, mul_smul (u := u.map (d * ·)) (v := u) (c := d) (fun k => by rw [co_map (by simp)]), ← h k, Int.mul_left_comm]
theorem DvQ.simL {p q a : P} (h : DvQ p a) (s : Sim p q) : DvQ q a := by
  obtain ⟨c, hc, u, h⟩ := h
  obtain ⟨e, d, he, hd, s⟩ := s
  refine ⟨e * c, Int.mul_ne_zero he hc, u.map (d * ·), fun k => ?_⟩
  have e1 : e * co (mul p u) k = d * co (mul q u) k := by
    rw [mul_comm p u, mul_comm q u]
    have h1 := mul_smul (p := u) (u := p.map (e * ·)) (v := p) (c := e) (fun k => by rw [co_map (by simp)]) k
    have h2 := mul_smul (p := u) (u := p.map (e * ·)) (v := q) (c := d) (fun k => by rw [co_map (by simp)]; exact s k) k
    rw [← h1, h2]
  rw [Int.mul_assoc, h k, e1, mul_smul (u := u.map (d * ·)) (v := u) (c := d) (fun k => by rw [co_map (by simp)])]
theorem DvQ.el {p a b r : P} (he : El a b r) (hb : ld b ≠ 0) (dr : DvQ p r) (db : DvQ p b) : DvQ p a := by
  obtain ⟨c, d, hc, hd, he⟩ := he
  obtain ⟨c1, hc1, u1, h1⟩ := dr
  obtain ⟨c2, hc2, u2, h2⟩ := db
  refine ⟨c1 * c2 * d * ld b, Int.mul_ne_zero (Int.mul_ne_zero (Int.mul_ne_zero hc1 hc2) hd) hb, add (u1.map (c2 * c * ·)) ((shL (a.length - b.length) u2).map (c1 * d * ld a * ·)), fun k => ?_⟩
  rw [mul_add (u := u1.map (c2 * c * ·)) (v := (shL (a.length - b.length) u2).map (c1 * d * ld a * ·)) (fun k => co_add _ _ _) k,
    mul_smul (u := u1.map (c2 * c * ·)) (v := u1) (c := c2 * c) (fun k => by rw [co_map (by simp)]),
    mul_smul (u := (shL (a.length - b.length) u2).map (c1 * d * ld a * ·)) (v := shL (a.length - b.length) u2) (c := c1 * d * ld a) (fun k => by rw [co_map (by simp)]), mul_sh, ← h1 k]
  have e2 : sh (a.length - b.length) (mul p u2) k = c2 * sh (a.length - b.length) b k := by
    unfold sh
    split
    · simp
    · exact (h2 _).symm
  rw [e2]
  have := he k
  have e3 : c2 * c * (c1 * co r k) = c1 * c2 * (c * co r k) := by simp only [Int.mul_comm, Int.mul_left_comm, Int.mul_assoc]
  have e4 : c1 * d * ld a * (c2 * sh (a.length - b.length) b k) = c1 * c2 * (d * (ld a * sh (a.length - b.length) b k)) := by simp only [Int.mul_comm, Int.mul_left_comm, Int.mul_assoc]
  rw [e3, e4, this, ← Int.mul_add, ← Int.mul_add]
  have e5 : ld b * co a k - ld a * sh (a.length - b.length) b k + ld a * sh (a.length - b.length) b k = ld b * co a k := by omega
  rw [e5]
  simp only [Int.mul_comm, Int.mul_left_comm, Int.mul_assoc]
theorem Rest.dv {b a s p : P} (h : Rest b a s) : ld b ≠ 0 → DvQ p b → DvQ p s → DvQ p a := by
  induction h with
  | done _ => exact fun _ _ h => h
  | step _ he _ _ ih => exact fun hb db ds => DvQ.el he hb (ih hb db ds) db
theorem Euc.dv {a b g : P} (h : Euc a b g) : Tr b → DvQ g a ∧ DvQ g b := by
  induction h with
  | done => exact fun _ => ⟨.self, .zero⟩
  | step hn hr hs ht _ ih =>
    intro hb
    obtain ⟨h1, h2⟩ := ih ht
    exact ⟨hr.dv (hb.ld hn) h1 (h2.sim hs), h1⟩
/-- a plain one divides in whole numbers -/
theorem exact_of {p a : P} (hp : Prim p) (h : DvQ p a) : ∃ u, Tr u ∧ ∀ k, co a k = co (mul p u) k := by
  obtain ⟨c, hc, u, h⟩ := h
  have hd : ∀ k, ((c.natAbs : Nat) : Int) ∣ co u k := gauss c.natAbs c.natAbs (Nat.le_refl _) (by omega) p u hp fun k => by
    rw [← h k]
    exact Int.dvd_trans (Int.natAbs_dvd.mpr (Int.dvd_refl c)) (Int.dvd_mul_right _ _)
  have hu : ∀ k, co u k = c * co (u.map (· / c)) k := fun k => by
    rw [co_map (by simp)]
    exact (Int.mul_ediv_cancel' (Int.natAbs_dvd.mp (hd k))).symm
  refine ⟨trim (u.map (· / c)), trim_tr _, fun k => ?_⟩
  have h1 := h k
  rw [mul_smul hu] at h1
  have h2 := Int.eq_of_mul_eq_mul_left hc h1
  rw [h2]
  exact mul_congr (fun k => (co_trim _ _).symm) k

/-! ### times a polynomial -/
theorem Sim.scale {a b : P} (p : P) (h : Sim a b) : Sim (mulT p a) (mulT p b) := by
  obtain ⟨c, d, hc, hd, h⟩ := h
  refine ⟨c, d, hc, hd, fun k => ?_⟩
  rw [co_mulT, co_mulT, ← mul_smul (u := a.map (c * ·)) (v := a) (c := c) (fun k => by rw [co_map (by simp)]),
    ← mul_smul (u := a.map (c * ·)) (v := b) (c := d) (fun k => by rw [co_map (by simp)]; exact h k)]
theorem mulT_nil {p : P} : mulT p [] = [] := trim_eq tr_nil fun k => mul_nil p k
theorem El.scale {a b r p : P} (hp : Tr p) (np : p ≠ []) (ha : Tr a) (na : a ≠ []) (hb : Tr b) (nb : b ≠ []) (h : El a b r) : El (mulT p a) (mulT p b) (mulT p r) := by
  obtain ⟨c, d, hc, hd, h⟩ := h
  have h1 := len_pos np
  have h2 := len_pos na
  have h3 := len_pos nb
  have el : (mulT p a).length - (mulT p b).length = a.length - b.length := by
    rw [mulT_len hp ha np na, mulT_len hp hb np nb]; omega
  refine ⟨c * ld p, d, Int.mul_ne_zero hc (hp.ld np), hd, fun k => ?_⟩
  rw [el, mulT_ld hp ha np na, mulT_ld hp hb np nb, co_mulT, co_mulT]
  have es : sh (a.length - b.length) (mulT p b) k = co (mul p (shL (a.length - b.length) b)) k := by
    rw [mul_sh]
    unfold sh
    split
    · rfl
    · exact co_mulT
  rw [es]
  -- c * r = d * (ld b * a - ld a * sh b), as lists
  have hw : ∀ k, co (r.map (c * ·)) k = co (add (a.map (d * ld b * ·)) ((shL (a.length - b.length) b).map (-(d * ld a) * ·))) k := fun k => by
    rw [co_add, co_map (by simp), co_map (by simp), co_map (by simp), co_sh, h k, Int.mul_sub, Int.neg_mul, Int.mul_assoc, Int.mul_assoc]
    omega
  have e1 : c * co (mul p r) k = d * ld b * co (mul p a) k + -(d * ld a) * co (mul p (shL (a.length - b.length) b)) k := by
    rw [← mul_smul (u := r.map (c * ·)) (v := r) (c := c) (fun k => by rw [co_map (by simp)]), mul_congr hw,
      mul_add (fun k => co_add _ _ _), mul_smul (u := a.map (d * ld b * ·)) (v := a) (c := d * ld b) (fun k => by rw [co_map (by simp)]),
      mul_smul (u := (shL (a.length - b.length) b).map (-(d * ld a) * ·)) (v := shL (a.length - b.length) b) (c := -(d * ld a)) (fun k => by rw [co_map (by simp)])]
  rw [show c * ld p * co (mul p r) k = ld p * (c * co (mul p r) k) by simp only [Int.mul_comm, Int.mul_left_comm, Int.mul_assoc], e1, Int.mul_add, Int.mul_sub, Int.neg_mul, Int.mul_neg]
  have e2 : ld p * (d * ld b * co (mul p a) k) = d * (ld p * ld b * co (mul p a) k) := by simp only [Int.mul_comm, Int.mul_left_comm, Int.mul_assoc]
  have e3 : ld p * (d * ld a * co (mul p (shL (a.length - b.length) b)) k) = d * (ld p * ld a * co (mul p (shL (a.length - b.length) b)) k) := by simp only [Int.mul_comm, Int.mul_left_comm, Int.mul_assoc]
  rw [e2, e3]
  omega
theorem Rest.scale {p b a s : P} (hp : Tr p) (np : p ≠ []) (hb : Tr b) (nb : b ≠ []) (h : Rest b a s) : Tr a → Rest (mulT p b) (mulT p a) (mulT p s) := by
  have h1 := len_pos np
  have h3 := len_pos nb
  induction h with
  | @done a hl =>
    intro ha
    refine .done ?_
    rw [mulT_len hp hb np nb]
    by_cases na : a = []
    · subst na; rw [mulT_nil, List.length_nil]; omega
    · rw [mulT_len hp ha np na]; omega
  | @step a r s hl he hr _ ih =>
    intro ha
    have na : a ≠ [] := fun e => by rw [e, List.length_nil] at hl; omega
    refine .step ?_ (he.scale hp np ha na hb nb) mulT_tr (ih hr)
    rw [mulT_len hp hb np nb, mulT_len hp ha np na]; omega
theorem Euc.scale {p a b g : P} (hp : Tr p) (np : p ≠ []) (h : Euc a b g) : Tr a → Tr b → Euc (mulT p a) (mulT p b) (mulT p g) := by
  induction h with
  | done => exact fun _ _ => by rw [mulT_nil]; exact .done
  | step nb hr hs ht _ ih => exact fun ha hb => .step (mulT_ne hp hb np nb) (hr.scale hp np hb nb ha) (hs.scale p) mulT_tr (ih hb ht)
/-- what is left when the common part is divided out has none -/
theorem coprime {p u v g0 g1 : P} (hp : Tr p) (np : p ≠ []) (hu : Tr u) (hv : Tr v) (nv : v ≠ []) (h0 : Euc (mulT p u) (mulT p v) g0) (hs : Sim g0 p) (h1 : Euc u v g1) : g1.length = 1 := by
  have hg1 := h1.tr hu hv
  have ng1 := h1.ne (.inr nv)
  have s := Euc_sim (h1.scale hp np hu hv) mulT_tr mulT_tr h0 mulT_tr mulT_tr Sim.refl Sim.refl
  have := (s.trans hs).len mulT_tr hp
  rw [mulT_len hp hg1 np ng1] at this
  have := len_pos np
  have := len_pos ng1
  omega
end Pm
end

section
set_option Elab.async false
set_option linter.all false
set_option maxRecDepth 100000
set_option maxHeartbeats 1000000
/-! Q0: mirrors run at data: ints. -/
namespace K82
open PySem (Str)
open V3
theorem divloop : ∀ (n : Nat) (x y : Nat), y ≤ n → whl (blE (op2 (cmpI fun i j => decide (j < i)) (var 1) (V3.ret (.int 0)))) (parS 0 1 (consA (var 1) (consA (op2 modD (var 0) (var 1)) (V3.ret [])))) [.im (.int x), .im (.int y)]
    = .ok .nx [.im (.int (Nat.gcd x y : Nat)), .im (.int 0)] := by
  intro n
  induction n with
  | zero =>
    intro x y h
    have : y = 0 := by omega
    subst this
    rw [whl_eq]
    simp [cmpI]
  | succ n ih =>
    intro x y h
    rw [whl_eq]
    by_cases hy : y = 0
    · subst hy
      simp [cmpI]
    · have hp : 0 < y := by omega
      have e : (x : Int).fmod y = ((x % y : Nat) : Int) := by
        rw [Int.fmod_eq_emod_of_nonneg _ (by omega)]; rfl
      have g : Nat.gcd y (x % y) = Nat.gcd x y := by
        rw [Nat.gcd_comm x y, Nat.gcd_rec y x, Nat.gcd_comm]
      have z := ih y (x % y) (by have := Nat.mod_lt x (by omega : y > 0); omega)
      rw [g] at z
      simp [cmpI, hp, modD, hy, e]
      exact z
theorem abs_eq (a : Int) : (if a < 0 then -a else a) = (a.natAbs : Int) := by split <;> omega
@[simp] theorem R_divisor_eq (a b : Int) : R_divisor [.int a, .int b] = .ok (.int (Int.gcd a b : Nat)) [] := by
  have z := divloop b.natAbs a.natAbs b.natAbs (Nat.le_refl _)
  simp [R_divisor, runD, m_divisor, absD, abs_eq]
  rw [z]
  simp [Int.gcd]
@[simp] theorem R__law_divisor_eq (a b : Int) : R__law_divisor [.int a, .int b] = .ok (.int (Int.gcd a b : Nat)) [] := by
  have z := divloop b.natAbs a.natAbs b.natAbs (Nat.le_refl _)
  simp [R__law_divisor, runD, m__law_divisor, absD, abs_eq]
  rw [z]
  simp [Int.gcd]
end K82
end

section
set_option Elab.async false
set_option linter.all false
set_option maxRecDepth 100000
set_option maxHeartbeats 1000000
/-! Q1: words for loops and comprehensions; ints' limits; lists of figures. -/
namespace K82
open PySem (Str sizeLine)
open V3 Pm
open L2 (ixN atI)
theorem line_big : 1000000 ≤ sizeLine := by decide
/-! limits -/
theorem log2_le {n k : Nat} (h : n < 2 ^ k) : n.log2 ≤ k := by
  by_cases h0 : n = 0
  · subst h0; simp
  · exact Nat.le_of_lt ((Nat.log2_lt h0).mpr h)
theorem mulOk_of {i j : Int} (hi : i.natAbs < 2 ^ 60000) (hj : j.natAbs < 2 ^ 60000) : mulOk i j = true := by
  unfold mulOk
  have h1 := log2_le hi
  have h2 := log2_le hj
  exact decide_eq_true (by omega)
theorem fdivOk_of {i j : Int} (h0 : j ≠ 0) (hj : j.natAbs < 2 ^ 9000) : fdivOk i j = true := by
  unfold fdivOk PySem.Builtin.divisionGoesByPylong
  have h2 : j.natAbs.log2 < 9000 := (Nat.log2_lt (by omega)).mpr hj
  have e : ((j == 0) = false) := by simpa using h0
  simp only [e]
  have : ¬ (j.natAbs.log2 / 30 + 1 > 300) := by omega
  simp [h0, this]
theorem fdivOk_of2 {i j : Int} (h0 : j ≠ 0) (hi : i.natAbs < 2 ^ 13500) : fdivOk i j = true := by
  unfold fdivOk PySem.Builtin.divisionGoesByPylong
  have e : ((j == 0) = false) := by simpa using h0
  have h2 : (if (i == 0) = true then 0 else i.natAbs.log2 / 30 + 1) ≤ 450 := by
    split
    · omega
    · rename_i hz
      have : i.natAbs.log2 < 13500 := (Nat.log2_lt (by simp at hz; omega)).mpr hi
      omega
  simp only [e]
  generalize (if (i == 0) = true then 0 else i.natAbs.log2 / 30 + 1) = q at h2 ⊢
  by_cases h3 : j.natAbs.log2 / 30 + 1 > 300
  · have : ¬ (q > j.natAbs.log2 / 30 + 1 + 150) := by omega
    simp [h0, this]
  · simp [h0, h3]
/-! indices -/
theorem ixN_nat {n k : Nat} (h : k < n) : ixN n (k : Int) = some k := by
  unfold ixN; rw [if_pos (by omega), if_pos (by omega)]; simp
theorem ixN_last {n : Nat} (h : 0 < n) : ixN n (-1) = some (n - 1) := by
  unfold ixN
  rw [if_neg (by decide), if_pos (by omega)]
  congr 1
  omega
theorem atI_nat {α : Type} {l : List α} {k : Nat} (h : k < l.length) : atI l (k : Int) = some l[k] := by
  unfold atI; rw [ixN_nat h, Option.bind_some, List.getElem?_eq_getElem h]
theorem atI_last' {α : Type} {l : List α} (h : 0 < l.length) : atI l (-1) = some (l[l.length - 1]'(by omega)) := by
  unfold atI; rw [ixN_last h, Option.bind_some, List.getElem?_eq_getElem (by omega)]
abbrev dP (a : P) : D := .tup (a.map .int)
abbrev dL (a : P) : D := .lst (a.map .int)
theorem atI_co {a : P} {k : Nat} (h : k < a.length) : atI (a.map D.int) (k : Int) = some (.int (co a k)) := by
  rw [atI_nat (by simpa using h), co_lt h]; simp
theorem atI_ld {a : P} (h : a ≠ []) : atI (a.map D.int) (-1) = some (.int (ld a)) := by
  have := len_pos h
  rw [atI_last' (by simpa using this)]
  unfold ld
  rw [co_lt (by omega)]
  simp
theorem lf_ints : ∀ a : P, D.lf.lfA (a.map .int) = true
  | [] => rfl
  | x :: a => by simp [lf_ints a]
@[simp] theorem lf_dP {a : P} : D.lf (dP a) = true := lf_ints a
/-! equality of data -/
theorem pyA_ints : ∀ a : P, D.pyA (a.map .int) = some (a.map PySem.PyData.int)
  | [] => rfl
  | x :: a => by simp [D.pyA, pyA_ints a, D.py]
theorem eqvAll_ints : ∀ a b : P, PySem.PyData.eqvAll (a.map .int) (b.map .int) = decide (a = b)
  | [], [] => by simp [PySem.PyData.eqvAll]
  | [], _ :: _ => by simp [PySem.PyData.eqvAll]
  | _ :: _, [] => by simp [PySem.PyData.eqvAll]
  | x :: a, y :: b => by
    simp only [List.map_cons, PySem.PyData.eqvAll, PySem.PyData.eqv, eqvAll_ints a b]
    by_cases h1 : x = y <;> by_cases h2 : a = b <;> simp [h1, h2]
@[simp] theorem eqD_int {a b : Int} : eqD (.int a) (.int b) = some (.bl (decide (a = b))) := by
  simp [eqD, D.py, PySem.SeqAt.shaped, PySem.PyData.canLay0, PySem.PyData.depth, PySem.PyData.eqv]
  by_cases h : a = b <;> simp [h]
@[simp] theorem neD_int {a b : Int} : neD (.int a) (.int b) = some (.bl (!decide (a = b))) := by
  simp [neD, D.py, PySem.SeqAt.shaped, PySem.PyData.canLay0, PySem.PyData.depth, PySem.PyData.eqv]
  by_cases h : a = b <;> simp [h]
/-! comprehensions -/
theorem lcL_pure {k : Nat} {el : Cm D} {f : D → D} {ρ : Ev} (hk : k < ρ.length) (hn : ∀ ds, ρ[k]? ≠ some (.ow ds)) : ∀ (ds acc : List D) (s : Sl), (∀ es, s ≠ .ow es) → (∀ d ∈ ds, el (ρ.set k (.im d)) = .ok (f d) (ρ.set k (.im d))) → acc.length + ds.length ≤ sizeLine →
    ∃ s', (∀ es, s' ≠ Sl.ow es) ∧ lcL [k] (setI k) (V3.ret true) el ds acc (ρ.set k s) = .ok (acc ++ ds.map f) (ρ.set k s')
  | [], acc, s, hs, _, _ => ⟨s, hs, by simp [lcL]⟩
  | d :: ds, acc, s, hs, h, hl => by
    obtain ⟨s', h1, h2⟩ := lcL_pure hk hn ds (acc ++ [f d]) (.im d) (fun _ z => by cases z) (fun e he => h e (List.mem_cons_of_mem _ he)) (by simp at hl ⊢; omega)
    refine ⟨s', h1, ?_⟩
    have hd := h d (List.mem_cons_self ..)
    have hlt : acc.length < sizeLine := by simp at hl; omega
    have g : (ρ.set k .un)[k]? = some .un := List.getElem?_set_self hk
    simp [lcL, List.getElem?_set_self hk, hd, hlt, h2]
theorem lcE_pure {k : Nat} {src : Cm (List D)} {el : Cm D} {f : D → D} {ρ ρ1 : Ev} {ds : List D} (hsrc : src ρ = .ok ds ρ1) (hk : k < ρ1.length) (hn : ∀ ds, ρ1[k]? ≠ some (.ow ds)) (h : ∀ d ∈ ds, el (ρ1.set k (.im d)) = .ok (f d) (ρ1.set k (.im d))) (hl : ds.length ≤ sizeLine) :
    lcE [k] src (setI k) (V3.ret true) el ρ = .ok (ds.map f) (ρ1.set k .un) := by
  have hno : noOw [k] ρ1 = true := by
    unfold noOw
    refine List.all_eq_true.mpr fun v hv => ?_
    rw [List.mem_singleton.mp hv]
    split
    · rename_i e; exact absurd e (hn _)
    · rfl
  have hself : ρ1 = ρ1.set k ρ1[k] := (List.set_getElem_self hk).symm
  obtain ⟨s', h1, h2⟩ := lcL_pure hk hn ds [] ρ1[k] (fun es z => hn es (by rw [List.getElem?_eq_getElem hk, z])) h (by simpa using hl)
  rw [← hself] at h2
  simp [lcE_ap, hsrc, hno, h2]
theorem intsD_map (lo : Int) (n : Nat) : intsD lo n = (List.range n).map fun i : Nat => D.int (lo + (i : Int)) := rfl
theorem small62 {n : Nat} (h : n ≤ 1000000) : -(2 ^ 62) ≤ (n : Int) ∧ (n : Int) < 2 ^ 62 := by
  have e : (2 : Int) ^ 62 = 4611686018427387904 := by decide
  rw [e]
  omega
@[simp] theorem rng1D_nat {n : Nat} (h : n ≤ 1000000) : rng1D [.int (n : Int)] = some (intsD 0 n) := by
  have e : rng1D [.int (n : Int)] = if -(2 ^ 62) ≤ (n : Int) ∧ (n : Int) < 2 ^ 62 then some (intsD 0 (n : Int).toNat) else none := by
    unfold rng1D
    with_reducible rfl
  rw [e, if_pos (small62 h), Int.toNat_natCast]
theorem bnd_ok {α β : Type} {f : Cm α} {g : α → Cm β} {a : α} {ρ ρ' : Ev} (h : f ρ = .ok a ρ') : bnd f g ρ = g a ρ' := by unfold bnd; rw [h]
theorem lift_some {α : Type} {o : Option α} {a : α} {ρ : Ev} (h : o = some a) : lift o ρ = .ok a ρ := by rw [h]; rfl
theorem rng1S_of {F : Cm (List D)} {ρ ρ1 : Ev} {n : Nat} (hF : F ρ = .ok [.int (n : Int)] ρ1) (h : n ≤ 1000000) : rng1S F ρ = .ok (intsD 0 n) ρ1 :=
  (bnd_ok hF).trans (lift_some (rng1D_nat h))
theorem thenS_ok {a b : Cm Fl} {ρ ρ' : Ev} (h : a ρ = .ok .nx ρ') : thenS a b ρ = b ρ' := by
  unfold thenS bnd
  rw [h]
theorem run_of {np N : Nat} {m : Cm Fl} {ds : List D} {ρ ρ' : Ev} {d : D} (hl : ds.length = np) (e : ds.map Sl.im ++ List.replicate (N - np) .un = ρ) (h : m ρ = .ok (.rt d) ρ') : runD np N m ds = .ok d [] := by
  unfold runD
  rw [if_pos hl, e, h]
  rfl
theorem run_exc {np N : Nat} {m : Cm Fl} {ds : List D} {ρ ρ' : Ev} {n : Str} (hl : ds.length = np) (e : ds.map Sl.im ++ List.replicate (N - np) .un = ρ) (h : m ρ = .exc n ρ') : runD np N m ds = .exc n [] := by
  unfold runD
  rw [if_pos hl, e, h]
theorem asgS_ok {k : Nat} {f : Cm D} {d : D} {ρ ρ1 ρ2 : Ev} (h : f ρ = .ok d ρ1) (hs : setI k d ρ1 = .ok () ρ2) : asgS k f ρ = .ok .nx ρ2 := by
  unfold asgS
  rw [bnd_ok h, bnd_ok hs]
  rfl
theorem retS_ok {f : Cm D} {d : D} {ρ ρ1 : Ev} (h : f ρ = .ok d ρ1) : retS f ρ = .ok (.rt d) ρ1 := by
  unfold retS
  rw [bnd_ok h]
  rfl
theorem lsE_ok {f : Cm (List D)} {ds : List D} {ρ ρ1 : Ev} (h : f ρ = .ok ds ρ1) : lsE f ρ = .ok (.lst ds) ρ1 := by
  unfold lsE
  rw [bnd_ok h]
  rfl
/-- a call with one given argument -/
theorem call1 {R : List D → Rs D} {f : Cm D} {d z : D} {ρ ρ1 : Ev} (h : f ρ = .ok d ρ1) (hR : R [d] = .ok z []) : callA R (consG (vl f) (V3.ret [])) ρ = .ok z ρ1 := by
  simp [h, hR]
theorem call2 {R : List D → Rs D} {f g : Cm D} {d e z : D} {ρ ρ1 ρ2 : Ev} (h : f ρ = .ok d ρ1) (h2 : g ρ1 = .ok e ρ2) (hR : R [d, e] = .ok z []) : callA R (consG (vl f) (consG (vl g) (V3.ret []))) ρ = .ok z ρ2 := by
  simp [h, h2, hR]
theorem opA1 {g : List D → Option D} {f : Cm D} {d z : D} {ρ ρ1 : Ev} (h : f ρ = .ok d ρ1) (hg : g [d] = some z) : opA g (consG (vl f) (V3.ret [])) ρ = .ok z ρ1 := by
  simp [h, hg]
theorem lcT {k : Nat} {el : Cm D} {f : D → D} {ρ : Ev} {ds : List D} (h0 : ρ[0]? = some (.im (.tup ds))) (hk : k < ρ.length) (hn : ∀ ds, ρ[k]? ≠ some (.ow ds)) (h : ∀ d ∈ ds, el (ρ.set k (.im d)) = .ok (f d) (ρ.set k (.im d))) (hl : ds.length ≤ sizeLine) :
    lcE [k] (tupS (var 0)) (setI k) (V3.ret true) el ρ = .ok (ds.map f) (ρ.set k .un) :=
  lcE_pure (by simp [h0]) hk hn h hl
theorem tupS_ok {f : Cm D} {ds : List D} {ρ ρ1 : Ev} (h : f ρ = .ok (.tup ds) ρ1) : tupS f ρ = .ok ds ρ1 := by
  unfold tupS
  rw [bnd_ok h]
  rfl
theorem lstS_ok {f : Cm D} {ds : List D} {ρ ρ1 : Ev} (h : f ρ = .ok (.lst ds) ρ1) : lstS f ρ = .ok ds ρ1 := by
  unfold lstS
  rw [bnd_ok h]
  rfl
theorem forS_ok {src : Cm (List D)} {s : D → Cm Unit} {b : Cm Fl} {ds : List D} {ρ ρ1 : Ev} (h : src ρ = .ok ds ρ1) : forS src s b ρ = forL s b ds ρ1 := by
  unfold forS
  rw [bnd_ok h]
theorem thenS_rt {a b : Cm Fl} {d : D} {ρ ρ' : Ev} (h : a ρ = .ok (.rt d) ρ') : thenS a b ρ = .ok (.rt d) ρ' := by
  unfold thenS bnd
  rw [h]
  rfl
theorem thenS_exc {a b : Cm Fl} {n : Str} {ρ ρ' : Ev} (h : a ρ = .exc n ρ') : thenS a b ρ = .exc n ρ' := by
  unfold thenS bnd
  rw [h]
theorem ifE_t {α : Type} {c : Cm Bool} {a b : Cm α} {ρ ρ' : Ev} (h : c ρ = .ok true ρ') : ifE c a b ρ = a ρ' := by
  unfold ifE bnd
  rw [h]
  rfl
theorem ifE_f {α : Type} {c : Cm Bool} {a b : Cm α} {ρ ρ' : Ev} (h : c ρ = .ok false ρ') : ifE c a b ρ = b ρ' := by
  unfold ifE bnd
  rw [h]
  rfl
theorem blE_ok {f : Cm D} {k : Bool} {ρ ρ' : Ev} (h : f ρ = .ok (.bl k) ρ') : blE f ρ = .ok k ρ' := by
  unfold blE
  rw [bnd_ok h]
  rfl
theorem op2_ok {g : D → D → Option D} {f f2 : Cm D} {d e z : D} {ρ ρ1 ρ2 : Ev} (h : f ρ = .ok d ρ1) (h2 : f2 ρ1 = .ok e ρ2) (hg : g d e = some z) : op2 g f f2 ρ = .ok z ρ2 := by
  unfold op2
  rw [bnd_ok h, bnd_ok h2]
  exact lift_some hg
theorem op1_ok {g : D → Option D} {f : Cm D} {d z : D} {ρ ρ1 : Ev} (h : f ρ = .ok d ρ1) (hg : g d = some z) : op1 g f ρ = .ok z ρ1 := by
  unfold op1
  rw [bnd_ok h]
  exact lift_some hg
theorem parS_ok {i j : Nat} {F : Cm (List D)} {d e : D} {ρ ρ1 ρ2 ρ3 : Ev} (h : F ρ = .ok [d, e] ρ1) (h1 : setI i d ρ1 = .ok () ρ2) (h2 : setI j e ρ2 = .ok () ρ3) : parS i j F ρ = .ok .nx ρ3 := by
  unfold parS
  rw [bnd_ok h]
  show bnd _ _ _ = _
  rw [bnd_ok h1, bnd_ok h2]
  rfl
theorem consA_ok {f : Cm D} {F : Cm (List D)} {d : D} {ds : List D} {ρ ρ1 ρ2 : Ev} (h : f ρ = .ok d ρ1) (h2 : F ρ1 = .ok ds ρ2) : consA f F ρ = .ok (d :: ds) ρ2 := by
  unfold consA
  rw [bnd_ok h, bnd_ok h2]
  rfl
theorem tupE_ok {F : Cm (List D)} {ds : List D} {ρ ρ1 : Ev} (h : F ρ = .ok ds ρ1) (hl : ds.length ≤ sizeLine) : tupE F ρ = .ok (.tup ds) ρ1 := by
  unfold tupE
  rw [bnd_ok h]
  exact lift_some (if_pos hl)
/-- equal tuples of ints -/
theorem canLay_ints : ∀ a : P, PySem.PyData.canLayAll0 (a.map PySem.PyData.int) = true
  | [] => by simp [PySem.PyData.canLayAll0]
  | x :: a => by simp [PySem.PyData.canLayAll0, PySem.PyData.canLay0, canLay_ints a]
theorem depth_ints : ∀ a : P, PySem.PyData.depthAll (a.map PySem.PyData.int) ≤ 1
  | [] => by simp [PySem.PyData.depthAll]
  | x :: a => by
    have := depth_ints a
    simp [PySem.PyData.depthAll, PySem.PyData.depth]
    omega
theorem shaped_dP (a : P) : PySem.SeqAt.shaped (.tuple (a.map .int)) = true := by
  have := depth_ints a
  simp [PySem.SeqAt.shaped, PySem.PyData.canLay0, PySem.PyData.depth, canLay_ints]
  omega
theorem eqD_dP (a b : P) : eqD (dP a) (dP b) = some (.bl (decide (a = b))) := by
  simp [eqD, D.py, pyA_ints, shaped_dP, PySem.PyData.eqv, eqvAll_ints]
theorem neD_dP (a b : P) : neD (dP a) (dP b) = some (.bl (!decide (a = b))) := by
  simp [neD, D.py, pyA_ints, shaped_dP, PySem.PyData.eqv, eqvAll_ints]
end K82
end

section
set_option Elab.async false
set_option linter.all false
set_option maxRecDepth 100000
set_option maxHeartbeats 1000000
/-! Q2: the figures' functions at data. -/
namespace K82
open PySem (Str sizeLine)
open V3 Pm
open L2 (ixN atI)
/-! cutting the heads that are 0 -/
theorem cutloop {a : P} {i j : Nat} {rest : Ev} : ∀ (n : Nat), n ≤ a.length → (∀ k, n ≤ k → co a k = 0) →
    whl (andT (blE (op2 (cmpI fun i j => decide (j < i)) (var 1) (V3.ret (.int 0)))) (blE (op2 eqD (op2 ixD (var 0) (op2 subD (var 1) (V3.ret (.int 1)))) (V3.ret (.int 0))))) (asgS 1 (op2 subD (var 1) (V3.ret (.int 1)))) [.im (dL a), .im (.int n)]
      = .ok .nx [.im (dL a), .im (.int (trim a).length)] := by
  intro n
  induction n with
  | zero =>
    intro _ h
    have e : (trim a).length = 0 := len_eq (trim_tr a) (fun k hk => by rw [co_trim]; exact h k hk) (.inl rfl)
    rw [whl_eq]
    simp [cmpI, e]
  | succ n ih =>
    intro hl h
    rw [whl_eq]
    have hat := atI_co (a := a) (k := n) (by omega)
    by_cases hz : co a n = 0
    · have z := ih (by omega) fun k hk => by
        by_cases e : k = n
        · rw [e]; exact hz
        · exact h k (by omega)
      have e1 : ((n : Int) + 1 - 1) = n := by omega
      have e2 : (0 : Int) < (n : Int) + 1 := by omega
      simp [cmpI, ixD, subD, e1, e2, hat, hz]
      exact z
    · have e : (trim a).length = n + 1 := len_eq (trim_tr a) (fun k hk => by rw [co_trim]; exact h k hk) (.inr (by rw [co_trim]; exact hz))
      have e1 : ((n : Int) + 1 - 1) = n := by omega
      have e2 : (0 : Int) < (n : Int) + 1 := by omega
      simp [cmpI, ixD, subD, e1, e2, hat, hz, e]
theorem cutD_take {ds : List D} {n : Nat} (h : n ≤ ds.length) : cutD ds none (some (n : Int)) = ds.take n := by
  unfold cutD
  rw [HT.sIx_none, HT.sIx_nat]
  simp [Nat.min_eq_left h]
@[simp] theorem R_poly_eq (a : P) : R_poly [dL a] = .ok (dP (trim a)) [] := by
  have z := cutloop (a := a) (i := 0) (j := 0) (rest := []) a.length (Nat.le_refl _) fun k hk => co_ge hk
  have h := trim_len a
  have e : cutD (a.map D.int) none (some ((trim a).length : Int)) = (trim a).map D.int := by
    rw [cutD_take (by simpa using h), ← List.map_take, trim_take]
  simp [R_poly, runD, m_poly, lenD] at z ⊢
  rw [z]
  simp [slD, e, tupleD]
theorem cutloop' {a : P} : ∀ (n : Nat), n ≤ a.length → (∀ k, n ≤ k → co a k = 0) →
    whl (andT (blE (op2 (cmpI fun i j => decide (j < i)) (var 1) (V3.ret (.int 0)))) (blE (op2 eqD (op2 ixD (var 0) (op2 subD (var 1) (V3.ret (.int 1)))) (V3.ret (.int 0))))) (augN 1 (fun i j => i - j) (V3.ret (.int 1))) [.im (dL a), .im (.int n)]
      = .ok .nx [.im (dL a), .im (.int (trim a).length)] := by
  intro n
  induction n with
  | zero =>
    intro _ h
    have e : (trim a).length = 0 := len_eq (trim_tr a) (fun k hk => by rw [co_trim]; exact h k hk) (.inl rfl)
    rw [whl_eq]
    simp [cmpI, e]
  | succ n ih =>
    intro hl h
    rw [whl_eq]
    have hat := atI_co (a := a) (k := n) (by omega)
    by_cases hz : co a n = 0
    · have z := ih (by omega) fun k hk => by
        by_cases e : k = n
        · rw [e]; exact hz
        · exact h k (by omega)
      have e1 : ((n : Int) + 1 - 1) = n := by omega
      have e2 : (0 : Int) < (n : Int) + 1 := by omega
      simp [cmpI, ixD, subD, e1, e2, hat, hz]
      exact z
    · have e : (trim a).length = n + 1 := len_eq (trim_tr a) (fun k hk => by rw [co_trim]; exact h k hk) (.inr (by rw [co_trim]; exact hz))
      have e1 : ((n : Int) + 1 - 1) = n := by omega
      have e2 : (0 : Int) < (n : Int) + 1 := by omega
      simp [cmpI, ixD, subD, e1, e2, hat, hz, e]
@[simp] theorem R__law_cut_eq (a : P) : R__law_cut [dL a] = .ok (dP (trim a)) [] := by
  have z := cutloop' (a := a) a.length (Nat.le_refl _) fun k hk => co_ge hk
  have h := trim_len a
  have e : cutD (a.map D.int) none (some ((trim a).length : Int)) = (trim a).map D.int := by
    rw [cutD_take (by simpa using h), ← List.map_take, trim_take]
  simp [R__law_cut, runD, m__law_cut, lenD] at z ⊢
  rw [z]
  simp [slD, e, tupleD]
theorem R_figure_at_eq (a : P) (k : Nat) : R_figure_at [dP a, .int k] = .ok (.int (co a k)) [] := by
  by_cases h : k < a.length
  · simp [R_figure_at, runD, m_figure_at, lenD, cmpI, h, ixD, atI_co h]
  · simp [R_figure_at, runD, m_figure_at, lenD, cmpI, h, co_ge (Nat.le_of_not_lt h)]
/-- the table of f below n, cut -/
def tab (n : Nat) (f : Nat → Int) : P := (List.range n).map f
theorem map_tab {n : Nat} {f : Nat → Int} {g : D → D} (h : ∀ i : Nat, i < n → g (.int i) = .int (f i)) : (intsD 0 n).map g = (tab n f).map D.int := by
  unfold intsD tab
  rw [List.map_map, List.map_map]
  apply List.map_congr_left
  intro i hi
  simp
  exact h i (List.mem_range.mp hi)
def maxN (a b : P) : Nat := max a.length b.length
def minusP (a b : P) : P := trim (tab (maxN a b) fun k => co a k - co b k)
@[simp] theorem max_eq (a b : Nat) : (if a < b then (b : Int) else (a : Int)) = ((max a b : Nat) : Int) := by split <;> omega
theorem poly_fin {c : Cm (List D)} {ρ ρ' : Ev} {t : P} (z : c ρ = .ok (t.map D.int) ρ') : retS (callA R_poly (consG (vl (lsE c)) (V3.ret []))) ρ = .ok (.rt (dP (trim t))) ρ' := by simp [z]
theorem R_poly_minus_eq {a b : P} (ha : a.length ≤ 1000) (hb : b.length ≤ 1000) : R_poly_minus [dP a, dP b] = .ok (dP (minusP a b)) [] := by
  have hm : maxN a b ≤ 1000 := by unfold maxN; omega
  have hline := line_big
  let f : D → D := fun d => match d with | .int i => .int (co a i.toNat - co b i.toNat) | d => d
  have hel : ∀ d ∈ intsD 0 (maxN a b), (op2 subD (callA R_figure_at (consG (vl (var 0)) (consG (vl (var 3)) (V3.ret [])))) (callA R_figure_at (consG (vl (var 1)) (consG (vl (var 3)) (V3.ret []))))) ([Sl.im (dP a), .im (dP b), .im (.int (maxN a b)), .un].set 3 (.im d)) = .ok (f d) ([Sl.im (dP a), .im (dP b), .im (.int (maxN a b)), .un].set 3 (.im d)) := fun d hd => by
    obtain ⟨i, hi, rfl⟩ := List.mem_map.mp hd
    have e1 := R_figure_at_eq a i
    have e2 := R_figure_at_eq b i
    simp [e1, e2, subD, f]
  have z := lcE_pure (k := 3) (ρ := [Sl.im (dP a), .im (dP b), .im (.int (maxN a b)), .un]) (src := rng1S (consA (var 2) (V3.ret []))) (ds := intsD 0 (maxN a b)) (rng1S_of (by simp) (by omega)) (by simp) (fun ds z => by simp at z) hel (by simp [intsD]; omega)
  have em : (intsD 0 (maxN a b)).map f = (tab (maxN a b) fun k => co a k - co b k).map D.int := map_tab fun i hi => by simp [f]
  rw [em] at z
  refine run_of (ρ := [.im (dP a), .im (dP b), .un, .un]) rfl rfl (ρ' := [Sl.im (dP a), .im (dP b), .im (.int (maxN a b)), .un].set 3 .un) ?_
  have s1 : (asgS 2 (opA maxD (consG (vl (opA lenD (consG (vl (var 0)) (V3.ret [])))) (consG (vl (opA lenD (consG (vl (var 1)) (V3.ret [])))) (V3.ret []))))) [Sl.im (dP a), .im (dP b), .un, .un] = .ok .nx [Sl.im (dP a), .im (dP b), .im (.int (maxN a b)), .un] := by
    simp [lenD, maxD, maxN]
  unfold m_poly_minus
  rw [thenS_ok s1]
  exact poly_fin z
theorem len_line {n : Nat} (h : n ≤ 1000) : n ≤ sizeLine := Nat.le_trans (Nat.le_trans h (by decide)) line_big
/-! times a number, over a number -/
def scaledP (a : P) (t : Int) : P := trim (a.map (· * t))
theorem R_scaled_eq {a : P} {t : Int} (hl : a.length ≤ 1000) (hm : ∀ x ∈ a, mulOk x t = true) : R_scaled [dP a, .int t] = .ok (dP (scaledP a t)) [] := by
  let f : D → D := fun d => match d with | .int i => .int (i * t) | d => d
  have z := lcT (k := 2) (ρ := [.im (dP a), .im (.int t), .un]) (el := op2 mulD (var 2) (var 1)) (f := f) (ds := a.map .int) rfl (by simp) (fun ds z => by simp at z) (fun d hd => by
    obtain ⟨i, hi, rfl⟩ := List.mem_map.mp hd
    simp [mulD, hm i hi, f]) (by rw [List.length_map]; exact len_line hl)
  have em : (a.map D.int).map f = (a.map (· * t)).map D.int := by rw [List.map_map, List.map_map]; rfl
  rw [em] at z
  exact run_of rfl rfl (poly_fin z)
def partedP (a : P) (t : Int) : P := a.map (Int.fdiv · t)
theorem R_parted_eq {a : P} {t : Int} (hl : a.length ≤ 1000) (hm : ∀ x ∈ a, fdivOk x t = true) : R_parted [dP a, .int t] = .ok (dP (partedP a t)) [] := by
  let f : D → D := fun d => match d with | .int i => .int (i.fdiv t) | d => d
  have z := lcT (k := 2) (ρ := [.im (dP a), .im (.int t), .un]) (el := op2 fdivD (var 2) (var 1)) (f := f) (ds := a.map .int) rfl (by simp) (fun ds z => by simp at z) (fun d hd => by
    obtain ⟨i, hi, rfl⟩ := List.mem_map.mp hd
    simp [fdivD, hm i hi, f]) (by rw [List.length_map]; exact len_line hl)
  have em : (a.map D.int).map f = (partedP a t).map D.int := by unfold partedP; rw [List.map_map, List.map_map]; rfl
  rw [em] at z
  exact run_of rfl rfl (retS_ok (opA1 (lsE_ok z) rfl))
/-! content -/
def contentP (a : P) : Nat := a.foldl (fun g x => Int.gcd g x) 0
theorem contloop {A : Sl} : ∀ (l : P) (g : Nat) (s : Sl), (∀ es, s ≠ .ow es) →
    ∃ s', forL (setI 2) (asgS 1 (callA R_divisor (consG (vl (var 1)) (consG (vl (var 2)) (V3.ret []))))) (l.map .int) [A, .im (.int (g : Int)), s] = .ok .nx [A, .im (.int ((l.foldl (fun g x => Int.gcd g x) g : Nat) : Int)), s']
  | [], g, s, _ => ⟨s, rfl⟩
  | x :: l, g, s, hs => by
    obtain ⟨s', h⟩ := contloop (A := A) l (Int.gcd g x) (.im (.int x)) (fun _ z => by cases z)
    refine ⟨s', ?_⟩
    have e1 : setI 2 (.int x) [A, .im (.int (g : Int)), s] = .ok () [A, .im (.int (g : Int)), .im (.int x)] := by
      cases s <;> first | rfl | exact absurd rfl (hs _)
    have e2 : asgS 1 (callA R_divisor (consG (vl (var 1)) (consG (vl (var 2)) (V3.ret [])))) [A, .im (.int (g : Int)), .im (.int x)] = .ok .nx [A, .im (.int ((Int.gcd g x : Nat) : Int)), .im (.int x)] :=
      asgS_ok (call2 rfl rfl (R_divisor_eq _ _)) rfl
    show aft (setI 2 (.int x)) (bnd _ _) _ = _
    unfold aft
    rw [e1]
    show bnd _ _ _ = _
    rw [bnd_ok e2]
    exact h
theorem R_content_eq (a : P) : R_content [dP a] = .ok (.int (contentP a)) [] := by
  obtain ⟨s', h⟩ := contloop (A := .im (dP a)) a 0 .un (fun _ z => by cases z)
  refine run_of rfl rfl (ρ' := [.im (dP a), .im (.int (contentP a)), s']) ?_
  have s1 : asgS 1 (V3.ret (.int 0)) [Sl.im (dP a), .un, .un] = .ok .nx [Sl.im (dP a), .im (.int 0), .un] := rfl
  refine (thenS_ok s1).trans ?_
  have s2 : forS (tupS (var 0)) (setI 2) (asgS 1 (callA R_divisor (consG (vl (var 1)) (consG (vl (var 2)) (V3.ret []))))) [Sl.im (dP a), .im (.int 0), .un] = .ok .nx [.im (dP a), .im (.int (contentP a)), s'] :=
    (forS_ok (tupS_ok rfl)).trans h
  exact (thenS_ok s2).trans rfl
end K82
end

section
set_option Elab.async false
set_option linter.all false
set_option maxRecDepth 100000
set_option maxHeartbeats 1000000
/-! Q3: raised, plain, a head taken out. -/
namespace K82
open PySem (Str sizeLine)
open V3 Pm
open L2 (ixN atI)
theorem flat_one (n : Nat) : (List.replicate n [D.int 0]).flatten = (List.replicate n (0 : Int)).map D.int := by
  induction n with
  | zero => rfl
  | succ n ih => rw [List.replicate_succ, List.replicate_succ, List.flatten_cons, ih]; rfl
theorem mulD_zeros {n : Nat} (h : n ≤ 1000) : mulD (.tup [.int 0]) (.int (n : Int)) = some (dP (List.replicate n 0)) := by
  show (if -1000 ≤ (n : Int) ∧ (n : Int) ≤ 1000 ∧ [D.int 0].length ≤ 1000 then some (D.tup (List.replicate (n : Int).toNat [D.int 0]).flatten) else none) = _
  rw [if_pos ⟨by omega, by omega, by decide⟩, Int.toNat_natCast, flat_one]
theorem addD_dP {a b : P} (h : a.length + b.length ≤ 100000) : addD (dP a) (dP b) = some (dP (a ++ b)) := by
  show (if (a.map D.int).length + (b.map D.int).length ≤ sizeLine then some (D.tup (a.map D.int ++ b.map D.int)) else none) = _
  rw [if_pos (by have := line_big; rw [List.length_map, List.length_map]; omega), ← List.map_append]
def raisedP (a : P) (n : Nat) : P := if a = [] then [] else shL n a
theorem R_raised_eq {a : P} {n : Nat} (hl : a.length ≤ 1000) (hn : n ≤ 1000) : R_raised [dP a, .int (n : Int)] = .ok (dP (raisedP a n)) [] := by
  have t0 : ∀ ρ, tupE (V3.ret []) ρ = .ok (dP []) ρ := fun ρ => tupE_ok rfl (Nat.zero_le _)
  have c : blE (op2 neD (var 0) (tupE (V3.ret []))) [Sl.im (dP a), .im (.int (n : Int))] = .ok (!decide (a = [])) [Sl.im (dP a), .im (.int (n : Int))] :=
    blE_ok (op2_ok rfl (t0 _) (neD_dP a []))
  refine run_of (ρ := [.im (dP a), .im (.int (n : Int))]) rfl rfl (ρ' := [.im (dP a), .im (.int (n : Int))]) (retS_ok ?_)
  by_cases ha : a = []
  · rw [decide_eq_true ha] at c
    rw [ifE_f c, t0]
    unfold raisedP
    rw [if_pos ha]
  · rw [decide_eq_false ha] at c
    refine (ifE_t c).trans (op2_ok (op2_ok (tupE_ok (consA_ok rfl rfl) (by decide)) rfl (mulD_zeros hn)) rfl ?_)
    rw [addD_dP (by rw [List.length_replicate]; omega)]
    unfold raisedP shL
    rw [if_neg ha]
theorem ixLast {a : P} (h : a ≠ []) {i : Nat} {ρ : Ev} (hi : ρ[i]? = some (.im (dP a))) : op2 ixD (var i) (op1 negD (V3.ret (.int 1))) ρ = .ok (.int (ld a)) ρ := by
  refine op2_ok (ρ1 := ρ) (d := dP a) (by unfold var; rw [hi]) (op1_ok rfl rfl) ?_
  show atI (a.map D.int) (-1) = _
  exact atI_ld h
def plainP (a : P) : P := if a = [] then [] else partedP a (if 0 < ld a then (contentP a : Int) else -(contentP a : Int))
theorem R_plain_eq {a : P} (hl : a.length ≤ 1000) (hm : ∀ x ∈ a, fdivOk x (contentP a) = true ∧ fdivOk x (-(contentP a : Int)) = true) : R_plain [dP a] = .ok (dP (plainP a)) [] := by
  have t0 : ∀ ρ, tupE (V3.ret []) ρ = .ok (dP []) ρ := fun ρ => tupE_ok rfl (Nat.zero_le _)
  have c : blE (op2 eqD (var 0) (tupE (V3.ret []))) [Sl.im (dP a), .un] = .ok (decide (a = [])) [Sl.im (dP a), .un] :=
    blE_ok (op2_ok rfl (t0 _) (eqD_dP a []))
  by_cases ha : a = []
  · rw [decide_eq_true ha] at c
    refine run_of (ρ := [.im (dP a), .un]) rfl rfl (ρ' := [.im (dP a), .un]) (thenS_rt ((ifE_t c).trans (retS_ok ?_)))
    rw [t0]
    unfold plainP
    rw [if_pos ha]
  · rw [decide_eq_false ha] at c
    have s2 : asgS 1 (callA R_content (consG (vl (var 0)) (V3.ret []))) [Sl.im (dP a), .un] = .ok .nx [Sl.im (dP a), .im (.int (contentP a))] := asgS_ok (call1 rfl (R_content_eq a)) rfl
    refine run_of (ρ := [.im (dP a), .un]) rfl rfl (ρ' := [.im (dP a), .im (.int (contentP a))]) ((thenS_ok (ifE_f c)).trans ((thenS_ok s2).trans (retS_ok ?_)))
    have c2 : blE (op2 (cmpI fun i j => decide (j < i)) (op2 ixD (var 0) (op1 negD (V3.ret (.int 1)))) (V3.ret (.int 0))) [Sl.im (dP a), .im (.int (contentP a))] = .ok (decide (0 < ld a)) [Sl.im (dP a), .im (.int (contentP a))] :=
      blE_ok (op2_ok (ixLast ha rfl) rfl rfl)
    unfold plainP
    rw [if_neg ha]
    by_cases hp : 0 < ld a
    · rw [decide_eq_true hp] at c2
      rw [if_pos hp]
      exact call2 rfl ((ifE_t c2).trans rfl) (R_parted_eq hl fun x hx => (hm x hx).1)
    · rw [decide_eq_false hp] at c2
      rw [if_neg hp]
      exact call2 rfl ((ifE_f c2).trans (op1_ok rfl rfl)) (R_parted_eq hl fun x hx => (hm x hx).2)
/-! one head taken out -/
def oft (a b : P) : Int := (ld b).fdiv (Int.gcd (ld a) (ld b) : Nat)
def hea (a b : P) : Int := (ld a).fdiv (Int.gcd (ld a) (ld b) : Nat)
def oft2 (a b : P) : Int := if oft a b < 0 then -oft a b else oft a b
def hea2 (a b : P) : Int := if oft a b < 0 then -hea a b else hea a b
def elP (a b : P) : P := minusP (scaledP a (oft2 a b)) (raisedP (scaledP b (hea2 a b)) (a.length - b.length))
/-- figures below 2 ^ n -/
def Bn (n : Nat) (a : P) : Prop := ∀ x ∈ a, x.natAbs < 2 ^ n
theorem Bn.co {n : Nat} {a : P} (h : Bn n a) (k : Nat) : (Pm.co a k).natAbs < 2 ^ n := by
  by_cases hk : k < a.length
  · exact h _ (co_mem hk)
  · rw [co_ge (by omega)]; exact Nat.two_pow_pos n
theorem Bn.ld {n : Nat} {a : P} (h : Bn n a) : (Pm.ld a).natAbs < 2 ^ n := h.co _
theorem Bn.of {n : Nat} {a : P} (h : ∀ k, (Pm.co a k).natAbs < 2 ^ n) : Bn n a := fun x hx => by
  obtain ⟨k, _, e⟩ := mem_co hx
  rw [← e]; exact h k
theorem Bn.mono {n m : Nat} {a : P} (h : Bn n a) (hm : n ≤ m) : Bn m a := fun x hx => Nat.lt_of_lt_of_le (h x hx) (Nat.pow_le_pow_right (by decide) hm)
theorem fdiv_exact {x g : Int} (h : g ∣ x) (hg : g ≠ 0) : g * x.fdiv g = x := by
  rw [Int.fdiv_eq_ediv_of_dvd h]
  exact Int.mul_ediv_cancel' h
theorem fdiv_le {x g : Int} (h : g ∣ x) (hg : g ≠ 0) : (x.fdiv g).natAbs ≤ x.natAbs := by
  have e := congrArg Int.natAbs (fdiv_exact h hg)
  rw [Int.natAbs_mul] at e
  have : 0 < g.natAbs := by omega
  calc (x.fdiv g).natAbs = 1 * (x.fdiv g).natAbs := by rw [Nat.one_mul]
    _ ≤ g.natAbs * (x.fdiv g).natAbs := Nat.mul_le_mul_right _ this
    _ = x.natAbs := e
theorem co_minusP {a b : P} (k : Nat) : co (minusP a b) k = co a k - co b k := by
  unfold minusP tab
  rw [co_trim, co_tab]
  unfold maxN
  by_cases h : k < max a.length b.length
  · rw [if_pos h]
  · rw [if_neg h, co_ge (a := a) (by omega), co_ge (a := b) (by omega)]; rfl
theorem co_scaledP {a : P} {t : Int} (k : Nat) : co (scaledP a t) k = co a k * t := by
  unfold scaledP
  rw [co_trim, co_map (by simp)]
theorem co_raisedP {a : P} {n : Nat} (k : Nat) : co (raisedP a n) k = sh n a k := by
  unfold raisedP
  by_cases h : a = []
  · rw [if_pos h, h]; unfold sh; simp
  · rw [if_neg h]; exact co_sh
section
variable {a b : P} {n m : Nat}
theorem gcd_ne (hb : Tr b) (nb : b ≠ []) : ((Int.gcd (ld a) (ld b) : Nat) : Int) ≠ 0 := by
  have h := hb.ld nb
  intro z
  have : Int.gcd (ld a) (ld b) = 0 := by omega
  exact h (Int.gcd_eq_zero_iff.mp this).2
theorem oft_eq (hb : Tr b) (nb : b ≠ []) : ((Int.gcd (ld a) (ld b) : Nat) : Int) * oft a b = ld b := fdiv_exact (Int.gcd_dvd_right _ _) (gcd_ne hb nb)
theorem hea_eq (hb : Tr b) (nb : b ≠ []) : ((Int.gcd (ld a) (ld b) : Nat) : Int) * hea a b = ld a := fdiv_exact (Int.gcd_dvd_left _ _) (gcd_ne hb nb)
theorem oft2_abs (hb : Tr b) (nb : b ≠ []) (Bb : Bn m b) : (oft2 a b).natAbs < 2 ^ m := by
  have h : (oft a b).natAbs ≤ (ld b).natAbs := fdiv_le (Int.gcd_dvd_right _ _) (gcd_ne hb nb)
  have := Bb.ld
  unfold oft2
  split <;> omega
theorem hea2_abs (hb : Tr b) (nb : b ≠ []) (Ba : Bn n a) : (hea2 a b).natAbs < 2 ^ n := by
  have h : (hea a b).natAbs ≤ (ld a).natAbs := fdiv_le (Int.gcd_dvd_left _ _) (gcd_ne hb nb)
  have := Ba.ld
  unfold hea2
  split <;> omega
theorem co_elP (k : Nat) : co (elP a b) k = co a k * oft2 a b - sh (a.length - b.length) b k * hea2 a b := by
  unfold elP
  rw [co_minusP, co_scaledP, co_raisedP]
  congr 1
  unfold sh
  split
  · simp
  · exact co_scaledP _
theorem elP_tr : Tr (elP a b) := trim_tr _
theorem elP_El (hb : Tr b) (nb : b ≠ []) : El a b (elP a b) := by
  have e1 := oft_eq (a := a) hb nb
  have e2 := hea_eq (a := a) hb nb
  by_cases h : oft a b < 0
  · refine ⟨((Int.gcd (ld a) (ld b) : Nat) : Int), -1, gcd_ne hb nb, by decide, fun k => ?_⟩
    rw [co_elP]
    unfold oft2 hea2
    rw [if_pos h, if_pos h]
    generalize ((Int.gcd (ld a) (ld b) : Nat) : Int) = g at e1 e2 ⊢
    rw [← e1, ← e2, Int.mul_sub]
    simp only [Int.mul_neg, Int.neg_mul, Int.one_mul, Int.mul_comm, Int.mul_left_comm, Int.mul_assoc]
    omega
  · refine ⟨((Int.gcd (ld a) (ld b) : Nat) : Int), 1, gcd_ne hb nb, by decide, fun k => ?_⟩
    rw [co_elP]
    unfold oft2 hea2
    rw [if_neg h, if_neg h]
    generalize ((Int.gcd (ld a) (ld b) : Nat) : Int) = g at e1 e2 ⊢
    rw [← e1, ← e2, Int.mul_sub]
    simp only [Int.one_mul, Int.mul_comm, Int.mul_left_comm, Int.mul_assoc]
theorem elP_Bn (hb : Tr b) (nb : b ≠ []) (Ba : Bn n a) (Bb : Bn m b) : Bn (n + m + 1) (elP a b) := .of fun k => by
  rw [co_elP]
  have h1 := oft2_abs (a := a) hb nb Bb
  have h2 := hea2_abs hb nb Ba
  have h3 := Ba.co k
  have h4 : (sh (a.length - b.length) b k).natAbs < 2 ^ m := by
    unfold sh
    split
    · exact Nat.two_pow_pos m
    · exact Bb.co _
  have p1 : (co a k * oft2 a b).natAbs < 2 ^ (n + m) := by
    rw [Int.natAbs_mul, Nat.pow_add]
    exact Nat.mul_lt_mul'' h3 h1
  have p2 : (sh (a.length - b.length) b k * hea2 a b).natAbs < 2 ^ (n + m) := by
    rw [Int.natAbs_mul, Nat.pow_add, Nat.mul_comm (2 ^ n)]
    exact Nat.mul_lt_mul'' h4 h2
  rw [Nat.pow_succ]
  omega
end
end K82
end

section
set_option Elab.async false
set_option linter.all false
set_option maxRecDepth 100000
set_option maxHeartbeats 1000000
/-! Q4: rests and common parts of the program, run at data. -/
namespace K82
open PySem (Str sizeLine)
open V3 Pm
open L2 (ixN atI)
theorem call_len {i : Nat} {a : P} {ρ : Ev} (hi : ρ[i]? = some (.im (dP a))) : opA lenD (consG (vl (var i)) (V3.ret [])) ρ = .ok (.int (a.length : Int)) ρ := by
  refine opA1 (d := dP a) (by unfold var; rw [hi]) ?_
  show some (D.int ((a.map D.int).length : Int)) = _
  rw [List.length_map]
theorem pow_le {x n m : Nat} (h : x < 2 ^ n) (hm : n ≤ m) : x < 2 ^ m := Nat.lt_of_lt_of_le h (Nat.pow_le_pow_right (by decide) hm)
theorem fdivD_ok {i j : Int} (h : fdivOk i j = true) : fdivD (.int i) (.int j) = some (.int (i.fdiv j)) := by
  show (if fdivOk i j = true then some (D.int (i.fdiv j)) else none) = _
  rw [if_pos h]
theorem ix0 {x : D} {z : List D} : ixD (.tup (x :: z)) (.int 0) = some x := by
  show atI (x :: z) ((0 : Nat) : Int) = _
  rw [atI_nat (by simp)]
  rfl
section
variable {a b : P} {n m : Nat}
theorem len_scaledP (t : Int) : (scaledP a t).length ≤ a.length := by
  unfold scaledP
  exact Nat.le_trans (trim_len _) (by rw [List.length_map]; exact Nat.le_refl _)
theorem len_raisedP (k : Nat) : (raisedP a k).length ≤ k + a.length := by
  unfold raisedP shL
  split
  · simp
  · rw [List.length_append, List.length_replicate]; exact Nat.le_refl _
theorem R_without_head_eq (ha : a ≠ []) (hb : Tr b) (nb : b ≠ []) (hl : b.length ≤ a.length) (h1000 : a.length ≤ 1000) (Ba : Bn n a) (Bb : Bn m b) (hn : n ≤ 13500) (hm : m ≤ 13500) :
    ∃ z, R_without_head [dP a, dP b] = .ok (.tup (dP (elP a b) :: z)) [] := by
  have g0 := gcd_ne (a := a) hb nb
  have o := oft2_abs (a := a) hb nb Bb
  have h := hea2_abs hb nb Ba
  have da : fdivOk (ld a) (Int.gcd (ld a) (ld b) : Nat) = true := fdivOk_of2 g0 (pow_le Ba.ld hn)
  have db : fdivOk (ld b) (Int.gcd (ld a) (ld b) : Nat) = true := fdivOk_of2 g0 (pow_le Bb.ld hm)
  have s1 : asgS 2 (callA R_divisor (consG (vl (op2 ixD (var 0) (op1 negD (V3.ret (.int 1))))) (consG (vl (op2 ixD (var 1) (op1 negD (V3.ret (.int 1))))) (V3.ret [])))) [Sl.im (dP a), .im (dP b), .un, .un, .un, .un]
      = .ok .nx [Sl.im (dP a), .im (dP b), .im (.int (Int.gcd (ld a) (ld b) : Nat)), .un, .un, .un] := asgS_ok (call2 (ixLast ha rfl) (ixLast nb rfl) (R_divisor_eq _ _)) rfl
  have s2 : asgS 3 (op2 fdivD (op2 ixD (var 1) (op1 negD (V3.ret (.int 1)))) (var 2)) [Sl.im (dP a), .im (dP b), .im (.int (Int.gcd (ld a) (ld b) : Nat)), .un, .un, .un]
      = .ok .nx [Sl.im (dP a), .im (dP b), .im (.int (Int.gcd (ld a) (ld b) : Nat)), .im (.int (oft a b)), .un, .un] := asgS_ok (op2_ok (ixLast nb rfl) rfl (fdivD_ok db)) rfl
  have s3 : asgS 4 (op2 fdivD (op2 ixD (var 0) (op1 negD (V3.ret (.int 1)))) (var 2)) [Sl.im (dP a), .im (dP b), .im (.int (Int.gcd (ld a) (ld b) : Nat)), .im (.int (oft a b)), .un, .un]
      = .ok .nx [Sl.im (dP a), .im (dP b), .im (.int (Int.gcd (ld a) (ld b) : Nat)), .im (.int (oft a b)), .im (.int (hea a b)), .un] := asgS_ok (op2_ok (ixLast ha rfl) rfl (fdivD_ok da)) rfl
  have s4 : ifS (blE (op2 (cmpI fun i j => decide (i < j)) (var 3) (V3.ret (.int 0)))) (parS 3 4 (consA (op1 negD (var 3)) (consA (op1 negD (var 4)) (V3.ret [])))) skipS [Sl.im (dP a), .im (dP b), .im (.int (Int.gcd (ld a) (ld b) : Nat)), .im (.int (oft a b)), .im (.int (hea a b)), .un]
      = .ok .nx [Sl.im (dP a), .im (dP b), .im (.int (Int.gcd (ld a) (ld b) : Nat)), .im (.int (oft2 a b)), .im (.int (hea2 a b)), .un] := by
    have c : blE (op2 (cmpI fun i j => decide (i < j)) (var 3) (V3.ret (.int 0))) [Sl.im (dP a), .im (dP b), .im (.int (Int.gcd (ld a) (ld b) : Nat)), .im (.int (oft a b)), .im (.int (hea a b)), .un] = .ok (decide (oft a b < 0)) [Sl.im (dP a), .im (dP b), .im (.int (Int.gcd (ld a) (ld b) : Nat)), .im (.int (oft a b)), .im (.int (hea a b)), .un] := blE_ok (op2_ok rfl rfl rfl)
    by_cases hp : oft a b < 0
    · rw [decide_eq_true hp] at c
      unfold oft2 hea2
      rw [if_pos hp, if_pos hp]
      exact (ifE_t c).trans (parS_ok (consA_ok (op1_ok rfl rfl) (consA_ok (op1_ok rfl rfl) rfl)) rfl rfl)
    · rw [decide_eq_false hp] at c
      unfold oft2 hea2
      rw [if_neg hp, if_neg hp]
      exact (ifE_f c).trans rfl
  have s5 : asgS 5 (op2 subD (opA lenD (consG (vl (var 0)) (V3.ret []))) (opA lenD (consG (vl (var 1)) (V3.ret [])))) [Sl.im (dP a), .im (dP b), .im (.int (Int.gcd (ld a) (ld b) : Nat)), .im (.int (oft2 a b)), .im (.int (hea2 a b)), .un]
      = .ok .nx [Sl.im (dP a), .im (dP b), .im (.int (Int.gcd (ld a) (ld b) : Nat)), .im (.int (oft2 a b)), .im (.int (hea2 a b)), .im (.int ((a.length - b.length : Nat) : Int))] := by
    refine asgS_ok (op2_ok (call_len rfl) (call_len rfl) (z := .int ((a.length - b.length : Nat) : Int)) ?_) rfl
    show some (D.int ((a.length : Int) - (b.length : Int))) = _
    rw [Int.ofNat_sub hl]
  have l1 : (scaledP b (hea2 a b)).length ≤ b.length := len_scaledP _
  have l2 : (scaledP a (oft2 a b)).length ≤ a.length := len_scaledP _
  have l3 := len_raisedP (a := scaledP b (hea2 a b)) (a.length - b.length)
  have l4 := len_raisedP (a := [hea2 a b]) (a.length - b.length)
  have q1 := R_scaled_eq (a := a) (t := oft2 a b) h1000 fun x hx => mulOk_of (pow_le (Ba x hx) (by omega)) (pow_le o (by omega))
  have q2 := R_scaled_eq (a := b) (t := hea2 a b) (by omega) fun x hx => mulOk_of (pow_le (Bb x hx) (by omega)) (pow_le h (by omega))
  have q3 := R_raised_eq (a := scaledP b (hea2 a b)) (n := a.length - b.length) (by omega) (by omega)
  have q4 := R_poly_minus_eq (a := scaledP a (oft2 a b)) (b := raisedP (scaledP b (hea2 a b)) (a.length - b.length)) (by omega) (by omega)
  have q5 := R_raised_eq (a := [hea2 a b]) (n := a.length - b.length) (by simp) (by omega)
  have s6 : consA (callA R_poly_minus (consG (vl (callA R_scaled (consG (vl (var 0)) (consG (vl (var 3)) (V3.ret []))))) (consG (vl (callA R_raised (consG (vl (callA R_scaled (consG (vl (var 1)) (consG (vl (var 4)) (V3.ret []))))) (consG (vl (var 5)) (V3.ret []))))) (V3.ret [])))) (consA (var 3) (consA (callA R_raised (consG (vl (tupE (consA (var 4) (V3.ret [])))) (consG (vl (var 5)) (V3.ret [])))) (V3.ret [])))
      [Sl.im (dP a), .im (dP b), .im (.int (Int.gcd (ld a) (ld b) : Nat)), .im (.int (oft2 a b)), .im (.int (hea2 a b)), .im (.int ((a.length - b.length : Nat) : Int))]
      = .ok [dP (elP a b), .int (oft2 a b), dP (raisedP [hea2 a b] (a.length - b.length))] [Sl.im (dP a), .im (dP b), .im (.int (Int.gcd (ld a) (ld b) : Nat)), .im (.int (oft2 a b)), .im (.int (hea2 a b)), .im (.int ((a.length - b.length : Nat) : Int))] :=
    consA_ok (call2 (call2 rfl rfl q1) (call2 (call2 rfl rfl q2) rfl q3) q4) (consA_ok rfl (consA_ok (call2 (tupE_ok (consA_ok rfl rfl) (len_line (show 1 ≤ 1000 by decide))) rfl q5) rfl))
  exact ⟨[.int (oft2 a b), dP (raisedP [hea2 a b] (a.length - b.length))], run_of rfl rfl ((thenS_ok s1).trans ((thenS_ok s2).trans ((thenS_ok s3).trans ((thenS_ok s4).trans ((thenS_ok s5).trans (retS_ok (tupE_ok s6 (len_line (show 3 ≤ 1000 by decide)))))))))⟩
end
/-! the rest -/
theorem restloop {b : P} {m : Nat} (hb : Tr b) (nb : b ≠ []) (Bb : Bn m b) : ∀ (k : Nat) (a : P) (n : Nat), a.length ≤ k → a.length ≤ 1000 → Tr a → Bn n a → n + (a.length + 1 - b.length) * (m + 1) ≤ 13000 → m ≤ 13000 →
    ∃ s j, Rest b a s ∧ Bn (n + j * (m + 1)) s ∧ j + s.length ≤ a.length ∧ j ≤ a.length + 1 - b.length ∧
      whl (blE (op2 (cmpI fun i j => decide (j ≤ i)) (opA lenD (consG (vl (var 0)) (V3.ret []))) (opA lenD (consG (vl (var 1)) (V3.ret []))))) (asgS 0 (op2 ixD (callA R_without_head (consG (vl (var 0)) (consG (vl (var 1)) (V3.ret [])))) (V3.ret (.int 0)))) [.im (dP a), .im (dP b)] = .ok .nx [.im (dP s), .im (dP b)] := by
  intro k
  induction k with
  | zero =>
    intro a n hk h1 ha Ba hn hm
    have := len_pos nb
    refine ⟨a, 0, .done (by omega), by simpa using Ba, by omega, by omega, ?_⟩
    have c : blE (op2 (cmpI fun i j => decide (j ≤ i)) (opA lenD (consG (vl (var 0)) (V3.ret []))) (opA lenD (consG (vl (var 1)) (V3.ret [])))) [Sl.im (dP a), .im (dP b)] = .ok (decide ((b.length : Int) ≤ (a.length : Int))) [Sl.im (dP a), .im (dP b)] := blE_ok (op2_ok (call_len rfl) (call_len rfl) rfl)
    rw [decide_eq_false (by omega)] at c
    rw [whl_eq, bnd_ok c]
    rfl
  | succ k ih =>
    intro a n hk h1 ha Ba hn hm
    have hpb := len_pos nb
    have c : blE (op2 (cmpI fun i j => decide (j ≤ i)) (opA lenD (consG (vl (var 0)) (V3.ret []))) (opA lenD (consG (vl (var 1)) (V3.ret [])))) [Sl.im (dP a), .im (dP b)] = .ok (decide ((b.length : Int) ≤ (a.length : Int))) [Sl.im (dP a), .im (dP b)] := blE_ok (op2_ok (call_len rfl) (call_len rfl) rfl)
    by_cases hl : b.length ≤ a.length
    · have na : a ≠ [] := fun e => by rw [e, List.length_nil] at hl; omega
      rw [decide_eq_true (by omega)] at c
      have hel := elP_El (a := a) hb nb
      have hlt := hel.len nb hl elP_tr
      have mm : (a.length + 1 - b.length) * (m + 1) = (a.length - b.length) * (m + 1) + (m + 1) := by
        rw [show a.length + 1 - b.length = (a.length - b.length) + 1 by omega, Nat.add_mul, Nat.one_mul]
      obtain ⟨z, hz⟩ := R_without_head_eq na hb nb hl h1 Ba Bb (by omega) (by omega)
      have hle : ((elP a b).length + 1 - b.length) * (m + 1) ≤ (a.length - b.length) * (m + 1) := Nat.mul_le_mul_right _ (by omega)
      obtain ⟨s, j, r1, r2, r3, r5, r4⟩ := ih (elP a b) (n + m + 1) (by omega) (by omega) elP_tr (elP_Bn hb nb Ba Bb) (by omega) hm
      refine ⟨s, j + 1, .step hl hel elP_tr r1, ?_, by omega, by omega, ?_⟩
      · rw [Nat.add_mul, Nat.one_mul]
        exact r2.mono (by omega)
      · have s1 : asgS 0 (op2 ixD (callA R_without_head (consG (vl (var 0)) (consG (vl (var 1)) (V3.ret [])))) (V3.ret (.int 0))) [Sl.im (dP a), .im (dP b)] = .ok .nx [Sl.im (dP (elP a b)), .im (dP b)] :=
          asgS_ok (op2_ok (call2 rfl rfl hz) rfl ix0) rfl
        rw [whl_eq, bnd_ok c]
        show bnd _ _ _ = _
        rw [bnd_ok s1]
        exact r4
    · refine ⟨a, 0, .done (by omega), by simpa using Ba, by omega, by omega, ?_⟩
      rw [decide_eq_false (by omega)] at c
      rw [whl_eq, bnd_ok c]
      rfl
theorem R_rest_by_eq {a b : P} {n m : Nat} (ha : Tr a) (hb : Tr b) (nb : b ≠ []) (h1 : a.length ≤ 1000) (Ba : Bn n a) (Bb : Bn m b) (hn : n + (a.length + 1 - b.length) * (m + 1) ≤ 13000) (hm : m ≤ 13000) :
    ∃ s j, Rest b a s ∧ Bn (n + j * (m + 1)) s ∧ j + s.length ≤ a.length ∧ j ≤ a.length + 1 - b.length ∧ R_rest_by [dP a, dP b] = .ok (dP s) [] := by
  obtain ⟨s, j, r1, r2, r3, r5, r4⟩ := restloop hb nb Bb a.length a n (Nat.le_refl _) h1 ha Ba hn hm
  exact ⟨s, j, r1, r2, r3, r5, run_of rfl rfl ((thenS_ok r4).trans (retS_ok rfl))⟩
end K82
end

section
set_option Elab.async false
set_option linter.all false
set_option maxRecDepth 100000
set_option maxHeartbeats 1000000
/-! Q5: the common part of the program. -/
namespace K82
open PySem (Str sizeLine)
open V3 Pm
open L2 (ixN atI)
/-! content and plain -/
theorem content_dvd : ∀ (l : P) (g : Nat), ((l.foldl (fun g x => Int.gcd g x) g : Nat) : Int) ∣ (g : Int) ∧ ∀ x ∈ l, ((l.foldl (fun g x => Int.gcd g x) g : Nat) : Int) ∣ x
  | [], g => ⟨Int.dvd_refl _, fun x h => by cases h⟩
  | y :: l, g => by
    obtain ⟨h1, h2⟩ := content_dvd l (Int.gcd g y)
    show ((l.foldl (fun g x => Int.gcd g x) (Int.gcd g y) : Nat) : Int) ∣ _ ∧ _
    refine ⟨Int.dvd_trans h1 (Int.gcd_dvd_left _ _), fun x hx => ?_⟩
    rcases List.mem_cons.mp hx with rfl | hx
    · exact Int.dvd_trans h1 (Int.gcd_dvd_right _ _)
    · exact h2 x hx
theorem content_max : ∀ (l : P) (g d : Nat), d ∣ g → (∀ x ∈ l, (d : Int) ∣ x) → d ∣ l.foldl (fun g x => Int.gcd g x) g
  | [], g, d, h, _ => h
  | y :: l, g, d, h, h2 => by
    refine content_max l (Int.gcd g y) d ?_ fun x hx => h2 x (List.mem_cons_of_mem _ hx)
    have h3 := h2 y (List.mem_cons_self ..)
    exact Int.dvd_gcd (Int.natCast_dvd_natCast.mpr h) h3
theorem content_mem {a : P} {x : Int} (h : x ∈ a) : (contentP a : Int) ∣ x := (content_dvd a 0).2 x h
theorem content_co (a : P) (k : Nat) : (contentP a : Int) ∣ co a k := by
  by_cases hk : k < a.length
  · exact content_mem (co_mem hk)
  · rw [co_ge (by omega)]; exact Int.dvd_zero _
theorem content_ne {a : P} (ha : Tr a) (na : a ≠ []) : (contentP a : Int) ≠ 0 := fun e => by
  have h := content_co a (a.length - 1)
  rw [e] at h
  exact ha.ld na (Int.zero_dvd.mp h)
/-- what plain divides by -/
def plW (a : P) : Int := if 0 < ld a then (contentP a : Int) else -(contentP a : Int)
theorem plainP_nil : plainP [] = [] := rfl
theorem plainP_eq {a : P} (na : a ≠ []) : plainP a = a.map (Int.fdiv · (plW a)) := by
  unfold plainP
  rw [if_neg na]
  rfl
theorem plW_ne {a : P} (ha : Tr a) (na : a ≠ []) : plW a ≠ 0 := by
  have := content_ne ha na
  unfold plW
  split <;> omega
theorem plW_dvd (a : P) (k : Nat) : plW a ∣ co a k := by
  unfold plW
  split
  · exact content_co a k
  · exact Int.neg_dvd.mpr (content_co a k)
theorem co_plainP {a : P} (ha : Tr a) (na : a ≠ []) (k : Nat) : plW a * co (plainP a) k = co a k := by
  rw [plainP_eq na, co_map (f := fun x => Int.fdiv x (plW a)) (Int.zero_fdiv _)]
  exact fdiv_exact (plW_dvd a k) (plW_ne ha na)
theorem plain_sim {a : P} (ha : Tr a) : Sim (plainP a) a := by
  by_cases na : a = []
  · rw [na, plainP_nil]; exact Sim.refl
  · exact ⟨plW a, 1, plW_ne ha na, by decide, fun k => by rw [co_plainP ha na]; omega⟩
theorem plain_len (a : P) : (plainP a).length = a.length := by
  by_cases na : a = []
  · rw [na, plainP_nil]
  · rw [plainP_eq na, List.length_map]
theorem plain_tr {a : P} (ha : Tr a) : Tr (plainP a) := by
  by_cases na : a = []
  · rw [na, plainP_nil]; exact tr_nil
  · refine .inr fun e => ?_
    have h := co_plainP ha na ((plainP a).length - 1)
    rw [e, Int.mul_zero, plain_len] at h
    exact ha.ld na h.symm
theorem plain_Bn {a : P} {n : Nat} (ha : Tr a) (B : Bn n a) : Bn n (plainP a) := .of fun k => by
  by_cases na : a = []
  · rw [na, plainP_nil]; simp; exact Nat.two_pow_pos n
  · rw [plainP_eq na, co_map (f := fun x => Int.fdiv x (plW a)) (Int.zero_fdiv _)]
    exact Nat.lt_of_le_of_lt (fdiv_le (plW_dvd a k) (plW_ne ha na)) (B.co k)
theorem plain_pos {a : P} (ha : Tr a) (na : a ≠ []) : 0 < ld (plainP a) := by
  have h := co_plainP ha na (a.length - 1)
  have e : ld (plainP a) = co (plainP a) (a.length - 1) := by unfold ld; rw [plain_len]
  have hl := ha.ld na
  rw [e]
  have hl2 : ld a = co a (a.length - 1) := rfl
  rw [← hl2] at h
  unfold plW at h
  have hc : 0 < (contentP a : Int) := by have := content_ne ha na; omega
  by_cases hp : 0 < ld a
  · rw [if_pos hp] at h
    exact Int.pos_of_mul_pos_left (by rw [Int.mul_comm, h]; exact hp) hc
  · rw [if_neg hp, Int.neg_mul] at h
    exact Int.pos_of_mul_pos_left (b := (contentP a : Int)) (by rw [Int.mul_comm]; omega) hc
theorem plain_prim {a : P} (ha : Tr a) (na : a ≠ []) : Prim (plainP a) := fun n hn => by
  have hd : ∀ x ∈ a, ((n * contentP a : Nat) : Int) ∣ x := fun x hx => by
    obtain ⟨k, _, e⟩ := mem_co hx
    rw [← e, ← co_plainP ha na k, Int.natCast_mul, Int.mul_comm]
    refine Int.mul_dvd_mul ?_ (hn k)
    unfold plW
    split
    · exact Int.dvd_refl _
    · exact Int.dvd_neg.mpr (Int.dvd_refl _)
  have h := content_max a 0 (n * contentP a) (Nat.dvd_zero _) hd
  have hc : 0 < contentP a := by have := content_ne ha na; omega
  have := Nat.le_of_dvd hc h
  have hn0 : n ≠ 0 := fun e => by
    have h2 := hn ((plainP a).length - 1)
    rw [e] at h2
    have nn : plainP a ≠ [] := fun z => na (by have := plain_len a; rw [z] at this; exact List.length_eq_zero_iff.mp this.symm)
    exact (plain_tr ha).ld nn (show co (plainP a) ((plainP a).length - 1) = 0 from Int.zero_dvd.mp (by simpa using h2))
  by_cases h1 : n = 1
  · exact h1
  · have : 2 * contentP a ≤ n * contentP a := Nat.mul_le_mul_right _ (by omega)
    omega
/-- plain ones that are the same but for numbers are the same -/
theorem plain_uniq {a b : P} (ha : Tr a) (hb : Tr b) (s : Sim a b) : plainP a = plainP b := by
  by_cases na : a = []
  · have : b = [] := List.length_eq_zero_iff.mp (by rw [← s.len ha hb, na]; rfl)
    rw [na, this]
  · have nb := s.ne ha hb na
    obtain ⟨c, d, hc, hd, h⟩ := ((plain_sim ha).trans s).trans (plain_sim hb).symm
    have pa := plain_prim ha na
    have pb := plain_prim hb nb
    have key : ∀ {p q : P} {c d : Int}, Prim p → Prim q → c ≠ 0 → d ≠ 0 → (∀ k, c * co p k = d * co q k) → c.natAbs ∣ d.natAbs := fun {p q c d} hp hq hc hd h => by
      have := gauss c.natAbs c.natAbs (Nat.le_refl _) (by omega) q [d] hq fun k => by
        have e : co (mul q [d]) k = d * co q k := by
          rw [mul_smul (u := [d]) (v := [1]) (c := d) (fun k => by cases k <;> simp), mul_one]
        rw [e, ← h k]
        exact Int.dvd_trans (Int.natAbs_dvd.mpr (Int.dvd_refl c)) (Int.dvd_mul_right _ _)
      exact Int.natAbs_dvd_natAbs.mpr (Int.natAbs_dvd.mp (this 0))
    have e : c.natAbs = d.natAbs := Nat.dvd_antisymm (key pa pb hc hd h) (key pb pa hd hc fun k => (h k).symm)
    have hl : (plainP a).length = (plainP b).length := by rw [plain_len, plain_len, s.len ha hb]
    have p1 := plain_pos ha na
    have p2 := plain_pos hb nb
    have hh : c * ld (plainP a) = d * ld (plainP b) := by unfold ld; rw [hl]; exact h _
    have ecd : c = d := by
      rcases Int.natAbs_eq_natAbs_iff.mp e with e | e
      · exact e
      · exfalso
        rw [e, Int.neg_mul] at hh
        have h3 : d * (ld (plainP a) + ld (plainP b)) = 0 := by rw [Int.mul_add]; omega
        rcases Int.mul_eq_zero.mp h3 with z | z
        · exact hd z
        · omega
    subst ecd
    exact tr_eq (plain_tr ha) (plain_tr hb) fun k => Int.eq_of_mul_eq_mul_left hc (h k)
theorem plain_fd {a : P} {n : Nat} (ha : Tr a) (na : a ≠ []) (B : Bn n a) (hn : n ≤ 13500) : ∀ x ∈ a, fdivOk x (contentP a) = true ∧ fdivOk x (-(contentP a : Int)) = true := fun x hx => by
  have h0 := content_ne ha na
  exact ⟨fdivOk_of2 h0 (pow_le (B x hx) hn), fdivOk_of2 (by omega) (pow_le (B x hx) hn)⟩
theorem R_plain_ok {a : P} {n : Nat} (ha : Tr a) (hl : a.length ≤ 1000) (B : Bn n a) (hn : n ≤ 13500) : R_plain [dP a] = .ok (dP (plainP a)) [] := by
  by_cases na : a = []
  · subst na
    exact R_plain_eq (by simp) fun x hx => by cases hx
  · exact R_plain_eq hl (plain_fd ha na B hn)
end K82
end

section
set_option Elab.async false
set_option linter.all false
set_option maxRecDepth 100000
set_option maxHeartbeats 1000000
/-! Q6: the common part of the program, its limits. -/
namespace K82
open PySem (Str sizeLine)
open V3 Pm
open L2 (ixN atI)
def fb : Nat → Nat
  | 0 => 1
  | 1 => 2
  | n + 2 => fb (n + 1) + fb n
theorem fb_up : ∀ n, fb n ≤ fb (n + 1)
  | 0 => by decide
  | n + 1 => by show fb (n + 1) ≤ fb (n + 1) + fb n; omega
theorem fb_mono {n m : Nat} (h : n ≤ m) : fb n ≤ fb m := by
  induction m with
  | zero => have : n = 0 := by omega
            subst this; exact Nat.le_refl _
  | succ m ih =>
    by_cases e : n = m + 1
    · subst e; exact Nat.le_refl _
    · exact Nat.le_trans (ih (by omega)) (fb_up m)
/-- the sizes' budget -/
structure Bud (C e x y : Nat) : Prop where
  p1 : x ≤ fb e * C
  p2 : y ≤ fb e * C
  p3 : x + y ≤ fb (e + 1) * C
theorem Bud.swap {C e x y : Nat} (h : Bud C e x y) : Bud C e y x := ⟨h.p2, h.p1, by rw [Nat.add_comm]; exact h.p3⟩
theorem Bud.step {C e x y : Nat} (h : Bud C e x y) : Bud C (e + 1) (x + y) y := by
  refine ⟨h.p3, Nat.le_trans h.p2 (Nat.mul_le_mul_right _ (fb_up e)), ?_⟩
  show x + y + y ≤ (fb (e + 1) + fb e) * C
  rw [Nat.add_mul]
  exact Nat.add_le_add h.p3 h.p2
theorem Bud.iter {C e x y : Nat} (h : Bud C e x y) : ∀ j, Bud C (e + j) (x + j * y) y
  | 0 => by simpa using h
  | j + 1 => by
    have := (h.iter j).step
    rw [Nat.add_mul, Nat.one_mul, ← Nat.add_assoc, ← Nat.add_assoc]
    exact this
theorem neTest {i : Nat} {b : P} {ρ : Ev} (hi : ρ[i]? = some (.im (dP b))) : blE (op2 neD (var i) (tupE (V3.ret []))) ρ = .ok (!decide (b = [])) ρ :=
  blE_ok (op2_ok (ρ1 := ρ) (d := dP b) (e := dP []) (by unfold var; rw [hi]) (tupE_ok rfl (Nat.zero_le _)) (neD_dP b []))
abbrev cmC : Cm Bool := blE (op2 neD (var 1) (tupE (V3.ret [])))
noncomputable abbrev cmB : Cm Fl := parS 0 1 (consA (var 1) (consA (callA R_plain (consG (vl (callA R_rest_by (consG (vl (var 0)) (consG (vl (var 1)) (V3.ret []))))) (V3.ret []))) (V3.ret [])))
theorem fb_gap {e S : Nat} (h : e ≤ S) : fb e + (S - e) ≤ fb S := by
  induction S with
  | zero => have : e = 0 := by omega
            subst this; simp
  | succ S ih =>
    by_cases h1 : e = S + 1
    · subst h1; simp
    · have h2 := ih (by omega)
      have : fb S + 1 ≤ fb (S + 1) := by
        clear h2 ih h h1
        induction S with
        | zero => decide
        | succ S ih =>
          show fb (S + 1) + 1 ≤ fb (S + 1) + fb S
          have : 1 ≤ fb S := Nat.le_trans (by decide) (fb_mono (Nat.zero_le S))
          omega
      omega
theorem Bud.one {C e x y : Nat} (h : Bud C e x y) (hC : 2 ≤ C) : Bud C e x 2 := by
  have h1 : 1 ≤ fb e := Nat.le_trans (by decide) (fb_mono (Nat.zero_le e))
  have h2 : fb e + 1 ≤ fb (e + 1) := by have := fb_gap (show e ≤ e + 1 by omega); omega
  have h3 : 1 * C ≤ fb e * C := Nat.mul_le_mul_right _ h1
  have h4 : (fb e + 1) * C ≤ fb (e + 1) * C := Nat.mul_le_mul_right _ h2
  rw [Nat.add_mul] at h4
  have := h.p1
  exact ⟨this, by omega, by omega⟩
theorem Bud.init {C x y : Nat} (hx : x ≤ C) (hy : y ≤ C) : Bud C 0 x y := by
  have f0 : fb 0 = 1 := rfl
  have f1 : fb (0 + 1) = 2 := rfl
  exact ⟨by rw [f0]; omega, by rw [f0]; omega, by rw [f1]; omega⟩
theorem bn_nil {n : Nat} : Bn n [] := fun x hx => by cases hx
theorem commonstep {a b : P} {n m : Nat} (ha : Tr a) (hb : Tr b) (nb : b ≠ []) (h1 : a.length ≤ 1000) (Ba : Bn n a) (Bb : Bn m b) (hn : n + (a.length + 1 - b.length) * (m + 1) ≤ 13000) (hm : m ≤ 13000) :
    ∃ s j, Rest b a s ∧ Bn (n + j * (m + 1)) s ∧ j + s.length ≤ a.length ∧ j ≤ a.length + 1 - b.length ∧ ∀ {X : Rs Fl}, whl cmC cmB [.im (dP b), .im (dP (plainP s))] = X → whl cmC cmB [.im (dP a), .im (dP b)] = X := by
  have c := neTest (i := 1) (b := b) (ρ := [.im (dP a), .im (dP b)]) rfl
  rw [decide_eq_false nb] at c
  obtain ⟨s, j, r1, r2, r3, r5, r4⟩ := R_rest_by_eq ha hb nb h1 Ba Bb hn hm
  have hs := r1.tr ha
  have bs : n + j * (m + 1) ≤ 13500 := by
    have := Nat.mul_le_mul_right (m + 1) r5
    omega
  have p1 := R_plain_ok hs (by omega) r2 bs
  refine ⟨s, j, r1, r2, r3, r5, fun hX => ?_⟩
  have s1 : cmB [Sl.im (dP a), .im (dP b)] = .ok .nx [Sl.im (dP b), .im (dP (plainP s))] :=
    parS_ok (consA_ok rfl (consA_ok (call1 (call2 rfl rfl r4) p1) rfl)) rfl rfl
  rw [whl_eq, bnd_ok c]
  show bnd _ _ _ = _
  rw [bnd_ok s1]
  exact hX
theorem commonend {a : P} : whl cmC cmB [.im (dP a), .im (dP [])] = .ok .nx [.im (dP a), .im (dP [])] := by
  have c := neTest (i := 1) (b := []) (ρ := [.im (dP a), .im (dP [])]) rfl
  rw [whl_eq, bnd_ok c]
  rfl
theorem commonlast {a b : P} {n m : Nat} (ha : Tr a) (hb : Tr b) (hl : b.length = 1) (h1 : a.length ≤ 1000) (Ba : Bn n a) (Bb : Bn m b) (hn : n + a.length * (m + 1) ≤ 13000) (hm : m ≤ 13000) :
    ∃ g, Euc a b g ∧ whl cmC cmB [.im (dP a), .im (dP b)] = .ok .nx [.im (dP g), .im (dP [])] := by
  have nb : b ≠ [] := fun e => by rw [e] at hl; cases hl
  obtain ⟨s, j, r1, r2, r3, r5, r4⟩ := commonstep ha hb nb h1 Ba Bb (by rw [hl]; simpa using hn) hm
  have hlt := r1.lt
  have e : s = [] := List.length_eq_zero_iff.mp (by omega)
  subst e
  exact ⟨b, .step nb r1 Sim.refl tr_nil .done, r4 commonend⟩
theorem one_Bn {a : P} (ha : Tr a) (hl : a.length = 1) : Bn 1 (plainP a) := by
  have na : a ≠ [] := fun e => by rw [e] at hl; cases hl
  have hp := plain_prim ha na
  have hlen : (plainP a).length = 1 := by rw [plain_len, hl]
  have := hp (ld (plainP a)).natAbs fun k => by
    by_cases hk : k = 0
    · subst hk
      unfold ld
      rw [hlen]
      exact Int.natAbs_dvd.mpr (Int.dvd_refl _)
    · rw [co_ge (by omega)]; exact Int.dvd_zero _
  refine .of fun k => ?_
  by_cases hk : k = 0
  · subst hk
    unfold ld at this
    rw [hlen] at this
    have e : (co (plainP a) 0).natAbs = 1 := this
    omega
  · rw [co_ge (by omega)]; decide
theorem commonloop {C S : Nat} (hS : S ≤ 200) (hC2 : 2 ≤ C) (hC : (fb S + 2) * C ≤ 13000) : ∀ (k : Nat) (a b : P) (n m e : Nat), b.length ≤ k → Tr a → Tr b → Bn n a → Bn m b → Bud C e (n + 1) (m + 1) →
    (b.length = 1 → m + 1 ≤ C) → (a.length ≤ 1 → n + 1 ≤ C) → e + a.length + b.length ≤ S + 3 → e + 1 + b.length ≤ S + 3 →
    ∃ g, Euc a b g ∧ whl cmC cmB [.im (dP a), .im (dP b)] = .ok .nx [.im (dP g), .im (dP [])] := by
  rw [Nat.add_mul] at hC
  intro k
  induction k with
  | zero =>
    intro a b n m e hk ha hb Ba Bb I L1 L2 hl hl2
    have e0 : b = [] := List.length_eq_zero_iff.mp (by omega)
    subst e0
    exact ⟨a, .done, commonend⟩
  | succ k ih =>
    intro a b n m e hk ha hb Ba Bb I L1 L2 hl hl2
    by_cases nb : b = []
    · subst nb
      exact ⟨a, .done, commonend⟩
    have hpb := len_pos nb
    have hp := I.p1
    by_cases hb1 : b.length = 1
    · have L1 := L1 hb1
      refine commonlast ha hb hb1 (by omega) Ba Bb ?_ (by omega)
      have hq : a.length * (m + 1) ≤ a.length * C := Nat.mul_le_mul_left _ L1
      by_cases ha1 : a.length ≤ 1
      · have h2 := L2 ha1
        have h3 : a.length * C ≤ 1 * C := Nat.mul_le_mul_right _ ha1
        omega
      · have h4 := fb_gap (show e ≤ S by omega)
        have h5 : (fb e + a.length) * C ≤ (fb S + 2) * C := Nat.mul_le_mul_right _ (by omega)
        rw [Nat.add_mul, Nat.add_mul] at h5
        omega
    have heS : e ≤ S := by omega
    have hfe : fb e * C ≤ fb S * C := Nat.mul_le_mul_right _ (fb_mono heS)
    have hm : m ≤ 13000 := by have := I.p2; omega
    have hn : n + (a.length + 1 - b.length) * (m + 1) ≤ 13000 := by
      have h1 := (I.iter (a.length + 1 - b.length)).p1
      have h2 : fb (e + (a.length + 1 - b.length)) * C ≤ fb S * C := Nat.mul_le_mul_right _ (fb_mono (by omega))
      omega
    obtain ⟨s, j, r1, r2, r3, r5, r4⟩ := commonstep ha hb nb (by omega) Ba Bb hn hm
    have hs := r1.tr ha
    have hlt := r1.lt
    have Ij := (I.iter j).swap
    have ea : n + 1 + j * (m + 1) = n + j * (m + 1) + 1 := by omega
    rw [ea] at Ij
    by_cases hs1 : s.length = 1
    · obtain ⟨g, q1, q2⟩ := ih b (plainP s) m 1 (e + j) (by rw [plain_len]; omega) hb (plain_tr hs) Bb (one_Bn hs hs1) (Ij.one hC2) (fun _ => hC2) (fun h => by omega) (by rw [plain_len]; omega) (by rw [plain_len]; omega)
      exact ⟨g, .step nb r1 (plain_sim hs).symm (plain_tr hs) q1, r4 q2⟩
    · obtain ⟨g, q1, q2⟩ := ih b (plainP s) m (n + j * (m + 1)) (e + j) (by rw [plain_len]; omega) hb (plain_tr hs) Bb (plain_Bn hs r2) Ij (fun h => by rw [plain_len] at h; exact absurd h hs1) (fun h => by omega) (by rw [plain_len]; omega) (by rw [plain_len]; omega)
      exact ⟨g, .step nb r1 (plain_sim hs).symm (plain_tr hs) q1, r4 q2⟩
/-- room for Euclid: figures below 2^n -/
def Room2 (n la lb : Nat) : Prop := (lb ≤ 1 ∧ la ≤ 300 ∧ (1 + la) * (n + 1) ≤ 13000) ∨ ∃ S, S ≤ 200 ∧ la + lb ≤ S + 3 ∧ lb ≤ S + 2 ∧ (fb S + 2) * (n + 1) ≤ 13000
theorem Room2.n {n la lb : Nat} (h : Room2 n la lb) : n ≤ 13000 ∧ la ≤ 300 ∧ lb ≤ 300 := by
  rcases h with ⟨h1, h2, h3⟩ | ⟨S, h1, h2, h4, h3⟩
  · rw [Nat.add_mul] at h3
    omega
  · rw [Nat.add_mul] at h3
    omega
theorem R_common_eq {n : Nat} {a b : P} (ha : Tr a) (hb : Tr b) (h1n : 1 ≤ n) (Ba : Bn n a) (Bb : Bn n b) (R : Room2 n a.length b.length) :
    ∃ g, Euc (plainP a) (plainP b) g ∧ R_common [dP a, dP b] = .ok (dP g) [] := by
  have hR := R.n
  have key : ∃ g, Euc (plainP a) (plainP b) g ∧ whl cmC cmB [.im (dP (plainP a)), .im (dP (plainP b))] = .ok .nx [.im (dP g), .im (dP [])] := by
    rcases R with ⟨h1, h2, h3⟩ | ⟨S, h1, h2, h4, h3⟩
    · by_cases nb : b = []
      · subst nb
        exact ⟨_, .done, commonend⟩
      · have := len_pos nb
        refine commonlast (plain_tr ha) (plain_tr hb) (by rw [plain_len]; omega) (by rw [plain_len]; omega) (plain_Bn ha Ba) (plain_Bn hb Bb) ?_ hR.1
        rw [plain_len]
        rw [Nat.add_mul] at h3
        omega
    · exact commonloop h1 (by omega) h3 _ (plainP a) (plainP b) n n 0 (Nat.le_refl _) (plain_tr ha) (plain_tr hb) (plain_Bn ha Ba) (plain_Bn hb Bb) (Bud.init (Nat.le_refl _) (Nat.le_refl _)) (fun _ => Nat.le_refl _) (fun _ => Nat.le_refl _) (by rw [plain_len, plain_len]; omega) (by rw [plain_len]; omega)
  obtain ⟨g, q1, q2⟩ := key
  have p1 := R_plain_ok ha (by omega) Ba (by omega)
  have p2 := R_plain_ok hb (by omega) Bb (by omega)
  have s1 : parS 0 1 (consA (callA R_plain (consG (vl (var 0)) (V3.ret []))) (consA (callA R_plain (consG (vl (var 1)) (V3.ret []))) (V3.ret []))) [Sl.im (dP a), .im (dP b)] = .ok .nx [Sl.im (dP (plainP a)), .im (dP (plainP b))] :=
    parS_ok (consA_ok (call1 rfl p1) (consA_ok (call1 rfl p2) rfl)) rfl rfl
  exact ⟨g, q1, run_of rfl rfl ((thenS_ok s1).trans ((thenS_ok q2).trans (retS_ok rfl)))⟩
end K82
end

section
set_option Elab.async false
set_option linter.all false
set_option maxRecDepth 100000
set_option maxHeartbeats 1000000
/-! Q7: the law's own plain, sum and product, run at data. -/
namespace K82
open PySem (Str sizeLine)
open V3 Pm
open L2 (ixN atI)
/-! plain -/
theorem contloop' {A : Sl} : ∀ (l : P) (g : Nat) (s : Sl), (∀ es, s ≠ .ow es) →
    ∃ s', (∀ es, s' ≠ Sl.ow es) ∧ forL (setI 2) (asgS 1 (callA R__law_divisor (consG (vl (var 1)) (consG (vl (var 2)) (V3.ret []))))) (l.map .int) [A, .im (.int (g : Int)), s] = .ok .nx [A, .im (.int ((l.foldl (fun g x => Int.gcd g x) g : Nat) : Int)), s']
  | [], g, s, hs => ⟨s, hs, rfl⟩
  | x :: l, g, s, hs => by
    obtain ⟨s', h0, h⟩ := contloop' (A := A) l (Int.gcd g x) (.im (.int x)) (fun _ z => by cases z)
    refine ⟨s', h0, ?_⟩
    have e1 : setI 2 (.int x) [A, .im (.int (g : Int)), s] = .ok () [A, .im (.int (g : Int)), .im (.int x)] := by
      cases s <;> first | rfl | exact absurd rfl (hs _)
    have e2 : asgS 1 (callA R__law_divisor (consG (vl (var 1)) (consG (vl (var 2)) (V3.ret [])))) [A, .im (.int (g : Int)), .im (.int x)] = .ok .nx [A, .im (.int ((Int.gcd g x : Nat) : Int)), .im (.int x)] :=
      asgS_ok (call2 rfl rfl (R__law_divisor_eq _ _)) rfl
    show aft (setI 2 (.int x)) (bnd _ _) _ = _
    unfold aft
    rw [e1]
    show bnd _ _ _ = _
    rw [bnd_ok e2]
    exact h
theorem R__law_plain_eq {a : P} (ha : Tr a) (hl : a.length ≤ 1000) (hm : ∀ x ∈ a, fdivOk x (contentP a) = true ∧ fdivOk x (-(contentP a : Int)) = true) : R__law_plain [dP a] = .ok (dP (plainP a)) [] := by
  obtain ⟨s', hs', h⟩ := contloop' (A := .im (dP a)) a 0 .un (fun _ z => by cases z)
  have s1 : asgS 1 (V3.ret (.int 0)) [Sl.im (dP a), .un, .un] = .ok .nx [Sl.im (dP a), .im (.int 0), .un] := rfl
  have s2 : forS (tupS (var 0)) (setI 2) (asgS 1 (callA R__law_divisor (consG (vl (var 1)) (consG (vl (var 2)) (V3.ret []))))) [Sl.im (dP a), .im (.int 0), .un] = .ok .nx [.im (dP a), .im (.int (contentP a)), s'] :=
    (forS_ok (tupS_ok rfl)).trans h
  have c1 := neTest (i := 0) (b := a) (ρ := [.im (dP a), .im (.int (contentP a)), s']) rfl
  have s3 : ifS (andT (blE (op2 neD (var 0) (tupE (V3.ret [])))) (blE (op2 (cmpI fun i j => decide (i < j)) (op2 ixD (var 0) (op1 negD (V3.ret (.int 1)))) (V3.ret (.int 0))))) (asgS 1 (op1 negD (var 1))) skipS [Sl.im (dP a), .im (.int (contentP a)), s']
      = .ok .nx [Sl.im (dP a), .im (.int (plW a)), s'] := by
    by_cases na : a = []
    · rw [decide_eq_true na] at c1
      have c2 : andT (blE (op2 neD (var 0) (tupE (V3.ret [])))) (blE (op2 (cmpI fun i j => decide (i < j)) (op2 ixD (var 0) (op1 negD (V3.ret (.int 1)))) (V3.ret (.int 0)))) [Sl.im (dP a), .im (.int (contentP a)), s'] = .ok false [Sl.im (dP a), .im (.int (contentP a)), s'] := by
        unfold andT
        rw [bnd_ok c1]
        rfl
      refine (ifE_f c2).trans ?_
      subst na
      rfl
    · rw [decide_eq_false na] at c1
      have c2 : andT (blE (op2 neD (var 0) (tupE (V3.ret [])))) (blE (op2 (cmpI fun i j => decide (i < j)) (op2 ixD (var 0) (op1 negD (V3.ret (.int 1)))) (V3.ret (.int 0)))) [Sl.im (dP a), .im (.int (contentP a)), s'] = .ok (decide (ld a < 0)) [Sl.im (dP a), .im (.int (contentP a)), s'] := by
        unfold andT
        rw [bnd_ok c1]
        exact blE_ok (op2_ok (ixLast na rfl) rfl rfl)
      have hn := ha.ld na
      unfold plW
      by_cases hp : ld a < 0
      · rw [decide_eq_true hp] at c2
        rw [if_neg (by omega)]
        exact (ifE_t c2).trans (asgS_ok (op1_ok rfl rfl) rfl)
      · rw [decide_eq_false hp] at c2
        rw [if_pos (by omega)]
        exact (ifE_f c2).trans rfl
  let f : D → D := fun d => match d with | .int i => .int (i.fdiv (plW a)) | d => d
  have z := lcT (k := 2) (ρ := [.im (dP a), .im (.int (plW a)), s']) (el := op2 fdivD (var 2) (var 1)) (f := f) (ds := a.map .int) rfl (show 2 < 3 by decide) (fun ds z => hs' ds (Option.some.inj z)) (fun d hd => by
    obtain ⟨i, hi, rfl⟩ := List.mem_map.mp hd
    refine op2_ok rfl rfl (fdivD_ok ?_)
    unfold plW
    split
    · exact (hm i hi).1
    · exact (hm i hi).2) (by rw [List.length_map]; exact len_line hl)
  have em : (a.map D.int).map f = (plainP a).map D.int := by
    by_cases na : a = []
    · subst na; rfl
    · rw [plainP_eq na, List.map_map, List.map_map]; rfl
  rw [em] at z
  exact run_of rfl rfl ((thenS_ok s1).trans ((thenS_ok s2).trans ((thenS_ok s3).trans (retS_ok (opA1 (lsE_ok z) rfl)))))
theorem R__law_plain_ok {a : P} {n : Nat} (ha : Tr a) (hl : a.length ≤ 1000) (B : Bn n a) (hn : n ≤ 13500) : R__law_plain [dP a] = .ok (dP (plainP a)) [] := by
  by_cases na : a = []
  · subst na
    exact R__law_plain_eq tr_nil (by simp) fun x hx => by cases hx
  · exact R__law_plain_eq ha hl (plain_fd ha na B hn)
end K82
end

section
set_option Elab.async false
set_option linter.all false
set_option maxRecDepth 100000
set_option maxHeartbeats 1000000
/-! Q8: the law's own sum and product, run at data. -/
namespace K82
open PySem (Str sizeLine)
open V3 Pm
open L2 (ixN atI)
def sumP (a b : P) (t : Int) : P := trim (tab (maxN a b) fun k => co a k + t * co b k)
theorem co_sumP {a b : P} {t : Int} (k : Nat) : co (sumP a b t) k = co a k + t * co b k := by
  unfold sumP tab
  rw [co_trim, co_tab]
  unfold maxN
  by_cases h : k < max a.length b.length
  · rw [if_pos h]
  · rw [if_neg h, co_ge (a := a) (by omega), co_ge (a := b) (by omega), Int.mul_zero]; rfl
def padL (a : P) (n : Nat) : P := a ++ List.replicate (n - a.length) 0
theorem co_padL {a : P} {n k : Nat} : co (padL a n) k = co a k := by
  unfold padL co
  rw [List.getD_eq_getElem?_getD, List.getD_eq_getElem?_getD]
  by_cases h : k < a.length
  · rw [List.getElem?_append_left h]
  · rw [List.getElem?_append_right (by omega), List.getElem?_replicate, List.getElem?_eq_none (by omega)]
    split <;> rfl
theorem len_padL {a : P} {n : Nat} (h : a.length ≤ n) : (padL a n).length = n := by
  unfold padL
  rw [List.length_append, List.length_replicate]
  omega
theorem mulD_lst0 {n : Nat} (h : n ≤ 10000) : mulD (.lst [.int 0]) (.int (n : Int)) = some (dL (List.replicate n 0)) := by
  show (if -1000000 ≤ (n : Int) ∧ (n : Int) ≤ 1000000 ∧ [D.int 0].length * (n : Int).toNat ≤ sizeLine then some (D.lst (List.replicate (n : Int).toNat [D.int 0]).flatten) else none) = _
  rw [if_pos ⟨by omega, by omega, by rw [Int.toNat_natCast]; have := line_big; simp; omega⟩, Int.toNat_natCast, flat_one]
theorem addD_dL {a b : P} (h : a.length + b.length ≤ 100000) : addD (dL a) (dL b) = some (dL (a ++ b)) := by
  show (if (a.map D.int).length + (b.map D.int).length ≤ sizeLine then some (D.lst (a.map D.int ++ b.map D.int)) else none) = _
  rw [if_pos (by have := line_big; rw [List.length_map, List.length_map]; omega), ← List.map_append]
theorem pad_ok {i : Nat} {a : P} {n : Nat} {ρ : Ev} (hi : ρ[i]? = some (.im (dP a))) (h3 : ρ[3]? = some (.im (.int (n : Int)))) (hl : a.length ≤ n) (hn : n ≤ 10000) :
    op2 addD (opA listD (consG (vl (var i)) (V3.ret []))) (op2 mulD (lstE (consA (V3.ret (.int 0)) (V3.ret []))) (op2 subD (var 3) (opA lenD (consG (vl (var i)) (V3.ret []))))) ρ = .ok (dL (padL a n)) ρ := by
  have v3 : var 3 ρ = .ok (.int (n : Int)) ρ := by unfold var; rw [h3]
  have vi : var i ρ = .ok (dP a) ρ := by unfold var; rw [hi]
  have s : op2 subD (var 3) (opA lenD (consG (vl (var i)) (V3.ret []))) ρ = .ok (.int ((n - a.length : Nat) : Int)) ρ := by
    refine op2_ok v3 (call_len hi) ?_
    show some (D.int ((n : Int) - (a.length : Int))) = _
    rw [Int.ofNat_sub hl]
  have l0 : lstE (consA (V3.ret (.int 0)) (V3.ret [])) ρ = .ok (.lst [.int 0]) ρ := by
    have c0 : consA (V3.ret (.int 0)) (V3.ret []) ρ = .ok [.int 0] ρ := rfl
    unfold lstE
    rw [bnd_ok c0]
    exact lift_some (if_pos (len_line (show 1 ≤ 1000 by decide)))
  refine op2_ok (opA1 vi rfl) (op2_ok l0 s (mulD_lst0 (by omega))) (addD_dL ?_)
  rw [List.length_replicate]
  omega
theorem mulD_ok {i j : Int} (h : mulOk i j = true) : mulD (.int i) (.int j) = some (.int (i * j)) := by
  show (if mulOk i j = true then some (D.int (i * j)) else none) = _
  rw [if_pos h]
theorem ix_dL {a : P} {k : Nat} (h : k < a.length) : ixD (dL a) (.int (k : Int)) = some (.int (co a k)) := atI_co h
theorem ix_dP {a : P} {k : Nat} (h : k < a.length) : ixD (dP a) (.int (k : Int)) = some (.int (co a k)) := atI_co h
theorem R__law_sum_eq {a b : P} {t : Int} (ha : a.length ≤ 1000) (hb : b.length ≤ 1000) (hm : ∀ k, mulOk t (co b k) = true) : R__law_sum [dP a, dP b, .int t] = .ok (dP (sumP a b t)) [] := by
  have hN : maxN a b ≤ 1000 := by unfold maxN; omega
  have hA : a.length ≤ maxN a b := by unfold maxN; omega
  have hB : b.length ≤ maxN a b := by unfold maxN; omega
  have s1 : asgS 3 (opA maxD (consG (vl (opA lenD (consG (vl (var 0)) (V3.ret [])))) (consG (vl (opA lenD (consG (vl (var 1)) (V3.ret [])))) (V3.ret [])))) [Sl.im (dP a), .im (dP b), .im (.int t), .un, .un, .un, .un] = .ok .nx [Sl.im (dP a), .im (dP b), .im (.int t), .im (.int (maxN a b)), .un, .un, .un] := by
    simp [lenD, maxD, maxN]
  have s2 : asgS 4 (op2 addD (opA listD (consG (vl (var 0)) (V3.ret []))) (op2 mulD (lstE (consA (V3.ret (.int 0)) (V3.ret []))) (op2 subD (var 3) (opA lenD (consG (vl (var 0)) (V3.ret [])))))) [Sl.im (dP a), .im (dP b), .im (.int t), .im (.int (maxN a b)), .un, .un, .un]
      = .ok .nx [Sl.im (dP a), .im (dP b), .im (.int t), .im (.int (maxN a b)), .im (dL (padL a (maxN a b))), .un, .un] := asgS_ok (pad_ok rfl rfl hA (by omega)) rfl
  have s3 : asgS 5 (op2 addD (opA listD (consG (vl (var 1)) (V3.ret []))) (op2 mulD (lstE (consA (V3.ret (.int 0)) (V3.ret []))) (op2 subD (var 3) (opA lenD (consG (vl (var 1)) (V3.ret [])))))) [Sl.im (dP a), .im (dP b), .im (.int t), .im (.int (maxN a b)), .im (dL (padL a (maxN a b))), .un, .un]
      = .ok .nx [Sl.im (dP a), .im (dP b), .im (.int t), .im (.int (maxN a b)), .im (dL (padL a (maxN a b))), .im (dL (padL b (maxN a b))), .un] := asgS_ok (pad_ok rfl rfl hB (by omega)) rfl
  let f : D → D := fun d => match d with | .int i => .int (co a i.toNat + t * co b i.toNat) | d => d
  have z := lcE_pure (k := 6) (ρ := [Sl.im (dP a), .im (dP b), .im (.int t), .im (.int (maxN a b)), .im (dL (padL a (maxN a b))), .im (dL (padL b (maxN a b))), .un]) (el := op2 addD (op2 ixD (var 4) (var 6)) (op2 mulD (var 2) (op2 ixD (var 5) (var 6)))) (f := f) (src := rng1S (consA (var 3) (V3.ret []))) (ds := intsD 0 (maxN a b)) (rng1S_of (consA_ok rfl rfl) (by omega)) (show 6 < 7 by decide) (fun ds z => by simp at z) (fun d hd => by
    unfold intsD at hd
    obtain ⟨i, hi, rfl⟩ := List.mem_map.mp hd
    have hi := List.mem_range.mp hi
    rw [Int.zero_add]
    have g1 := ix_dL (a := padL a (maxN a b)) (k := i) (by rw [len_padL hA]; exact hi)
    have g2 := ix_dL (a := padL b (maxN a b)) (k := i) (by rw [len_padL hB]; exact hi)
    rw [co_padL] at g1 g2
    exact op2_ok (op2_ok rfl rfl g1) (op2_ok rfl (op2_ok rfl rfl g2) (mulD_ok (hm i))) rfl) (by
    unfold intsD
    rw [List.length_map, List.length_range]
    exact len_line hN)
  have em : (intsD 0 (maxN a b)).map f = (tab (maxN a b) fun k => co a k + t * co b k).map D.int := map_tab fun i hi => by simp [f]
  rw [em] at z
  exact run_of rfl rfl ((thenS_ok s1).trans ((thenS_ok s2).trans ((thenS_ok s3).trans (retS_ok (call1 (lsE_ok z) (R__law_cut_eq _))))))
end K82
end

section
set_option Elab.async false
set_option linter.all false
set_option maxRecDepth 100000
set_option maxHeartbeats 1000000
/-! Q9: the law's own product, run at data. -/
namespace K82
open PySem (Str sizeLine)
open V3 Pm
open L2 (ixN atI)
theorem co_set {a : P} {i k : Nat} {x : Int} (h : i < a.length) : co (a.set i x) k = if k = i then x else co a k := by
  unfold co
  rw [List.getD_eq_getElem?_getD, List.getD_eq_getElem?_getD]
  by_cases e : k = i
  · subst e
    rw [if_pos rfl, List.getElem?_set_self h]; rfl
  · rw [if_neg e, List.getElem?_set_ne (Ne.symm e)]
theorem augIx_ok {k i : Nat} {fi fe : Cm D} {g : Int → Int → Int} {es : P} {y : Int} {ρ : Ev} (h0 : slotL ρ k = some (es.map .int)) (hi : fi ρ = .ok (.int (i : Int)) ρ) (hl : i < es.length) (he : fe ρ = .ok (.int y) ρ) :
    augIx k fi g fe ρ = .ok .nx (ρ.set k (.ow ((es.set i (g (co es i) y)).map .int))) := by
  have o : V3.own k ρ = .ok (.o k) ρ := by unfold V3.own; rw [h0]
  have hg : getO k (i : Int) ρ = .ok (.int (co es i)) ρ := by
    unfold getO
    rw [h0]
    dsimp only
    rw [atI_co hl]
  unfold augIx
  rw [bnd_ok o, bnd_ok hi]
  show bnd (getO k (i : Int)) _ ρ = _
  rw [bnd_ok hg]
  show bnd fe _ ρ = _
  rw [bnd_ok he]
  show updO k (i : Int) (.int (g (co es i) y)) ρ = _
  unfold updO
  rw [h0]
  dsimp only
  rw [ixN_nat (by simpa using hl)]
  dsimp only
  rw [← List.map_set]
/-- the inner loop: j from s on, n turns -/
theorem prod_in {a b : P} {k : Nat} (hk : k < a.length) (hm : ∀ i j, mulOk (co a i) (co b j) = true) : ∀ (n s : Nat) (F : P) (x : Sl), (∀ es, x ≠ .ow es) → s + n ≤ b.length → F.length = a.length + b.length →
    ∃ F' x', (∀ es, x' ≠ Sl.ow es) ∧ F'.length = a.length + b.length ∧ (∀ i, co F' i = co F i + if k + s ≤ i ∧ i < k + s + n then co a k * co b (i - k) else 0) ∧
      forL (setI 4) (augIx 2 (op2 addD (var 3) (var 4)) (fun i j => i + j) (op2 mulD (op2 ixD (var 0) (var 3)) (op2 ixD (var 1) (var 4)))) ((List.range' s n).map fun i : Nat => D.int ((0 : Int) + (i : Int))) [.im (dP a), .im (dP b), .ow (F.map .int), .im (.int (k : Int)), x]
        = .ok .nx [.im (dP a), .im (dP b), .ow (F'.map .int), .im (.int (k : Int)), x']
  | 0, s, F, x, hx, _, hF => ⟨F, x, hx, hF, fun i => by rw [if_neg (by omega)]; omega, rfl⟩
  | n + 1, s, F, x, hx, hs, hF => by
    have hks : k + s < F.length := by omega
    obtain ⟨F', x', h1, h2, h3, h4⟩ := prod_in hk hm n (s + 1) (F.set (k + s) (co F (k + s) + co a k * co b s)) (.im (.int (s : Int))) (fun _ z => by cases z) (by omega) (by rw [List.length_set]; exact hF)
    refine ⟨F', x', h1, h2, fun i => ?_, ?_⟩
    · rw [h3, co_set hks]
      by_cases e : i = k + s
      · subst e
        rw [if_pos rfl, if_neg (by omega), if_pos (by omega), show k + s - k = s by omega]
        omega
      · rw [if_neg e]
        by_cases e2 : k + (s + 1) ≤ i ∧ i < k + (s + 1) + n
        · rw [if_pos e2, if_pos (by omega)]
        · rw [if_neg e2, if_neg (by omega)]
    · have e1 : setI 4 (.int ((0 : Int) + (s : Int))) [Sl.im (dP a), .im (dP b), .ow (F.map .int), .im (.int (k : Int)), x] = .ok () [Sl.im (dP a), .im (dP b), .ow (F.map .int), .im (.int (k : Int)), .im (.int (s : Int))] := by
        rw [Int.zero_add]
        cases x <;> first | rfl | exact absurd rfl (hx _)
      have g1 := ix_dP (a := a) hk
      have g2 := ix_dP (a := b) (k := s) (by omega)
      have e2 : augIx 2 (op2 addD (var 3) (var 4)) (fun i j => i + j) (op2 mulD (op2 ixD (var 0) (var 3)) (op2 ixD (var 1) (var 4))) [Sl.im (dP a), .im (dP b), .ow (F.map .int), .im (.int (k : Int)), .im (.int (s : Int))]
          = .ok .nx [Sl.im (dP a), .im (dP b), .ow ((F.set (k + s) (co F (k + s) + co a k * co b s)).map .int), .im (.int (k : Int)), .im (.int (s : Int))] :=
        augIx_ok (k := 2) (i := k + s) (es := F) rfl (op2_ok rfl rfl (by rw [Int.natCast_add]; rfl)) hks (op2_ok (op2_ok rfl rfl g1) (op2_ok rfl rfl g2) (mulD_ok (hm k s)))
      rw [List.range'_succ, List.map_cons]
      show aft (setI 4 _) (bnd _ _) _ = _
      unfold aft
      rw [e1]
      show bnd _ _ _ = _
      rw [bnd_ok e2]
      exact h4
theorem mul_take : ∀ {a : P} {b : P} {K : Nat}, K < a.length → ∀ i, co (mul (a.take (K + 1)) b) i = co (mul (a.take K) b) i + co a K * sh K b i
  | [], _, _, h, _ => by simp at h
  | x :: a, b, 0, _, i => by
    show co (mul [x] b) i = co (mul [] b) i + x * sh 0 b i
    have e : sh 0 b i = co b i := by unfold sh; rw [if_neg (by omega)]; rfl
    rw [e]
    cases i with
    | zero => rw [mul_zero]; simp [mul]
    | succ i => rw [mul_succ]; simp [mul]
  | x :: a, b, K + 1, h, 0 => by
    show co (mul (x :: a.take (K + 1)) b) 0 = co (mul (x :: a.take K) b) 0 + co a K * sh (K + 1) b 0
    rw [mul_zero, mul_zero]
    unfold sh
    rw [if_pos (by omega)]
    omega
  | x :: a, b, K + 1, h, i + 1 => by
    show co (mul (x :: a.take (K + 1)) b) (i + 1) = co (mul (x :: a.take K) b) (i + 1) + co a K * sh (K + 1) b (i + 1)
    have ih := mul_take (a := a) (b := b) (K := K) (by simpa using h) i
    rw [mul_succ, mul_succ, ih]
    have e : sh (K + 1) b (i + 1) = sh K b i := by
      unfold sh
      by_cases hk : i < K
      · rw [if_pos hk, if_pos (by omega)]
      · rw [if_neg hk, if_neg (by omega), show i + 1 - (K + 1) = i - K by omega]
    rw [e]
    omega
theorem prod_out {a b : P} (hb : b.length ≤ 1000) (hm : ∀ i j, mulOk (co a i) (co b j) = true) : ∀ (n K : Nat) (F : P) (x y : Sl), (∀ es, x ≠ .ow es) → (∀ es, y ≠ .ow es) → K + n ≤ a.length → F.length = a.length + b.length → (∀ i, co F i = co (mul (a.take K) b) i) →
    ∃ F' x' y', F'.length = a.length + b.length ∧ (∀ i, co F' i = co (mul (a.take (K + n)) b) i) ∧
      forL (setI 3) (forS (rng1S (consA (opA lenD (consG (vl (var 1)) (V3.ret []))) (V3.ret []))) (setI 4) (augIx 2 (op2 addD (var 3) (var 4)) (fun i j => i + j) (op2 mulD (op2 ixD (var 0) (var 3)) (op2 ixD (var 1) (var 4))))) ((List.range' K n).map fun i : Nat => D.int ((0 : Int) + (i : Int))) [.im (dP a), .im (dP b), .ow (F.map .int), x, y]
        = .ok .nx [.im (dP a), .im (dP b), .ow (F'.map .int), x', y']
  | 0, K, F, x, y, _, _, _, hF, hc => ⟨F, x, y, hF, hc, rfl⟩
  | n + 1, K, F, x, y, hx, hy, hK, hF, hc => by
    obtain ⟨F1, y1, h1, h2, h3, h4⟩ := prod_in (a := a) (b := b) (k := K) (by omega) hm b.length 0 F y hy (by omega) hF
    have hc1 : ∀ i, co F1 i = co (mul (a.take (K + 1)) b) i := fun i => by
      rw [h3, hc, mul_take (by omega)]
      congr 1
      unfold sh
      by_cases e : i < K
      · rw [if_pos e, if_neg (by omega)]; simp
      · rw [if_neg e]
        by_cases e2 : i < K + b.length
        · rw [if_pos (by omega)]
        · rw [if_neg (by omega), co_ge (a := b) (by omega)]; simp
    obtain ⟨F', x', y', q1, q2, q3⟩ := prod_out hb hm n (K + 1) F1 (.im (.int (K : Int))) y1 (fun _ z => by cases z) h1 (by omega) h2 hc1
    refine ⟨F', x', y', q1, by rw [show K + (n + 1) = K + 1 + n by omega]; exact q2, ?_⟩
    have e1 : setI 3 (.int ((0 : Int) + (K : Int))) [Sl.im (dP a), .im (dP b), .ow (F.map .int), x, y] = .ok () [Sl.im (dP a), .im (dP b), .ow (F.map .int), .im (.int (K : Int)), y] := by
      rw [Int.zero_add]
      cases x <;> first | rfl | exact absurd rfl (hx _)
    have e2 : forS (rng1S (consA (opA lenD (consG (vl (var 1)) (V3.ret []))) (V3.ret []))) (setI 4) (augIx 2 (op2 addD (var 3) (var 4)) (fun i j => i + j) (op2 mulD (op2 ixD (var 0) (var 3)) (op2 ixD (var 1) (var 4)))) [Sl.im (dP a), .im (dP b), .ow (F.map .int), .im (.int (K : Int)), y]
        = .ok .nx [.im (dP a), .im (dP b), .ow (F1.map .int), .im (.int (K : Int)), y1] := by
      refine (forS_ok (rng1S_of (n := b.length) (consA_ok (call_len rfl) rfl) (by omega))).trans ?_
      unfold intsD
      rw [List.range_eq_range']
      exact h4
    rw [List.range'_succ, List.map_cons]
    show aft (setI 3 _) (bnd _ _) _ = _
    unfold aft
    rw [e1]
    show bnd _ _ _ = _
    rw [bnd_ok e2]
    exact q3
theorem rep_zeros {ρ : Ev} {f : Cm D} {n : Nat} (h : f ρ = .ok (.int (n : Int)) ρ) (hn : n ≤ 10000) : repF (lstE (consA (V3.ret (.int 0)) (V3.ret []))) f ρ = .ok ((List.replicate n (0 : Int)).map .int) ρ := by
  have c0 : consA (V3.ret (.int 0)) (V3.ret []) ρ = .ok [.int 0] ρ := rfl
  have l0 : lstE (consA (V3.ret (.int 0)) (V3.ret [])) ρ = .ok (.lst [.int 0]) ρ := by
    unfold lstE
    rw [bnd_ok c0]
    exact lift_some (if_pos (len_line (show 1 ≤ 1000 by decide)))
  have r : repD (.lst [.int 0]) (.int (n : Int)) = some ((List.replicate n (0 : Int)).map .int) := by
    have c : -(2 ^ 63) ≤ (n : Int) ∧ (n : Int) < 2 ^ 63 ∧ [D.int 0].length * (n : Int).toNat ≤ sizeLine := by
      have e : (2 : Int) ^ 63 = 9223372036854775808 := by decide
      rw [e, Int.toNat_natCast]
      have := line_big
      refine ⟨by omega, by omega, ?_⟩
      show 1 * n ≤ sizeLine
      omega
    unfold repD
    dsimp only
    rw [if_pos c, Int.toNat_natCast, flat_one]
  unfold repF
  rw [bnd_ok l0, bnd_ok h]
  exact lift_some r
theorem R__law_product_eq {a b : P} (ha : a.length ≤ 1000) (hb : b.length ≤ 1000) (hm : ∀ i j, mulOk (co a i) (co b j) = true) : R__law_product [dP a, dP b] = .ok (dP (mulT a b)) [] := by
  obtain ⟨F', x', y', q1, q2, q3⟩ := prod_out (a := a) hb hm a.length 0 (List.replicate (a.length + b.length) 0) .un .un (fun _ z => by cases z) (fun _ z => by cases z) (by omega) List.length_replicate fun i => by
    have : co (List.replicate (a.length + b.length) (0 : Int)) i = 0 := by
      unfold co
      rw [List.getD_eq_getElem?_getD, List.getElem?_replicate]
      split <;> rfl
    rw [this]; rfl
  have s0 : op2 addD (opA lenD (consG (vl (var 0)) (V3.ret []))) (opA lenD (consG (vl (var 1)) (V3.ret []))) [Sl.im (dP a), .im (dP b), .un, .un, .un] = .ok (.int ((a.length + b.length : Nat) : Int)) [Sl.im (dP a), .im (dP b), .un, .un, .un] :=
    op2_ok (call_len rfl) (call_len rfl) (by rw [Int.natCast_add]; rfl)
  have s1 : asgO 2 2 (repF (lstE (consA (V3.ret (.int 0)) (V3.ret []))) (op2 addD (opA lenD (consG (vl (var 0)) (V3.ret []))) (opA lenD (consG (vl (var 1)) (V3.ret []))))) [Sl.im (dP a), .im (dP b), .un, .un, .un]
      = .ok .nx [Sl.im (dP a), .im (dP b), .ow ((List.replicate (a.length + b.length) (0 : Int)).map .int), .un, .un] := by
    unfold asgO
    rw [bnd_ok (rep_zeros s0 (by omega))]
    rfl
  have s2 : forS (rng1S (consA (opA lenD (consG (vl (var 0)) (V3.ret []))) (V3.ret []))) (setI 3) (forS (rng1S (consA (opA lenD (consG (vl (var 1)) (V3.ret []))) (V3.ret []))) (setI 4) (augIx 2 (op2 addD (var 3) (var 4)) (fun i j => i + j) (op2 mulD (op2 ixD (var 0) (var 3)) (op2 ixD (var 1) (var 4))))) [Sl.im (dP a), .im (dP b), .ow ((List.replicate (a.length + b.length) (0 : Int)).map .int), .un, .un]
      = .ok .nx [.im (dP a), .im (dP b), .ow (F'.map .int), x', y'] := by
    refine (forS_ok (rng1S_of (n := a.length) (consA_ok (call_len rfl) rfl) (by omega))).trans ?_
    unfold intsD
    rw [List.range_eq_range']
    exact q3
  have s3 : retS (callA R__law_cut (consG (V3.own 2) (V3.ret []))) [Sl.im (dP a), .im (dP b), .ow (F'.map .int), x', y'] = .ok (.rt (dP (trim F'))) [Sl.im (dP a), .im (dP b), .ow (F'.map .int), x', y'] := by
    refine retS_ok ?_
    have o : V3.own 2 [Sl.im (dP a), .im (dP b), .ow (F'.map .int), x', y'] = .ok (.o 2) [Sl.im (dP a), .im (dP b), .ow (F'.map .int), x', y'] := rfl
    simp [o, lf_ints]
  have e : trim F' = mulT a b := trim_eq mulT_tr fun k => by rw [q2, co_mulT, Nat.zero_add, List.take_length]
  rw [e] at s3
  exact run_of rfl rfl ((thenS_ok s1).trans ((thenS_ok s2).trans s3))
end K82
end

section
set_option Elab.async false
set_option linter.all false
set_option maxRecDepth 100000
set_option maxHeartbeats 1000000
/-! Q10: the law's own rest and common part. -/
namespace K82
open PySem (Str sizeLine)
open V3 Pm
open L2 (ixN atI)
def elS (a b : P) : P := sumP (mulT [ld b] a) (mulT (shL (a.length - b.length) [ld a]) b) (-1)
theorem co_one {x : Int} {a : P} (k : Nat) : co (mul [x] a) k = x * co a k := by
  cases k with
  | zero => rw [mul_zero]
  | succ k => rw [mul_succ]; simp [mul]
theorem co_shone {s : Nat} {x : Int} {b : P} (k : Nat) : co (mul (shL s [x]) b) k = x * sh s b k := by
  rw [mul_comm, mul_sh]
  unfold sh
  split
  · simp
  · rw [mul_comm, co_one]
theorem co_elS {a b : P} (k : Nat) : co (elS a b) k = ld b * co a k - ld a * sh (a.length - b.length) b k := by
  unfold elS
  rw [co_sumP, co_mulT, co_mulT, co_one, co_shone]
  omega
theorem elS_tr {a b : P} : Tr (elS a b) := trim_tr _
theorem elS_El {a b : P} : El a b (elS a b) := ⟨1, 1, by decide, by decide, fun k => by rw [co_elS]⟩
theorem El.plain {a b r : P} (h : El a b r) (hr : Tr r) : El a b (plainP r) := by
  by_cases nr : r = []
  · subst nr; exact h
  · obtain ⟨c, d, hc, hd, h⟩ := h
    refine ⟨c * plW r, d, Int.mul_ne_zero hc (plW_ne hr nr), hd, fun k => ?_⟩
    rw [Int.mul_assoc, co_plainP hr nr, h k]
theorem elS_Bn {a b : P} {n m : Nat} (Ba : Bn n a) (Bb : Bn m b) : Bn (n + m + 1) (elS a b) := .of fun k => by
  rw [co_elS]
  have h3 := Ba.co k
  have h4 : (sh (a.length - b.length) b k).natAbs < 2 ^ m := by
    unfold sh
    split
    · exact Nat.two_pow_pos m
    · exact Bb.co _
  have p1 : (ld b * co a k).natAbs < 2 ^ (n + m) := by
    rw [Int.natAbs_mul, Nat.pow_add, Nat.mul_comm (2 ^ n)]
    exact Nat.mul_lt_mul'' Bb.ld h3
  have p2 : (ld a * sh (a.length - b.length) b k).natAbs < 2 ^ (n + m) := by
    rw [Int.natAbs_mul, Nat.pow_add]
    exact Nat.mul_lt_mul'' Ba.ld h4
  rw [Nat.pow_succ]
  omega
theorem call3 {R : List D → Rs D} {f g h : Cm D} {d e w z : D} {ρ ρ1 ρ2 ρ3 : Ev} (k1 : f ρ = .ok d ρ1) (k2 : g ρ1 = .ok e ρ2) (k3 : h ρ2 = .ok w ρ3) (hR : R [d, e, w] = .ok z []) : callA R (consG (vl f) (consG (vl g) (consG (vl h) (V3.ret [])))) ρ = .ok z ρ3 := by
  simp [k1, k2, k3, hR]
theorem len_mulT (p u : P) : (mulT p u).length ≤ p.length + u.length := by
  unfold mulT
  refine Nat.le_trans (trim_len _) ?_
  have : ∀ (p u : P), (mul p u).length ≤ p.length + u.length := by
    intro p u
    have la : ∀ (a b : P), (add a b).length ≤ max a.length b.length := by
      intro a
      induction a with
      | nil => intro b; simp [add]
      | cons x a ih =>
        intro b
        cases b with
        | nil => simp [add]
        | cons y b => have := ih b; simp [add]; omega
    induction p with
    | nil => simp [mul]
    | cons x p ih =>
      have := la (u.map (x * ·)) (0 :: mul p u)
      simp [mul] at this ⊢
      omega
  exact this p u
theorem leftloop {b : P} {m : Nat} (hb : Tr b) (nb : b ≠ []) (hb1 : b.length ≤ 300) (Bb : Bn m b) : ∀ (k : Nat) (a : P) (n : Nat) (x y : Sl), (∀ es, x ≠ .ow es) → (∀ es, y ≠ .ow es) → a.length ≤ k → a.length ≤ 300 → Tr a → Bn n a → n + (a.length + 1 - b.length) * (m + 1) ≤ 13000 → m ≤ 13000 →
    ∃ s j x' y', Rest b a s ∧ Bn (n + j * (m + 1)) s ∧ j + s.length ≤ a.length ∧ j ≤ a.length + 1 - b.length ∧ (s = a ∧ j = 0 ∨ ∃ r, Tr r ∧ s = plainP r) ∧
      whl (blE (op2 (cmpI fun i j => decide (j ≤ i)) (opA lenD (consG (vl (var 0)) (V3.ret []))) (opA lenD (consG (vl (var 1)) (V3.ret []))))) (thenS (asgS 2 (op2 subD (opA lenD (consG (vl (var 0)) (V3.ret []))) (opA lenD (consG (vl (var 1)) (V3.ret []))))) (thenS (asgS 3 (callA R__law_product (consG (vl (op2 addD (op2 mulD (tupE (consA (V3.ret (.int 0)) (V3.ret []))) (var 2)) (tupE (consA (op2 ixD (var 0) (op1 negD (V3.ret (.int 1)))) (V3.ret []))))) (consG (vl (var 1)) (V3.ret []))))) (asgS 0 (callA R__law_plain (consG (vl (callA R__law_sum (consG (vl (callA R__law_product (consG (vl (tupE (consA (op2 ixD (var 1) (op1 negD (V3.ret (.int 1)))) (V3.ret [])))) (consG (vl (var 0)) (V3.ret []))))) (consG (vl (var 3)) (consG (vl (op1 negD (V3.ret (.int 1)))) (V3.ret [])))))) (V3.ret []))))))
        [.im (dP a), .im (dP b), x, y] = .ok .nx [.im (dP s), .im (dP b), x', y'] := by
  intro k
  induction k with
  | zero =>
    intro a n x y hx hy hk h1 ha Ba hn hm
    have := len_pos nb
    refine ⟨a, 0, x, y, .done (by omega), by simpa using Ba, by omega, by omega, .inl ⟨rfl, rfl⟩, ?_⟩
    have c : blE (op2 (cmpI fun i j => decide (j ≤ i)) (opA lenD (consG (vl (var 0)) (V3.ret []))) (opA lenD (consG (vl (var 1)) (V3.ret [])))) [Sl.im (dP a), .im (dP b), x, y] = .ok (decide ((b.length : Int) ≤ (a.length : Int))) [Sl.im (dP a), .im (dP b), x, y] := blE_ok (op2_ok (call_len rfl) (call_len rfl) rfl)
    rw [decide_eq_false (by omega)] at c
    rw [whl_eq, bnd_ok c]
    rfl
  | succ k ih =>
    intro a n x y hx hy hk h1 ha Ba hn hm
    have hpb := len_pos nb
    have c : blE (op2 (cmpI fun i j => decide (j ≤ i)) (opA lenD (consG (vl (var 0)) (V3.ret []))) (opA lenD (consG (vl (var 1)) (V3.ret [])))) [Sl.im (dP a), .im (dP b), x, y] = .ok (decide ((b.length : Int) ≤ (a.length : Int))) [Sl.im (dP a), .im (dP b), x, y] := blE_ok (op2_ok (call_len rfl) (call_len rfl) rfl)
    by_cases hl : b.length ≤ a.length
    · have na : a ≠ [] := fun e => by rw [e, List.length_nil] at hl; omega
      rw [decide_eq_true (by omega)] at c
      have hel := elS_El (a := a) (b := b)
      have hlt := hel.len nb hl elS_tr
      have mm : (a.length + 1 - b.length) * (m + 1) = (a.length - b.length) * (m + 1) + (m + 1) := by
        rw [show a.length + 1 - b.length = (a.length - b.length) + 1 by omega, Nat.add_mul, Nat.one_mul]
      have hle : ((elS a b).length + 1 - b.length) * (m + 1) ≤ (a.length - b.length) * (m + 1) := Nat.mul_le_mul_right _ (by omega)
      have s1 : asgS 2 (op2 subD (opA lenD (consG (vl (var 0)) (V3.ret []))) (opA lenD (consG (vl (var 1)) (V3.ret [])))) [Sl.im (dP a), .im (dP b), x, y] = .ok .nx [Sl.im (dP a), .im (dP b), .im (.int ((a.length - b.length : Nat) : Int)), y] := by
        refine asgS_ok (op2_ok (call_len rfl) (call_len rfl) (z := .int ((a.length - b.length : Nat) : Int)) ?_) ?_
        · show some (D.int ((a.length : Int) - (b.length : Int))) = _
          rw [Int.ofNat_sub hl]
        · cases x <;> first | rfl | exact absurd rfl (hx _)
      have big : ∀ {z : Int} {q : Nat}, z.natAbs < 2 ^ q → q ≤ 20000 → z.natAbs < 2 ^ 60000 := fun h hq => pow_le h (by omega)
      have coS : ∀ {s : Nat} {w : Int} (j : Nat), (co (shL s [w]) j).natAbs ≤ w.natAbs := fun {s w} j => by
        rw [co_sh]
        unfold sh
        split
        · simp
        · cases j - s <;> simp
      have p1 := R__law_product_eq (a := shL (a.length - b.length) [ld a]) (b := b) (by unfold shL; simp; omega) (by omega) fun i j => mulOk_of (Nat.lt_of_le_of_lt (coS i) (big Ba.ld (by omega))) (big (Bb.co j) (by omega))
      have p2 := R__law_product_eq (a := [ld b]) (b := a) (by simp) (by omega) fun i j => mulOk_of (by
        cases i with
        | zero => exact big Bb.ld (by omega)
        | succ i => simp; exact Nat.two_pow_pos _) (big (Ba.co j) (by omega))
      have e1 : tupE (consA (V3.ret (.int 0)) (V3.ret [])) [Sl.im (dP a), .im (dP b), .im (.int ((a.length - b.length : Nat) : Int)), y] = .ok (.tup [.int 0]) [Sl.im (dP a), .im (dP b), .im (.int ((a.length - b.length : Nat) : Int)), y] := tupE_ok (consA_ok rfl rfl) (len_line (show 1 ≤ 1000 by decide))
      have e2 : tupE (consA (op2 ixD (var 0) (op1 negD (V3.ret (.int 1)))) (V3.ret [])) [Sl.im (dP a), .im (dP b), .im (.int ((a.length - b.length : Nat) : Int)), y] = .ok (dP [ld a]) [Sl.im (dP a), .im (dP b), .im (.int ((a.length - b.length : Nat) : Int)), y] := tupE_ok (consA_ok (ixLast na rfl) rfl) (len_line (show 1 ≤ 1000 by decide))
      have s2 : asgS 3 (callA R__law_product (consG (vl (op2 addD (op2 mulD (tupE (consA (V3.ret (.int 0)) (V3.ret []))) (var 2)) (tupE (consA (op2 ixD (var 0) (op1 negD (V3.ret (.int 1)))) (V3.ret []))))) (consG (vl (var 1)) (V3.ret [])))) [Sl.im (dP a), .im (dP b), .im (.int ((a.length - b.length : Nat) : Int)), y]
          = .ok .nx [Sl.im (dP a), .im (dP b), .im (.int ((a.length - b.length : Nat) : Int)), .im (dP (mulT (shL (a.length - b.length) [ld a]) b))] := by
        refine asgS_ok (call2 (op2_ok (op2_ok e1 rfl (mulD_zeros (by omega))) e2 (addD_dP (by rw [List.length_replicate]; simp; omega))) rfl p1) ?_
        cases y <;> first | rfl | exact absurd rfl (hy _)
      have e3 : tupE (consA (op2 ixD (var 1) (op1 negD (V3.ret (.int 1)))) (V3.ret [])) [Sl.im (dP a), .im (dP b), .im (.int ((a.length - b.length : Nat) : Int)), .im (dP (mulT (shL (a.length - b.length) [ld a]) b))] = .ok (dP [ld b]) [Sl.im (dP a), .im (dP b), .im (.int ((a.length - b.length : Nat) : Int)), .im (dP (mulT (shL (a.length - b.length) [ld a]) b))] := tupE_ok (consA_ok (ixLast nb rfl) rfl) (len_line (show 1 ≤ 1000 by decide))
      have l1 := len_mulT [ld b] a
      have l2 := len_mulT (shL (a.length - b.length) [ld a]) b
      have l3 : (shL (a.length - b.length) [ld a]).length = a.length - b.length + 1 := by unfold shL; simp
      have l4 : [ld b].length = 1 := rfl
      have p3 := R__law_sum_eq (a := mulT [ld b] a) (b := mulT (shL (a.length - b.length) [ld a]) b) (t := -1) (by omega) (by omega) fun j => mulOk_of (Nat.lt_of_lt_of_le (by decide : (-1 : Int).natAbs < 2) (Nat.le_self_pow (by decide) 2)) (by
        rw [co_mulT, co_shone, Int.natAbs_mul]
        have h4 : (sh (a.length - b.length) b j).natAbs < 2 ^ m := by
          unfold sh
          split
          · exact Nat.two_pow_pos m
          · exact Bb.co _
        refine pow_le (n := n + m) ?_ (by omega)
        rw [Nat.pow_add]
        exact Nat.mul_lt_mul'' Ba.ld h4)
      have p4 := R__law_plain_ok (a := elS a b) (n := n + m + 1) elS_tr (by omega) (elS_Bn Ba Bb) (by omega)
      have s3 : asgS 0 (callA R__law_plain (consG (vl (callA R__law_sum (consG (vl (callA R__law_product (consG (vl (tupE (consA (op2 ixD (var 1) (op1 negD (V3.ret (.int 1)))) (V3.ret [])))) (consG (vl (var 0)) (V3.ret []))))) (consG (vl (var 3)) (consG (vl (op1 negD (V3.ret (.int 1)))) (V3.ret [])))))) (V3.ret []))) [Sl.im (dP a), .im (dP b), .im (.int ((a.length - b.length : Nat) : Int)), .im (dP (mulT (shL (a.length - b.length) [ld a]) b))]
          = .ok .nx [Sl.im (dP (plainP (elS a b))), .im (dP b), .im (.int ((a.length - b.length : Nat) : Int)), .im (dP (mulT (shL (a.length - b.length) [ld a]) b))] :=
        asgS_ok (call1 (call3 (call2 e3 rfl p2) rfl (op1_ok rfl rfl) p3) p4) rfl
      obtain ⟨s, j, x', y', r1, r2, r3, r5, r6, r4⟩ := ih (plainP (elS a b)) (n + m + 1) (.im (.int ((a.length - b.length : Nat) : Int))) (.im (dP (mulT (shL (a.length - b.length) [ld a]) b))) (fun _ z => by cases z) (fun _ z => by cases z) (by rw [plain_len]; omega) (by rw [plain_len]; omega) (plain_tr elS_tr) (plain_Bn elS_tr (elS_Bn Ba Bb)) (by rw [plain_len]; omega) hm
      rw [plain_len] at r3 r5
      refine ⟨s, j + 1, x', y', .step hl (El.plain hel elS_tr) (plain_tr elS_tr) r1, ?_, by omega, by omega, .inr (r6.elim (fun z => ⟨_, elS_tr, z.1⟩) id), ?_⟩
      · rw [Nat.add_mul, Nat.one_mul]
        exact r2.mono (by omega)
      · rw [whl_eq, bnd_ok c]
        show bnd _ _ _ = _
        rw [bnd_ok ((thenS_ok s1).trans ((thenS_ok s2).trans s3))]
        exact r4
    · refine ⟨a, 0, x, y, .done (by omega), by simpa using Ba, by omega, by omega, .inl ⟨rfl, rfl⟩, ?_⟩
      rw [decide_eq_false (by omega)] at c
      rw [whl_eq, bnd_ok c]
      rfl
end K82
end

section
set_option Elab.async false
set_option linter.all false
set_option maxRecDepth 100000
set_option maxHeartbeats 1000000
/-! Q11: the law's own common part. -/
namespace K82
open PySem (Str sizeLine)
open V3 Pm
open L2 (ixN atI)
theorem R__law_left_eq {a b : P} {n m : Nat} (ha : Tr a) (hb : Tr b) (nb : b ≠ []) (h1 : a.length ≤ 300) (h2 : b.length ≤ 300) (Ba : Bn n a) (Bb : Bn m b) (hn : n + (a.length + 1 - b.length) * (m + 1) ≤ 13000) (hm : m ≤ 13000) :
    ∃ s j, Rest b a s ∧ Bn (n + j * (m + 1)) s ∧ j + s.length ≤ a.length ∧ j ≤ a.length + 1 - b.length ∧ (s = a ∧ j = 0 ∨ ∃ r, Tr r ∧ s = plainP r) ∧ R__law_left [dP a, dP b] = .ok (dP s) [] := by
  obtain ⟨s, j, x', y', r1, r2, r3, r5, r6, r4⟩ := leftloop hb nb h2 Bb a.length a n .un .un (fun _ z => by cases z) (fun _ z => by cases z) (Nat.le_refl _) h1 ha Ba hn hm
  exact ⟨s, j, r1, r2, r3, r5, r6, run_of rfl rfl ((thenS_ok r4).trans (retS_ok rfl))⟩
noncomputable abbrev lcC : Cm Bool := blE (op2 neD (var 1) (tupE (V3.ret [])))
noncomputable abbrev lcB : Cm Fl := parS 0 1 (consA (var 1) (consA (callA R__law_left (consG (vl (var 0)) (consG (vl (var 1)) (V3.ret [])))) (V3.ret [])))
theorem lcommonend {a : P} : whl lcC lcB [.im (dP a), .im (dP [])] = .ok .nx [.im (dP a), .im (dP [])] := by
  have c := neTest (i := 1) (b := []) (ρ := [.im (dP a), .im (dP [])]) rfl
  rw [whl_eq, bnd_ok c]
  rfl
theorem lcommonstep {a b : P} {n m : Nat} (ha : Tr a) (hb : Tr b) (nb : b ≠ []) (h1 : a.length ≤ 300) (h2 : b.length ≤ 300) (Ba : Bn n a) (Bb : Bn m b) (hn : n + (a.length + 1 - b.length) * (m + 1) ≤ 13000) (hm : m ≤ 13000) :
    ∃ s j, Rest b a s ∧ Bn (n + j * (m + 1)) s ∧ j + s.length ≤ a.length ∧ j ≤ a.length + 1 - b.length ∧ (s = a ∧ j = 0 ∨ ∃ r, Tr r ∧ s = plainP r) ∧ ∀ {X : Rs Fl}, whl lcC lcB [.im (dP b), .im (dP s)] = X → whl lcC lcB [.im (dP a), .im (dP b)] = X := by
  have c := neTest (i := 1) (b := b) (ρ := [.im (dP a), .im (dP b)]) rfl
  rw [decide_eq_false nb] at c
  obtain ⟨s, j, r1, r2, r3, r5, r6, r4⟩ := R__law_left_eq ha hb nb h1 h2 Ba Bb hn hm
  refine ⟨s, j, r1, r2, r3, r5, r6, fun hX => ?_⟩
  have s1 : lcB [Sl.im (dP a), .im (dP b)] = .ok .nx [Sl.im (dP b), .im (dP s)] :=
    parS_ok (consA_ok rfl (consA_ok (call2 rfl rfl r4) rfl)) rfl rfl
  rw [whl_eq, bnd_ok c]
  show bnd _ _ _ = _
  rw [bnd_ok s1]
  exact hX
theorem lcommonlast {a b : P} {n m : Nat} (ha : Tr a) (hb : Tr b) (hl : b.length = 1) (h1 : a.length ≤ 300) (Ba : Bn n a) (Bb : Bn m b) (hn : n + a.length * (m + 1) ≤ 13000) (hm : m ≤ 13000) :
    ∃ g q, Euc a b g ∧ Bn q g ∧ q ≤ 13000 ∧ g.length ≤ 300 ∧ whl lcC lcB [.im (dP a), .im (dP b)] = .ok .nx [.im (dP g), .im (dP [])] := by
  have nb : b ≠ [] := fun e => by rw [e] at hl; cases hl
  obtain ⟨s, j, r1, r2, r3, r5, r6, r4⟩ := lcommonstep ha hb nb h1 (by omega) Ba Bb (by rw [hl]; simpa using hn) hm
  have hlt := r1.lt
  have e : s = [] := List.length_eq_zero_iff.mp (by omega)
  subst e
  exact ⟨b, m, .step nb r1 Sim.refl tr_nil .done, Bb, hm, by omega, r4 lcommonend⟩
theorem lcommonloop {C S : Nat} (hS : S ≤ 200) (hC2 : 2 ≤ C) (hC : (fb S + 2) * C ≤ 13000) : ∀ (k : Nat) (a b : P) (n m e : Nat), b.length ≤ k → Tr a → Tr b → Bn n a → Bn m b → Bud C e (n + 1) (m + 1) →
    (b.length = 1 → m + 1 ≤ C) → (a.length ≤ 1 → n + 1 ≤ C) → e + a.length + b.length ≤ S + 3 → e + 1 + b.length ≤ S + 3 → n ≤ 13000 →
    ∃ g q, Euc a b g ∧ Bn q g ∧ q ≤ 13000 ∧ g.length ≤ 300 ∧ whl lcC lcB [.im (dP a), .im (dP b)] = .ok .nx [.im (dP g), .im (dP [])] := by
  rw [Nat.add_mul] at hC
  intro k
  induction k with
  | zero =>
    intro a b n m e hk ha hb Ba Bb I L1 L2 hl hl2 hn0
    have e0 : b = [] := List.length_eq_zero_iff.mp (by omega)
    subst e0
    exact ⟨a, n, .done, Ba, hn0, by omega, lcommonend⟩
  | succ k ih =>
    intro a b n m e hk ha hb Ba Bb I L1 L2 hl hl2 hn0
    by_cases nb : b = []
    · subst nb
      exact ⟨a, n, .done, Ba, hn0, by omega, lcommonend⟩
    have hpb := len_pos nb
    have hp := I.p1
    by_cases hb1 : b.length = 1
    · have L1 := L1 hb1
      refine lcommonlast ha hb hb1 (by omega) Ba Bb ?_ (by omega)
      have hq : a.length * (m + 1) ≤ a.length * C := Nat.mul_le_mul_left _ L1
      by_cases ha1 : a.length ≤ 1
      · have h2 := L2 ha1
        have h3 : a.length * C ≤ 1 * C := Nat.mul_le_mul_right _ ha1
        omega
      · have h4 := fb_gap (show e ≤ S by omega)
        have h5 : (fb e + a.length) * C ≤ (fb S + 2) * C := Nat.mul_le_mul_right _ (by omega)
        rw [Nat.add_mul, Nat.add_mul] at h5
        omega
    have heS : e ≤ S := by omega
    have hfe : fb e * C ≤ fb S * C := Nat.mul_le_mul_right _ (fb_mono heS)
    have hm : m ≤ 13000 := by have := I.p2; omega
    have hn : n + (a.length + 1 - b.length) * (m + 1) ≤ 13000 := by
      have h1 := (I.iter (a.length + 1 - b.length)).p1
      have h2 : fb (e + (a.length + 1 - b.length)) * C ≤ fb S * C := Nat.mul_le_mul_right _ (fb_mono (by omega))
      omega
    obtain ⟨s, j, r1, r2, r3, r5, r6, r4⟩ := lcommonstep ha hb nb (by omega) (by omega) Ba Bb hn hm
    have hs := r1.tr ha
    have hlt := r1.lt
    have Ij := (I.iter j).swap
    have ea : n + 1 + j * (m + 1) = n + j * (m + 1) + 1 := by omega
    rw [ea] at Ij
    by_cases hs1 : s.length = 1
    · rcases r6 with ⟨z1, z2⟩ | ⟨r, z1, z2⟩
      · subst z1 z2
        have i0 := I.swap
        obtain ⟨g, q, q1, q2, q3, q4, q5⟩ := ih b s m n e (by omega) hb hs Bb Ba i0 (fun _ => L2 (by omega)) (fun h => by omega) (by omega) (by omega) hm
        exact ⟨g, q, .step nb r1 Sim.refl hs q1, q2, q3, q4, r4 q5⟩
      · have hb1 : Bn 1 s := by rw [z2]; exact one_Bn z1 (by rw [z2, plain_len] at hs1; exact hs1)
        obtain ⟨g, q, q1, q2, q3, q4, q5⟩ := ih b s m 1 (e + j) (by omega) hb hs Bb hb1 (Ij.one hC2) (fun _ => hC2) (fun h => by omega) (by omega) (by omega) hm
        exact ⟨g, q, .step nb r1 Sim.refl hs q1, q2, q3, q4, r4 q5⟩
    · obtain ⟨g, q, q1, q2, q3, q4, q5⟩ := ih b s m (n + j * (m + 1)) (e + j) (by omega) hb hs Bb r2 Ij (fun h => absurd h hs1) (fun h => by omega) (by omega) (by omega) hm
      exact ⟨g, q, .step nb r1 Sim.refl hs q1, q2, q3, q4, r4 q5⟩
theorem R__law_common_eq {n : Nat} {a b : P} (ha : Tr a) (hb : Tr b) (h1n : 1 ≤ n) (Ba : Bn n a) (Bb : Bn n b) (R : Room2 n a.length b.length) :
    ∃ g, Euc a b g ∧ Bn 13000 g ∧ g.length ≤ 300 ∧ R__law_common [dP a, dP b] = .ok (dP (plainP g)) [] := by
  have hR := R.n
  have key : ∃ g q, Euc a b g ∧ Bn q g ∧ q ≤ 13000 ∧ g.length ≤ 300 ∧ whl lcC lcB [.im (dP a), .im (dP b)] = .ok .nx [.im (dP g), .im (dP [])] := by
    rcases R with ⟨h1, h2, h3⟩ | ⟨S, h1, h2, h4, h3⟩
    · by_cases nb : b = []
      · subst nb
        exact ⟨_, n, .done, Ba, hR.1, hR.2.1, lcommonend⟩
      · have := len_pos nb
        refine lcommonlast ha hb (by omega) (by omega) Ba Bb ?_ hR.1
        rw [Nat.add_mul] at h3
        omega
    · exact lcommonloop h1 (by omega) h3 _ a b n n 0 (Nat.le_refl _) ha hb Ba Bb (Bud.init (Nat.le_refl _) (Nat.le_refl _)) (fun _ => Nat.le_refl _) (fun _ => Nat.le_refl _) (by omega) (by omega) hR.1
  obtain ⟨g, q, q1, q2, q3, q4, q5⟩ := key
  exact ⟨g, q1, q2.mono q3, q4, run_of rfl rfl ((thenS_ok q5).trans (retS_ok (call1 rfl (R__law_plain_ok (q1.tr ha hb) (by omega) q2 (by omega)))))⟩
end K82
end

section
set_option Elab.async false
set_option linter.all false
set_option maxRecDepth 100000
set_option maxHeartbeats 1000000
/-! Q12: the law's own division, exact. -/
namespace K82
open PySem (Str sizeLine)
open V3 Pm
open L2 (ixN atI)
theorem mulOk_big {i j : Int} {n m : Nat} (hi : i.natAbs < 2 ^ n) (hj : j.natAbs < 2 ^ m) (h : n + m < 100000000) : mulOk i j = true := by
  unfold mulOk
  have h1 := log2_le hi
  have h2 := log2_le hj
  exact decide_eq_true (by omega)
theorem eq_co {a b : P} (hl : a.length = b.length) (h : ∀ k, co a k = co b k) : a = b := by
  apply List.ext_getElem hl
  intro k h1 h2
  rw [← co_lt h1, ← co_lt h2, h k]
def dropTop (v : P) : P := trim (v.take (v.length - 1))
theorem co_dropTop {v : P} (k : Nat) : co (dropTop v) k = if k < v.length - 1 then co v k else 0 := by
  unfold dropTop
  rw [co_trim]
  unfold co
  rw [List.getD_eq_getElem?_getD, List.getD_eq_getElem?_getD, List.getElem?_take]
  split <;> rfl
theorem len_dropTop {v : P} (nv : v ≠ []) : (dropTop v).length < v.length := by
  have := len_pos nv
  have h0 : Tr (dropTop v) := trim_tr _
  have := len_le (n := v.length - 1) h0 fun k hk => by rw [co_dropTop, if_neg (by omega)]
  omega
theorem dropTop_add {v : P} (nv : v ≠ []) (k : Nat) : co v k = co (dropTop v) k + co (shL (v.length - 1) [ld v]) k := by
  have := len_pos nv
  rw [co_dropTop, co_sh]
  unfold sh
  by_cases h : k < v.length - 1
  · rw [if_pos h, if_pos h]; omega
  · rw [if_neg h, if_neg h]
    by_cases e : k = v.length - 1
    · subst e; rw [Nat.sub_self, co_zero]; unfold ld; omega
    · rw [co_ge (a := v) (by omega)]
      cases q : k - (v.length - 1) with
      | zero => omega
      | succ r => simp
theorem setIx_ok {k i : Nat} {fi fe : Cm D} {es : P} {y : Int} {ρ : Ev} (h0 : slotL ρ k = some (es.map .int)) (he : fe ρ = .ok (.int y) ρ) (hi : fi ρ = .ok (.int (i : Int)) ρ) (hl : i < es.length) :
    setIx k fe fi ρ = .ok .nx (ρ.set k (.ow ((es.set i y).map .int))) := by
  have o : V3.own k ρ = .ok (.o k) ρ := by unfold V3.own; rw [h0]
  unfold setIx
  rw [bnd_ok he, bnd_ok o, bnd_ok hi]
  show updO k (i : Int) (.int y) ρ = _
  unfold updO
  rw [h0]
  dsimp only
  rw [ixN_nat (by simpa using hl)]
  dsimp only
  rw [← List.map_set]
theorem own_ix {k i : Nat} {fi : Cm D} {es : P} {ρ : Ev} (h0 : slotL ρ k = some (es.map .int)) (hi : fi ρ = .ok (.int (i : Int)) ρ) (hl : i < es.length) : op2g ixD (V3.own k) (vl fi) ρ = .ok (.int (co es i)) ρ := by
  have o : V3.own k ρ = .ok (.o k) ρ := by unfold V3.own; rw [h0]
  have e : ixD (.lst (es.map .int)) (.int (i : Int)) = some (.int (co es i)) := ix_dL hl
  simp [o, hi, h0, e]
end K82
end

section
set_option Elab.async false
set_option linter.all false
set_option maxRecDepth 100000
set_option maxHeartbeats 1000000
open V3
local macro_rules | `(tactic| get_elem_tactic_extensible) => `(tactic| repeat' (first
  | with_reducible first
    | exact V3.skipS_go | exact V3.raiseS_go | exact V3.partN_go
    | apply V3.thenS_go | apply V3.asgS_go | apply V3.retS_go | apply V3.exprS_go | apply V3.op2_go | apply V3.op1_go | apply V3.vl_go | apply V3.consG_go | apply V3.consA_go | apply V3.opA_go | apply V3.op2g_go
    | apply V3.callN_go | apply V3.callL_gs | apply V3.callA_go | apply V3.tupE_go | apply V3.lstE_go | apply V3.dispF_go | apply V3.lsE_go | apply V3.tst_go | apply V3.blE_go | apply V3.m1_go | apply V3.partS_go | apply V3.slE_go
    | apply V3.parS_go | apply V3.retF_go | apply V3.repF_go | apply V3.lrgF_go | apply V3.tupS_go | apply V3.lstS_go | apply V3.strS_go | apply V3.rng1S_go | apply V3.forS_go | apply V3.augN_go | apply V3.setIx_gs | apply V3.asgO_go
  | ((with_reducible apply V3.ifS_gt); focus (get_elem_tactic_extensible; done)) | ((with_reducible apply V3.ifS_gf); focus (get_elem_tactic_extensible; done))
  | ((with_reducible apply V3.ifE_gt); focus (get_elem_tactic_extensible; done)) | ((with_reducible apply V3.ifE_gf); focus (get_elem_tactic_extensible; done))
  | ((with_reducible apply V3.andT_f); focus (get_elem_tactic_extensible; done)) | ((with_reducible apply V3.andT_t); focus (get_elem_tactic_extensible; done)) | with_reducible apply V3.andT_go
  | ((with_reducible apply V3.notT_f); focus (get_elem_tactic_extensible; done)) | ((with_reducible apply V3.notT_t); focus (get_elem_tactic_extensible; done)) | with_reducible apply V3.notT_go
  | ((with_reducible apply V3.orT_t); focus (get_elem_tactic_extensible; done)) | ((with_reducible apply V3.orT_f); focus (get_elem_tactic_extensible; done)) | with_reducible apply V3.orT_go
  | ((with_reducible apply V3.andE_f); focus (get_elem_tactic_extensible; done)) | ((with_reducible apply V3.andE_t); focus (get_elem_tactic_extensible; done)) | with_reducible apply V3.andE_go
  | ((with_reducible apply V3.orE_t); focus (get_elem_tactic_extensible; done)) | ((with_reducible apply V3.orE_f); focus (get_elem_tactic_extensible; done)) | with_reducible apply V3.orE_go
  | exact (rfl : V3.ret _ _ = _) | exact (rfl : V3.var _ _ = _) | exact (rfl : V3.own _ _ = _) | exact (rfl : V3.setI _ _ _ = _) | exact (rfl : List.set _ _ _ = _) | exact V3.setI_any rfl (by assumption) | exact (rfl : V3.resA _ _ = _) | exact (rfl : V3.slotL _ _ = _) | exact Eq.refl true
  | with_reducible assumption
  | exact V3.shb rfl
  | exact V3.cmp_t (decide_eq_true (by omega)) | exact V3.cmp_f (decide_eq_false (by omega)) | exact V3.eqI_t (by omega) | exact V3.eqI_f (by omega) | exact V3.neI_t (by omega) | exact V3.neI_f (by omega) | exact V3.modI (by decide)
  | exact (rfl : V3.addD _ _ = _) | exact (rfl : V3.subD _ _ = _) | exact (rfl : V3.negD _ = _) | exact (rfl : V3.notD _ = _) | exact (rfl : V3.cmpI _ _ _ = _) | exact (rfl : V3.lenD _ = _) | exact (rfl : V3.truD _ = _) | exact (rfl : V3.tupleD _ = _) | exact (rfl : V3.listD _ = _) | exact (rfl : V3.isiD _ _ = _) | exact (rfl : V3.isND _ _ = _) | exact (rfl : V3.isNotND _ _ = _)))
namespace K82
open PySem (Str sizeLine)
open V3 Pm
open L2 (ixN atI)
/-! Q13: the law's own division, exact; its form of a quotient. -/
theorem ld_fdiv {p v : P} (hp : Tr p) (np : p ≠ []) (hv : Tr v) (nv : v ≠ []) : (ld (mulT p v)).fdiv (ld p) = ld v := by
  rw [mulT_ld hp hv np nv]
  exact Int.mul_fdiv_cancel_left _ (hp.ld np)
theorem ld_le {p v : P} (hp : Tr p) (np : p ≠ []) (hv : Tr v) (nv : v ≠ []) : (ld v).natAbs ≤ (ld (mulT p v)).natAbs := by
  rw [mulT_ld hp hv np nv, Int.natAbs_mul]
  have := hp.ld np
  exact Nat.le_mul_of_pos_left _ (by omega)
theorem drop_sum {p v : P} (nv : v ≠ []) : sumP (mulT p v) (mulT (shL (v.length - 1) [ld v]) p) (-1) = mulT p (dropTop v) := by
  refine tr_eq (trim_tr _) mulT_tr fun k => ?_
  rw [co_sumP, co_mulT, co_mulT, co_mulT, mul_comm (shL _ _) p, mul_add (fun k => dropTop_add nv k) k]
  omega
theorem drop_Bn {p v : P} {m n : Nat} (hp : Tr p) (np : p ≠ []) (hv : Tr v) (nv : v ≠ []) (Bp : Bn m p) (B : Bn n (mulT p v)) : Bn (n + m + 1) (mulT p (dropTop v)) := .of fun k => by
  rw [← drop_sum nv, co_sumP, co_mulT (p := shL _ _), co_shone]
  have h1 := B.co k
  have h2 : (sh (v.length - 1) p k).natAbs < 2 ^ m := by
    unfold sh
    split
    · exact Nat.two_pow_pos m
    · exact Bp.co _
  have h3 : (ld v).natAbs < 2 ^ n := Nat.lt_of_le_of_lt (ld_le hp np hv nv) B.ld
  have p2 : (ld v * sh (v.length - 1) p k).natAbs < 2 ^ (n + m) := by
    rw [Int.natAbs_mul, Nat.pow_add]
    exact Nat.mul_lt_mul'' h3 h2
  have p3 : 2 ^ n ≤ 2 ^ (n + m) := Nat.pow_le_pow_right (by decide) (by omega)
  rw [Nat.pow_succ]
  omega
theorem divloop2 {p u : P} {m : Nat} (hp : Tr p) (np : p ≠ []) (lp : p.length ≤ 300) (lu : u.length ≤ 300) (Bp : Bn m p) (hd : (ld p).natAbs < 2 ^ 9000) : ∀ (k : Nat) (v es : P) (n : Nat) (x : Sl), (∀ es, x ≠ .ow es) → v.length ≤ k → Tr v → v.length ≤ u.length → es.length = u.length →
    (∀ i, i < v.length → co v i = co u i) → (∀ i, v.length ≤ i → co es i = co u i) → (∀ i, i < v.length → co es i = 0) → Bn n (mulT p v) → n + v.length * (m + 1) ≤ 10000000 → m ≤ 13500 →
    ∃ x', whl _law_divided_w1c _law_divided_w1b [.im (dP (mulT p v)), .im (dP p), .ow (es.map .int), x] = .ok .nx [.im (dP []), .im (dP p), .ow (u.map .int), x'] := by
  intro k
  induction k with
  | zero =>
    intro v es n x hx hk hv hl he h1 h2 h3 B hn hm
    have ev : v = [] := List.length_eq_zero_iff.mp (by omega)
    subst ev
    have e : es = u := eq_co he fun i => h2 i (by simp)
    subst e
    rw [mulT_nil]
    exact ⟨x, whl_end (neTest (i := 0) (b := []) rfl)⟩
  | succ k ih =>
    intro v es n x hx hk hv hl he h1 h2 h3 B hn hm
    by_cases nv : v = []
    · subst nv
      have e : es = u := eq_co he fun i => h2 i (by simp)
      subst e
      rw [mulT_nil]
      exact ⟨x, whl_end (neTest (i := 0) (b := []) rfl)⟩
    have hpv := len_pos nv
    have hpp := len_pos np
    have nm := mulT_ne hp hv np nv
    have hml := mulT_len hp hv np nv
    have c : _law_divided_w1c [.im (dP (mulT p v)), .im (dP p), .ow (es.map .int), x] = .ok true [.im (dP (mulT p v)), .im (dP p), .ow (es.map .int), x] := by
      have := neTest (i := 0) (b := mulT p v) (ρ := [.im (dP (mulT p v)), .im (dP p), .ow (es.map .int), x]) rfl
      rw [decide_eq_false nm] at this
      exact this
    have hlt := len_dropTop nv
    have mm : v.length * (m + 1) = (v.length - 1) * (m + 1) + (m + 1) := by
      obtain ⟨q, hq⟩ : ∃ q, v.length = q + 1 := ⟨v.length - 1, by omega⟩
      rw [hq, Nat.add_mul, Nat.one_mul]; simp
    have mm2 : (dropTop v).length * (m + 1) ≤ (v.length - 1) * (m + 1) := Nat.mul_le_mul_right _ (by omega)
    obtain ⟨x', q⟩ := ih (dropTop v) (es.set (v.length - 1) (ld v)) (n + m + 1) (.im (.int ((v.length - 1 : Nat) : Int))) (fun _ z => by cases z) (by omega) (trim_tr _) (by omega) (by simpa using he)
      (fun i hi => by rw [co_dropTop, if_pos (by omega)]; exact h1 i (by omega))
      (fun i hi => by
        by_cases e : i = v.length - 1
        · subst e
          unfold co
          rw [List.getD_eq_getElem?_getD, List.getElem?_set_self (by omega)]
          exact h1 _ (by omega)
        · unfold co
          rw [List.getD_eq_getElem?_getD, List.getElem?_set_ne (fun z => e z.symm), ← List.getD_eq_getElem?_getD]
          by_cases hi2 : i < v.length
          · have a1 := h3 i hi2
            have a2 := h1 i hi2
            have a3 := co_dropTop (v := v) i
            rw [if_pos (by omega), co_ge hi] at a3
            show co es i = co u i
            omega
          · exact h2 i (by omega))
      (fun i hi => by
        unfold co
        rw [List.getD_eq_getElem?_getD, List.getElem?_set_ne (by omega), ← List.getD_eq_getElem?_getD]
        exact h3 i (by omega)) (drop_Bn hp np hv nv Bp B) (by omega) hm
    rw [List.map_set] at q
    refine ⟨x', whl_go c ?_ q⟩
    have hlv := ld_le hp np hv nv
    have Bl : (ld v).natAbs < 2 ^ n := Nat.lt_of_le_of_lt hlv B.ld
    have g1 : subD (.int ((List.map D.int (mulT p v)).length : Int)) (.int ((List.map D.int p).length : Int)) = some (.int ((v.length - 1 : Nat) : Int)) := by
      show some (D.int (_ - _)) = _
      rw [List.length_map, List.length_map, hml]
      congr 2
      omega
    have g2 : ixD (dP (mulT p v)) (.int (-1)) = some (.int (ld (mulT p v))) := atI_ld nm
    have g3 : ixD (dP p) (.int (-1)) = some (.int (ld p)) := atI_ld np
    have g4 : fdivD (.int (ld (mulT p v))) (.int (ld p)) = some (.int (ld v)) := by
      rw [fdivI (fdivOk_of (hp.ld np) hd), ld_fdiv hp np hv nv]
    have g5 : ixN (es.map D.int).length ((v.length - 1 : Nat) : Int) = some (v.length - 1) := ixN_nat (by simp; omega)
    have g6 : L2g ixD [.lst ((es.map D.int).set (v.length - 1) (.int (ld v))), .int ((v.length - 1 : Nat) : Int)] = some (.int (ld v)) := by
      show atI _ _ = _
      rw [atI_nat (by simp; omega)]
      simp
    have g7 : mulD (.tup [.int 0]) (.int ((v.length - 1 : Nat) : Int)) = some (.tup ((List.replicate (v.length - 1) (0 : Int)).map .int)) := mulD_zeros (by omega)
    have g8 : addD (.tup ((List.replicate (v.length - 1) (0 : Int)).map .int)) (.tup [.int (ld v)]) = some (dP (shL (v.length - 1) [ld v])) := addD_dP (a := List.replicate (v.length - 1) 0) (b := [ld v]) (by simp; omega)
    have coS : ∀ {s : Nat} {w : Int} (j : Nat), (co (shL s [w]) j).natAbs ≤ w.natAbs := fun {s w} j => by
      rw [co_sh]
      unfold sh
      split
      · simp
      · cases j - s <;> simp
    have l3 : (shL (v.length - 1) [ld v]).length = v.length - 1 + 1 := by unfold shL; simp
    have l2 := len_mulT (shL (v.length - 1) [ld v]) p
    have p1 := cok (R__law_product_eq (a := shL (v.length - 1) [ld v]) (b := p) (by omega) (by omega) fun i j => mulOk_big (Nat.lt_of_le_of_lt (coS i) Bl) (Bp.co j) (by omega))
    have p2 := cok (R__law_sum_eq (a := mulT p v) (b := mulT (shL (v.length - 1) [ld v]) p) (t := -1) (by omega) (by omega) fun j => mulOk_big (n := 1) (m := n + m) (by decide) (by
      rw [co_mulT, co_shone, Int.natAbs_mul, Nat.pow_add]
      refine Nat.mul_lt_mul'' Bl ?_
      unfold sh
      split
      · exact Nat.two_pow_pos m
      · exact Bp.co _) (by omega))
    rw [drop_sum nv] at p2
    unfold _law_divided_w1b
    get_elem_tactic_extensible
theorem R__law_divided_eq {p u : P} {m n : Nat} (hp : Tr p) (np : p ≠ []) (hu : Tr u) (lp : p.length ≤ 300) (lu : u.length ≤ 300) (Bp : Bn m p) (hd : (ld p).natAbs < 2 ^ 9000) (B : Bn n (mulT p u)) (hn : n + u.length * (m + 1) ≤ 10000000) (hm : m ≤ 13500) (nu : u ≠ []) :
    R__law_divided [dP (mulT p u), dP p] = .ok (dP u) [] := by
  have hpp := len_pos np
  have hpu := len_pos nu
  have hml := mulT_len hp hu np nu
  obtain ⟨x', q⟩ := divloop2 hp np lp lu Bp hd u.length u (List.replicate u.length 0) n .un (fun _ z => by cases z) (Nat.le_refl _) hu (Nat.le_refl _) (by simp) (fun _ _ => rfl)
    (fun i hi => by rw [co_ge hi, co_ge (by simpa using hi)]) (fun i hi => by unfold co; rw [List.getD_eq_getElem?_getD, List.getElem?_replicate]; split <;> rfl) B hn hm
  apply run_ok rfl
  rw [eq__law_divided]
  have g1 : subD (.int ((List.map D.int (mulT p u)).length : Int)) (.int ((List.map D.int p).length : Int)) = some (.int ((u.length - 1 : Nat) : Int)) := by
    show some (D.int (_ - _)) = _
    rw [List.length_map, List.length_map, hml]
    congr 2
    omega
  have g2 : addD (.int ((u.length - 1 : Nat) : Int)) (.int 1) = some (.int ((u.length : Nat) : Int)) := by
    show some (D.int (_ + _)) = _
    congr 2
    omega
  have g3 : repD (.lst [.int 0]) (.int ((u.length : Nat) : Int)) = some ((List.replicate u.length (0 : Int)).map .int) := by
    have e : repD (.lst [.int 0]) (.int ((u.length : Nat) : Int)) = if -(2 ^ 63) ≤ ((u.length : Nat) : Int) ∧ ((u.length : Nat) : Int) < 2 ^ 63 ∧ [D.int 0].length * ((u.length : Nat) : Int).toNat ≤ sizeLine then some (List.replicate ((u.length : Nat) : Int).toNat [D.int 0]).flatten else none := by
      unfold repD
      with_reducible rfl
    have e2 : (2 : Int) ^ 63 = 9223372036854775808 := by decide
    have := line_big
    rw [e, if_pos ⟨by omega, by omega, by simp; omega⟩, Int.toNat_natCast, flat_one]
  have s1 : asgO 2 2 (repF (lstE (consA (ret (.int 0)) (ret []))) (op2 addD (op2 subD (opA lenD (consG (vl (var 0)) (ret []))) (opA lenD (consG (vl (var 1)) (ret [])))) (ret (.int 1)))) [.im (dP (mulT p u)), .im (dP p), .un, .un] = .ok .nx [.im (dP (mulT p u)), .im (dP p), .ow ((List.replicate u.length (0 : Int)).map .int), .un] := by
    apply asgO_go (ρ1 := [.im (dP (mulT p u)), .im (dP p), .un, .un])
    · apply repF_go (d := .lst [.int 0]) (e := .int ((u.length : Nat) : Int)) (ρ1 := [.im (dP (mulT p u)), .im (dP p), .un, .un])
      · get_elem_tactic_extensible
      · get_elem_tactic_extensible
      · exact g3
    · exact ⟨Nat.le_refl _, by simp⟩
  exact thenS_go s1 (thenS_go q (by
    apply retS_go
    apply opA_go
    · apply consG_go rfl rfl
    · rfl
    · rfl
    · exact (congrArg (!true || ·) (lf_dP (a := u))).trans rfl))
end K82
end

section
set_option Elab.async false
set_option linter.all false
set_option maxRecDepth 100000
set_option maxHeartbeats 1000000
open V3
local macro_rules | `(tactic| get_elem_tactic_extensible) => `(tactic| repeat' (first
  | with_reducible first
    | exact V3.skipS_go | exact V3.raiseS_go | exact V3.partN_go
    | apply V3.thenS_go | apply V3.asgS_go | apply V3.retS_go | apply V3.exprS_go | apply V3.op2_go | apply V3.op1_go | apply V3.vl_go | apply V3.consG_go | apply V3.consA_go | apply V3.opA_go | apply V3.op2g_go
    | apply V3.callN_go | apply V3.callL_gs | apply V3.callA_go | apply V3.tupE_go | apply V3.lstE_go | apply V3.dispF_go | apply V3.lsE_go | apply V3.tst_go | apply V3.blE_go | apply V3.m1_go | apply V3.partS_go | apply V3.slE_go
    | apply V3.parS_go | apply V3.retF_go | apply V3.repF_go | apply V3.lrgF_go | apply V3.tupS_go | apply V3.lstS_go | apply V3.strS_go | apply V3.rng1S_go | apply V3.forS_go | apply V3.augN_go | apply V3.setIx_gs | apply V3.asgO_go
  | ((with_reducible apply V3.ifS_gt); focus (get_elem_tactic_extensible; done)) | ((with_reducible apply V3.ifS_gf); focus (get_elem_tactic_extensible; done))
  | ((with_reducible apply V3.ifE_gt); focus (get_elem_tactic_extensible; done)) | ((with_reducible apply V3.ifE_gf); focus (get_elem_tactic_extensible; done))
  | ((with_reducible apply V3.andT_f); focus (get_elem_tactic_extensible; done)) | ((with_reducible apply V3.andT_t); focus (get_elem_tactic_extensible; done)) | with_reducible apply V3.andT_go
  | ((with_reducible apply V3.notT_f); focus (get_elem_tactic_extensible; done)) | ((with_reducible apply V3.notT_t); focus (get_elem_tactic_extensible; done)) | with_reducible apply V3.notT_go
  | ((with_reducible apply V3.orT_t); focus (get_elem_tactic_extensible; done)) | ((with_reducible apply V3.orT_f); focus (get_elem_tactic_extensible; done)) | with_reducible apply V3.orT_go
  | ((with_reducible apply V3.andE_f); focus (get_elem_tactic_extensible; done)) | ((with_reducible apply V3.andE_t); focus (get_elem_tactic_extensible; done)) | with_reducible apply V3.andE_go
  | ((with_reducible apply V3.orE_t); focus (get_elem_tactic_extensible; done)) | ((with_reducible apply V3.orE_f); focus (get_elem_tactic_extensible; done)) | with_reducible apply V3.orE_go
  | exact (rfl : V3.ret _ _ = _) | exact (rfl : V3.var _ _ = _) | exact (rfl : V3.own _ _ = _) | exact (rfl : V3.setI _ _ _ = _) | exact (rfl : List.set _ _ _ = _) | exact V3.setI_any rfl (by assumption) | exact (rfl : V3.resA _ _ = _) | exact (rfl : V3.slotL _ _ = _) | exact Eq.refl true
  | with_reducible assumption
  | exact V3.shb rfl
  | exact V3.cmp_t (decide_eq_true (by omega)) | exact V3.cmp_f (decide_eq_false (by omega)) | exact V3.eqI_t (by omega) | exact V3.eqI_f (by omega) | exact V3.neI_t (by omega) | exact V3.neI_f (by omega) | exact V3.modI (by decide)
  | exact (rfl : V3.addD _ _ = _) | exact (rfl : V3.subD _ _ = _) | exact (rfl : V3.negD _ = _) | exact (rfl : V3.notD _ = _) | exact (rfl : V3.cmpI _ _ _ = _) | exact (rfl : V3.lenD _ = _) | exact (rfl : V3.truD _ = _) | exact (rfl : V3.tupleD _ = _) | exact (rfl : V3.listD _ = _) | exact (rfl : V3.isiD _ _ = _) | exact (rfl : V3.isND _ _ = _) | exact (rfl : V3.isNotND _ _ = _)))
namespace K82
open PySem (Str sizeLine)
open V3 Pm
open L2 (ixN atI)
/-! Q14: the law's form of a quotient. -/
theorem formloop {A B C : Sl} : ∀ (l : P) (g : Nat) (s : Sl), (∀ es, s ≠ .ow es) →
    ∃ s', (∀ es, s' ≠ Sl.ow es) ∧ forL (setI 4) _law_form_f1b (l.map .int) [A, B, C, .im (.int (g : Int)), s] = .ok .nx [A, B, C, .im (.int ((l.foldl (fun g x => Int.gcd g x) g : Nat) : Int)), s']
  | [], g, s, hs => ⟨s, hs, rfl⟩
  | x :: l, g, s, hs => by
    obtain ⟨s', h0, h⟩ := formloop (A := A) (B := B) (C := C) l (Int.gcd g x) (.im (.int x)) (fun _ z => by cases z)
    refine ⟨s', h0, ?_⟩
    have hd := cok (R__law_divisor_eq (g : Int) x)
    refine forL_go (setI_any rfl hs) ?_ h
    unfold _law_form_f1b
    get_elem_tactic_extensible
def fw (u v : P) : Int := if ld v < 0 then -(contentP (u ++ v) : Int) else (contentP (u ++ v) : Int)
def divP (u : P) (w : Int) : P := u.map (Int.fdiv · w)
theorem lcDiv {u : P} {w : Int} {A B C : Sl} {s : Sl} {k : Nat} {el : Cm D} (hk : k = 0 ∨ k = 1) (hel : el = op2 fdivD (var 4) (var 3)) (h0 : [A, B, C, .im (.int w), s][k]? = some (.im (dP u))) (hl : u.length ≤ 1000) (hs : ∀ es, s ≠ .ow es) (hm : ∀ x ∈ u, fdivOk x w = true) :
    lcE [4] (tupS (var k)) (setI 4) (ret true) el [A, B, C, .im (.int w), s] = .ok ((divP u w).map .int) [A, B, C, .im (.int w), .un] := by
  let f : D → D := fun d => match d with | .int i => .int (i.fdiv w) | d => d
  have hsrc : tupS (var k) [A, B, C, .im (.int w), s] = .ok (u.map .int) [A, B, C, .im (.int w), s] := tupS_go (by unfold var; rw [h0])
  have z := lcE_pure (k := 4) (el := el) (f := f) hsrc (by simp) (fun ds z => hs ds (by simpa using z)) (fun d hd => by
    obtain ⟨i, hi, rfl⟩ := List.mem_map.mp hd
    rw [hel]
    exact op2_go rfl rfl (fdivI (hm i hi))) (by rw [List.length_map]; exact len_line hl)
  have em : (u.map D.int).map f = (divP u w).map D.int := by unfold divP; rw [List.map_map, List.map_map]; rfl
  rw [em] at z
  exact z
theorem cont_le {l m : P} (h : ∃ x ∈ l, x ≠ 0) : (contentP l : Int) ≠ 0 := fun e => by
  obtain ⟨x, hx, h⟩ := h
  have := content_mem hx
  rw [e] at this
  exact h (Int.zero_dvd.mp this)
theorem fw_dvd {u v : P} {x : Int} (h : x ∈ u ∨ x ∈ v) : fw u v ∣ x := by
  have h2 : (contentP (u ++ v) : Int) ∣ x := content_mem (List.mem_append.mpr h)
  unfold fw
  split
  · exact Int.neg_dvd.mpr h2
  · exact h2
theorem ld_mem {v : P} (nv : v ≠ []) : ld v ∈ v := co_mem (by have := len_pos nv; omega)
theorem fw_ne {u v : P} (hv : Tr v) (nv : v ≠ []) : fw u v ≠ 0 := fun e => by
  have := fw_dvd (u := u) (.inr (ld_mem nv))
  rw [e] at this
  exact hv.ld nv (Int.zero_dvd.mp this)
theorem fw_le {u v : P} (hv : Tr v) (nv : v ≠ []) : (fw u v).natAbs ≤ (ld v).natAbs :=
  Nat.le_of_dvd (by have := hv.ld nv; omega) (Int.natAbs_dvd_natAbs.mpr (fw_dvd (.inr (ld_mem nv))))
theorem R__law_form_nil {b : P} : R__law_form [dP [], dP b] = .ok (.tup [dP [], dP [1]]) [] := by
  apply run_ok (np := 2) (N := 5) (m := m__law_form) (ds := [dP [], dP b]) rfl
  rw [eq__law_form]
  apply thenS_r
  apply ifS_gt (ρ1 := [.im (dP []), .im (dP b), .un, .un, .un])
  · exact blE_go (op2_go rfl (tupE_go rfl (shb rfl)) (eqD_dP [] []))
  · get_elem_tactic_extensible
theorem R__law_form_eq {n : Nat} {t b : P} (ht : Tr t) (hb : Tr b) (nt : t ≠ []) (nb : b ≠ []) (h1 : 1 ≤ n) (h2 : n ≤ 8000) (Bt : Bn n t) (Bb : Bn n b) (R : Room2 n t.length b.length) :
    ∃ p u v g, Prim p ∧ Tr p ∧ p ≠ [] ∧ 0 < ld p ∧ Tr u ∧ Tr v ∧ u ≠ [] ∧ v ≠ [] ∧ t = mulT p u ∧ b = mulT p v ∧ Euc t b g ∧ p = plainP g ∧
      R__law_form [dP t, dP b] = .ok (.tup [dP (divP u (fw u v)), dP (divP v (fw u v))]) [] := by
  have hR := R.n
  obtain ⟨g, q1, q2, q3, q4⟩ := R__law_common_eq ht hb h1 Bt Bb R
  have hg := q1.tr ht hb
  have ng := q1.ne (.inl nt)
  have hp := plain_tr hg
  have np : plainP g ≠ [] := fun e => by
    have := plain_len g
    rw [e] at this
    exact ng (List.length_eq_zero_iff.mp this.symm)
  have pr := plain_prim hg ng
  have pos := plain_pos hg ng
  have d1 := (q1.dv hb).1.simL (plain_sim hg).symm
  have d2 := (q1.dv hb).2.simL (plain_sim hg).symm
  obtain ⟨u, hu, eu⟩ := exact_of pr d1
  obtain ⟨v, hv, ev⟩ := exact_of pr d2
  have et : t = mulT (plainP g) u := tr_eq ht mulT_tr fun k => by rw [co_mulT, eu]
  have eb : b = mulT (plainP g) v := tr_eq hb mulT_tr fun k => by rw [co_mulT, ev]
  have nu : u ≠ [] := fun e => by rw [e, mulT_nil] at et; exact nt et
  have nv : v ≠ [] := fun e => by rw [e, mulT_nil] at eb; exact nb eb
  have lt := mulT_len hp hu np nu
  have lb := mulT_len hp hv np nv
  rw [← et] at lt
  rw [← eb] at lb
  have hpl := len_pos np
  have hul := len_pos nu
  have hvl := len_pos nv
  have Bp := plain_Bn hg q2
  have ldt := mulT_ld hp hu np nu
  have ldb := mulT_ld hp hv np nv
  rw [← et] at ldt
  rw [← eb] at ldb
  have hldp : (ld (plainP g)).natAbs < 2 ^ 9000 := by
    have a1 : (ld (plainP g)).natAbs ≤ (ld t).natAbs := by
      rw [ldt, Int.natAbs_mul]
      exact Nat.le_mul_of_pos_right _ (by have := hu.ld nu; omega)
    exact pow_le (Nat.lt_of_le_of_lt a1 Bt.ld) (by omega)
  have hldv : (ld v).natAbs < 2 ^ 9000 := by
    have a1 : (ld v).natAbs ≤ (ld b).natAbs := by
      rw [ldb, Int.natAbs_mul]
      exact Nat.le_mul_of_pos_left _ (by omega)
    exact pow_le (Nat.lt_of_le_of_lt a1 Bb.ld) (by omega)
  have r1 := R__law_divided_eq hp np hu (by omega) (by omega) Bp hldp (by rw [← et]; exact Bt) (by
    have : u.length * (13000 + 1) ≤ 300 * (13000 + 1) := Nat.mul_le_mul_right _ (by omega)
    omega) (by omega) nu
  have r2 := R__law_divided_eq hp np hv (by omega) (by omega) Bp hldp (by rw [← eb]; exact Bb) (by
    have : v.length * (13000 + 1) ≤ 300 * (13000 + 1) := Nat.mul_le_mul_right _ (by omega)
    omega) (by omega) nv
  rw [← et] at r1
  rw [← eb] at r2
  refine ⟨plainP g, u, v, g, pr, hp, np, pos, hu, hv, nu, nv, et, eb, q1, rfl, ?_⟩
  have wok : ∀ x : Int, fdivOk x (fw u v) = true := fun x => fdivOk_of (fw_ne hv nv) (Nat.lt_of_le_of_lt (fw_le hv nv) hldv)
  have k1 := cok q4
  have k2 := cok r1
  have k3 := cok r2
  apply run_ok rfl
  rw [eq__law_form]
  have ct : eqD (dP t) (.tup []) = some (.bl false) := by
    have := eqD_dP t []
    rw [decide_eq_false nt] at this
    exact this
  have g1 : addD (dP u) (dP v) = some (dP (u ++ v)) := addD_dP (by omega)
  have g2 : ixD (dP v) (.int (-1)) = some (.int (ld v)) := atI_ld nv
  obtain ⟨s', hs', fl⟩ := formloop (A := .im (dP u)) (B := .im (dP v)) (C := .im (dP (plainP g))) (u ++ v) 0 .un (fun _ z => by cases z)
  have e0 : ((u ++ v).foldl (fun g x => Int.gcd g x) 0) = contentP (u ++ v) := rfl
  rw [e0] at fl
  have c1 : ifS (blE (op2 (cmpI fun i j => decide (i < j)) (op2 ixD (var 1) (op1 negD (ret (.int 1)))) (ret (.int 0)))) (asgS 3 (op1 negD (var 3))) skipS [.im (dP u), .im (dP v), .im (dP (plainP g)), .im (.int (contentP (u ++ v))), s'] = .ok .nx [.im (dP u), .im (dP v), .im (dP (plainP g)), .im (.int (fw u v)), s'] := by
    unfold fw
    by_cases h : ld v < 0
    · rw [if_pos h]
      get_elem_tactic_extensible
    · rw [if_neg h]
      get_elem_tactic_extensible
  have l1 := lcDiv (k := 0) (u := u) (w := fw u v) (el := _law_form_l1e) (A := .im (dP u)) (B := .im (dP v)) (C := .im (dP (plainP g))) (s := s') (.inl rfl) rfl rfl (by omega) hs' fun x _ => wok x
  have l2 := lcDiv (k := 1) (u := v) (w := fw u v) (el := _law_form_l2e) (A := .im (dP u)) (B := .im (dP v)) (C := .im (dP (plainP g))) (s := .un) (.inr rfl) rfl rfl (by omega) (fun _ z => by cases z) fun x _ => wok x
  have f0 : forS (tupS (op2 addD (var 0) (var 1))) (setI 4) _law_form_f1b [.im (dP u), .im (dP v), .im (dP (plainP g)), .im (.int 0), .un] = .ok .nx [.im (dP u), .im (dP v), .im (dP (plainP g)), .im (.int (contentP (u ++ v))), s'] :=
    forS_go (tupS_go (op2_go rfl rfl g1)) fl
  have fin : retS (tupE (consA (opA tupleD (consG (vl (lsE _law_form_l1)) (ret []))) (consA (opA tupleD (consG (vl (lsE _law_form_l2)) (ret []))) (ret [])))) [.im (dP u), .im (dP v), .im (dP (plainP g)), .im (.int (fw u v)), s'] = .ok (.rt (.tup [dP (divP u (fw u v)), dP (divP v (fw u v))])) [.im (dP u), .im (dP v), .im (dP (plainP g)), .im (.int (fw u v)), .un] := by
    refine retS_go (tupE_go (consA_go (opA_go (consG_go (vl_go (lsE_go l1)) rfl) rfl rfl rfl) (consA_go (opA_go (consG_go (vl_go (lsE_go l2)) rfl) rfl rfl rfl) rfl)) (shb rfl))
  refine thenS_go (ρ1 := [.im (dP t), .im (dP b), .un, .un, .un]) (by get_elem_tactic_extensible) ?_
  refine thenS_go (ρ1 := [.im (dP t), .im (dP b), .im (dP (plainP g)), .un, .un]) (by get_elem_tactic_extensible) ?_
  refine thenS_go (ρ1 := [.im (dP u), .im (dP v), .im (dP (plainP g)), .un, .un]) (by get_elem_tactic_extensible) ?_
  refine thenS_go (ρ1 := [.im (dP u), .im (dP v), .im (dP (plainP g)), .im (.int 0), .un]) (by get_elem_tactic_extensible) ?_
  exact thenS_go f0 (thenS_go c1 fin)
end K82
end

section
set_option Elab.async false
set_option linter.all false
set_option maxRecDepth 100000
set_option maxHeartbeats 1000000
open V3
local macro_rules | `(tactic| get_elem_tactic_extensible) => `(tactic| repeat' (first
  | with_reducible first
    | exact V3.skipS_go | exact V3.raiseS_go | exact V3.partN_go
    | apply V3.thenS_go | apply V3.asgS_go | apply V3.retS_go | apply V3.exprS_go | apply V3.op2_go | apply V3.op1_go | apply V3.vl_go | apply V3.consG_go | apply V3.consA_go | apply V3.opA_go | apply V3.op2g_go
    | apply V3.callN_go | apply V3.callL_gs | apply V3.callA_go | apply V3.tupE_go | apply V3.lstE_go | apply V3.dispF_go | apply V3.lsE_go | apply V3.tst_go | apply V3.blE_go | apply V3.m1_go | apply V3.partS_go | apply V3.slE_go
    | apply V3.parS_go | apply V3.retF_go | apply V3.repF_go | apply V3.lrgF_go | apply V3.tupS_go | apply V3.lstS_go | apply V3.strS_go | apply V3.rng1S_go | apply V3.forS_go | apply V3.augN_go | apply V3.setIx_gs | apply V3.asgO_go
  | ((with_reducible apply V3.ifS_gt); focus (get_elem_tactic_extensible; done)) | ((with_reducible apply V3.ifS_gf); focus (get_elem_tactic_extensible; done))
  | ((with_reducible apply V3.ifE_gt); focus (get_elem_tactic_extensible; done)) | ((with_reducible apply V3.ifE_gf); focus (get_elem_tactic_extensible; done))
  | ((with_reducible apply V3.andT_f); focus (get_elem_tactic_extensible; done)) | ((with_reducible apply V3.andT_t); focus (get_elem_tactic_extensible; done)) | with_reducible apply V3.andT_go
  | ((with_reducible apply V3.notT_f); focus (get_elem_tactic_extensible; done)) | ((with_reducible apply V3.notT_t); focus (get_elem_tactic_extensible; done)) | with_reducible apply V3.notT_go
  | ((with_reducible apply V3.orT_t); focus (get_elem_tactic_extensible; done)) | ((with_reducible apply V3.orT_f); focus (get_elem_tactic_extensible; done)) | with_reducible apply V3.orT_go
  | ((with_reducible apply V3.andE_f); focus (get_elem_tactic_extensible; done)) | ((with_reducible apply V3.andE_t); focus (get_elem_tactic_extensible; done)) | with_reducible apply V3.andE_go
  | ((with_reducible apply V3.orE_t); focus (get_elem_tactic_extensible; done)) | ((with_reducible apply V3.orE_f); focus (get_elem_tactic_extensible; done)) | with_reducible apply V3.orE_go
  | exact (rfl : V3.ret _ _ = _) | exact (rfl : V3.var _ _ = _) | exact (rfl : V3.own _ _ = _) | exact (rfl : V3.setI _ _ _ = _) | exact (rfl : List.set _ _ _ = _) | exact V3.setI_any rfl (by assumption) | exact (rfl : V3.resA _ _ = _) | exact (rfl : V3.slotL _ _ = _) | exact Eq.refl true
  | with_reducible assumption
  | exact V3.shb rfl
  | exact V3.cmp_t (decide_eq_true (by omega)) | exact V3.cmp_f (decide_eq_false (by omega)) | exact V3.eqI_t (by omega) | exact V3.eqI_f (by omega) | exact V3.neI_t (by omega) | exact V3.neI_f (by omega) | exact V3.modI (by decide)
  | exact (rfl : V3.addD _ _ = _) | exact (rfl : V3.subD _ _ = _) | exact (rfl : V3.negD _ = _) | exact (rfl : V3.notD _ = _) | exact (rfl : V3.cmpI _ _ _ = _) | exact (rfl : V3.lenD _ = _) | exact (rfl : V3.truD _ = _) | exact (rfl : V3.tupleD _ = _) | exact (rfl : V3.listD _ = _) | exact (rfl : V3.isiD _ _ = _) | exact (rfl : V3.isND _ _ = _) | exact (rfl : V3.isNotND _ _ = _)))
namespace K82
open PySem (Str sizeLine)
open V3 Pm
open L2 (ixN atI)
/-! Q15: a quotient in its form: the program's test and the law's. -/
theorem cont_foldl (l : P) (g : Nat) : l.foldl (fun g x => Int.gcd g x) g = Int.gcd g (contentP l) := by
  apply Nat.dvd_antisymm
  · obtain ⟨h1, h2⟩ := content_dvd l g
    refine Int.dvd_gcd h1 ?_
    exact Int.natCast_dvd_natCast.mpr (content_max l 0 _ (Nat.dvd_zero _) h2)
  · refine content_max l g _ (Int.natCast_dvd_natCast.mp (Int.gcd_dvd_left _ _)) fun x hx => ?_
    exact Int.dvd_trans (Int.gcd_dvd_right _ _) (content_mem hx)
theorem cont_append (t b : P) : contentP (t ++ b) = Int.gcd (contentP t) (contentP b) := by
  show (t ++ b).foldl _ 0 = _
  rw [List.foldl_append]
  exact cont_foldl b _
theorem one_of_prim {p : P} (pr : Prim p) (hl : p.length = 1) (pos : 0 < ld p) : p = [1] := by
  have e : p = [ld p] := by
    refine eq_co hl fun k => ?_
    cases k with
    | zero => unfold ld; rw [hl]; rfl
    | succ k => rw [co_ge (by omega), co_ge (by simp)]
  have := pr (ld p).natAbs fun k => by
    cases k with
    | zero => have : co p 0 = ld p := by unfold ld; rw [hl]
              rw [this]; exact Int.natAbs_dvd.mpr (Int.dvd_refl _)
    | succ k => rw [co_ge (by omega)]; exact Int.dvd_zero _
  have h1 : ld p = 1 := by omega
  rw [e, h1]
theorem mulT_one {u : P} (hu : Tr u) : mulT [1] u = u := tr_eq mulT_tr hu fun k => by rw [co_mulT, mul_comm, mul_one]
theorem divP_one {u : P} : divP u 1 = u := by unfold divP; simp
theorem divP_same {u : P} {w : Int} (hu : Tr u) (nu : u ≠ []) (hd : w ∣ ld u) (e : u = divP u w) : w = 1 := by
  have h0 : w ≠ 0 := fun z => by rw [z] at hd; exact hu.ld nu (Int.zero_dvd.mp hd)
  have h1 : ld u = (ld u).fdiv w := by
    have h3 : ld (divP u w) = (ld u).fdiv w := by
      unfold divP ld
      rw [List.length_map, co_map (f := fun x => Int.fdiv x w) (Int.zero_fdiv _)]
    rw [← h3, ← e]
  have h2 := fdiv_exact hd h0
  rw [← h1] at h2
  have := hu.ld nu
  exact Int.eq_of_mul_eq_mul_right this (by omega)
/-- the quotient's form, in plain words -/
def IsQ (t b : P) : Prop := b ≠ [] ∧ 0 < ld b ∧ Int.gcd (contentP t) (contentP b) = 1 ∧ ∃ g, Euc (plainP t) (plainP b) g ∧ g.length = 1
theorem form_same {n : Nat} {t b : P} (ht : Tr t) (hb : Tr b) (nt : t ≠ []) (nb : b ≠ []) (h1 : 1 ≤ n) (h2 : n ≤ 8000) (Bt : Bn n t) (Bb : Bn n b) (R : Room2 n t.length b.length) :
    ∃ t' b', R__law_form [dP t, dP b] = .ok (.tup [dP t', dP b']) [] ∧ ((t = t' ∧ b = b') ↔ IsQ t b) := by
  obtain ⟨p, u, v, g, pr, hp, np, pos, hu, hv, nu, nv, et, eb, q1, ep, q2⟩ := R__law_form_eq ht hb nt nb h1 h2 Bt Bb R
  refine ⟨_, _, q2, ?_⟩
  have hg := q1.tr ht hb
  have lpg : p.length = g.length := by rw [ep, plain_len]
  have sg : ∀ {g'}, Euc (plainP t) (plainP b) g' → g'.length = g.length := fun {g'} h =>
    (Euc_sim h (plain_tr ht) (plain_tr hb) q1 ht hb (plain_sim ht) (plain_sim hb)).len (h.tr (plain_tr ht) (plain_tr hb)) hg
  have hpl := len_pos np
  have key : p.length = 1 → u = t ∧ v = b := fun hl => by
    have e1 := one_of_prim pr hl pos
    rw [e1, mulT_one hu] at et
    rw [e1, mulT_one hv] at eb
    exact ⟨et.symm, eb.symm⟩
  constructor
  · rintro ⟨h3, h4⟩
    have lt := mulT_len hp hu np nu
    rw [← et] at lt
    have l2 : t.length = u.length := by
      have := congrArg List.length h3
      unfold divP at this
      rwa [List.length_map] at this
    have hul := len_pos nu
    have hl1 : p.length = 1 := by omega
    obtain ⟨e1, e2⟩ := key hl1
    subst e1 e2
    have w1 : fw u v = 1 := divP_same hv nv (fw_dvd (.inr (ld_mem nv))) h4
    have hlv := hv.ld nv
    unfold fw at w1
    split at w1
    · omega
    · refine ⟨nv, by omega, by rw [← cont_append]; omega, ?_⟩
      obtain ⟨g', hg'⟩ := Euc_ex _ (plainP u) (plainP v) (Nat.le_refl _) (plain_tr hu) (plain_tr hv)
      exact ⟨g', hg', by rw [sg hg']; omega⟩
  · rintro ⟨_, h4, h5, g', h6, h7⟩
    have hl1 : p.length = 1 := by rw [lpg, ← sg h6, h7]
    obtain ⟨e1, e2⟩ := key hl1
    subst e1 e2
    have w1 : fw u v = 1 := by
      unfold fw
      rw [if_neg (by omega), cont_append, h5]
      rfl
    rw [w1, divP_one, divP_one]
    exact ⟨rfl, rfl⟩
theorem form_nil {b : P} (hb : Tr b) (nb : b ≠ []) : b = [1] ↔ IsQ [] b := by
  have ne := plain_sim hb
  have nl := plain_len b
  have npb : plainP b ≠ [] := fun e => by rw [e] at nl; exact nb (List.length_eq_zero_iff.mp nl.symm)
  have eu : Euc (plainP []) (plainP b) (plainP b) := .step npb (.done (by rw [plainP_nil]; exact len_pos npb)) Sim.refl tr_nil .done
  constructor
  · intro e
    subst e
    refine ⟨nb, by decide, by decide, _, eu, nl⟩
  · rintro ⟨_, h1, h2, g, h3, h4⟩
    have s := (Euc_sim h3 tr_nil (plain_tr hb) eu tr_nil (plain_tr hb) Sim.refl Sim.refl).len (h3.tr tr_nil (plain_tr hb)) (plain_tr hb)
    have hl : b.length = 1 := by rw [← nl, ← s, h4]
    have c0 : contentP [] = 0 := rfl
    rw [c0] at h2
    have c1 : contentP b = 1 := by
      have : Int.gcd ((0 : Nat) : Int) (contentP b) = contentP b := by simp
      omega
    refine one_of_prim (fun n hn => ?_) hl h1
    have : n ∣ contentP b := content_max b 0 n (Nat.dvd_zero _) fun x hx => by
      obtain ⟨k, _, e⟩ := mem_co hx
      rw [← e]; exact hn k
    rw [c1] at this
    exact Nat.dvd_one.mp this
theorem blsOf_true : ∀ a : P, blsOf (a.map fun _ => D.bl true) = some (a.map fun _ => true)
  | [] => rfl
  | x :: a => by
    show (blsOf (a.map fun _ => D.bl true)).map _ = _
    rw [blsOf_true a]; rfl
theorem R_is_poly_eq {a : P} (ha : Tr a) (hl : a.length ≤ 1000) : R_is_poly [dP a] = .ok (.bl true) [] := by
  have z := lcT (k := 1) (ρ := [.im (dP a), .un]) (el := is_poly_l1e) (f := fun _ => .bl true) (ds := a.map .int) rfl (by simp) (fun ds z => by simp at z) (fun d hd => by
    obtain ⟨i, hi, rfl⟩ := List.mem_map.mp hd
    unfold is_poly_l1e
    get_elem_tactic_extensible) (by rw [List.length_map]; exact len_line hl)
  have hall : allD [.lst ((a.map D.int).map fun _ => D.bl true)] = some (.bl true) := by
    show ((blsOf _).map fun bs => D.bl (bs.all id)) = _
    rw [List.map_map]
    show ((blsOf (a.map fun _ => D.bl true)).map fun bs => D.bl (bs.all id)) = _
    rw [blsOf_true]
    simp
  apply run_ok (np := 1) (N := 2) (m := m_is_poly) (ds := [dP a]) rfl
  rw [eq_is_poly]
  have z' : is_poly_l1 [.im (dP a), .un] = .ok ((a.map D.int).map fun _ => .bl true) [.im (dP a), .un] := z
  have h0 : eqD (dP a) (.tup []) = some (.bl (decide (a = []))) := eqD_dP a []
  have c1 : (orT (notT (tst (op1 (isiD "tuple") (var 0)))) (notT (tst (opA allD (consG (vl (lsE is_poly_l1)) (ret [])))))) [.im (dP a), .un] = .ok false [.im (dP a), .un] := by
    refine orT_f (ρ1 := [.im (dP a), .un]) (by get_elem_tactic_extensible) ?_
    exact notT_go (tst_go (opA_go (consG_go (vl_go (lsE_go z')) rfl) rfl hall rfl) rfl)
  refine thenS_go (ρ1 := [.im (dP a), .un]) (ifS_gf c1 rfl) ?_
  refine retS_go (ρ1 := [.im (dP a), .un]) ?_
  by_cases na : a = []
  · rw [decide_eq_true na] at h0
    exact orE_t (op2_go rfl (tupE_go rfl (shb rfl)) h0)
  · rw [decide_eq_false na] at h0
    refine orE_f (ρ1 := [.im (dP a), .un]) (op2_go rfl (tupE_go rfl (shb rfl)) h0) ?_
    have g2 : ixD (dP a) (.int (-1)) = some (.int (ld a)) := atI_ld na
    have g3 : neD (.int (ld a)) (.int 0) = some (.bl true) := neI_t (ha.ld na)
    get_elem_tactic_extensible
theorem R_is_quotient_eq {n : Nat} {t b : P} (ht : Tr t) (hb : Tr b) (h1 : 1 ≤ n) (Bt : Bn n t) (Bb : Bn n b) (R : Room2 n t.length b.length) :
    ∃ c : Bool, R_is_quotient [.tup [dP t, dP b]] = .ok (.bl c) [] ∧ (c = true ↔ IsQ t b) := by
  have hR := R.n
  have p1 := cok (R_is_poly_eq ht (by omega))
  have p2 := cok (R_is_poly_eq hb (by omega))
  have c1 := cok (R_content_eq t)
  have c2 := cok (R_content_eq b)
  have d1 := cok (R_divisor_eq (contentP t) (contentP b))
  obtain ⟨g, q1, q2⟩ := R_common_eq ht hb h1 Bt Bb R
  have q3 := cok q2
  have i0 : ixD (.tup [dP t, dP b]) (.int 0) = some (dP t) := rfl
  have i1 : ixD (.tup [dP t, dP b]) (.int 1) = some (dP b) := rfl
  have l2 : lenD [.tup [dP t, dP b]] = some (.int 2) := rfl
  have h0 : eqD (dP b) (.tup []) = some (.bl (decide (b = []))) := eqD_dP b []
  have s1 : ifS (orT (notT (tst (op1 (isiD "tuple") (var 0)))) (orT (blE (op2 neD (opA lenD (consG (vl (var 0)) (ret []))) (ret (.int 2)))) (orT (notT (tst (callA R_is_poly (consG (vl (op2 ixD (var 0) (ret (.int 0)))) (ret []))))) (notT (tst (callA R_is_poly (consG (vl (op2 ixD (var 0) (ret (.int 1)))) (ret [])))))))) (retS (ret (.bl false))) skipS [.im (.tup [dP t, dP b])] = .ok .nx [.im (.tup [dP t, dP b])] := by
    get_elem_tactic_extensible
  by_cases nb : b = []
  · rw [decide_eq_true nb] at h0
    refine ⟨false, ?_, by simp [IsQ, nb]⟩
    apply run_ok (np := 1) (N := 1) (m := m_is_quotient) (ds := [.tup [dP t, dP b]]) rfl
    unfold m_is_quotient
    refine thenS_go s1 (thenS_r (ρ1 := [.im (.tup [dP t, dP b])]) (d := .bl false) ?_)
    refine ifS_gt (ρ1 := [.im (.tup [dP t, dP b])]) (orT_t (blE_go (op2_go (op2_go rfl rfl i1) (tupE_go rfl (shb rfl)) h0))) ?_
    get_elem_tactic_extensible
  rw [decide_eq_false nb] at h0
  have i2 : ixD (dP b) (.int (-1)) = some (.int (ld b)) := atI_ld nb
  have e1 : blE (op2 eqD (op2 ixD (var 0) (ret (.int 1))) (tupE (ret []))) [.im (.tup [dP t, dP b])] = .ok false [.im (.tup [dP t, dP b])] := blE_go (op2_go (op2_go rfl rfl i1) (tupE_go rfl (shb rfl)) h0)
  by_cases hl : ld b < 0
  · refine ⟨false, ?_, by simp [IsQ]; omega⟩
    apply run_ok (np := 1) (N := 1) (m := m_is_quotient) (ds := [.tup [dP t, dP b]]) rfl
    unfold m_is_quotient
    refine thenS_go s1 (thenS_r (ρ1 := [.im (.tup [dP t, dP b])]) (d := .bl false) ?_)
    refine ifS_gt (ρ1 := [.im (.tup [dP t, dP b])]) (orT_f e1 (orT_t ?_)) ?_
    · get_elem_tactic_extensible
    · get_elem_tactic_extensible
  have hlb := hb.ld nb
  have e2 : blE (op2 (cmpI fun i j => decide (i < j)) (op2 ixD (op2 ixD (var 0) (ret (.int 1))) (op1 negD (ret (.int 1)))) (ret (.int 0))) [.im (.tup [dP t, dP b])] = .ok false [.im (.tup [dP t, dP b])] := by get_elem_tactic_extensible
  by_cases hg : Int.gcd (contentP t) (contentP b) = 1
  · have e3 : blE (op2 neD (callA R_divisor (consG (vl (callA R_content (consG (vl (op2 ixD (var 0) (ret (.int 0)))) (ret [])))) (consG (vl (callA R_content (consG (vl (op2 ixD (var 0) (ret (.int 1)))) (ret [])))) (ret [])))) (ret (.int 1))) [.im (.tup [dP t, dP b])] = .ok false [.im (.tup [dP t, dP b])] := by
      have : neD (.int (Int.gcd (contentP t) (contentP b) : Nat)) (.int 1) = some (.bl false) := neI_f (by omega)
      get_elem_tactic_extensible
    refine ⟨decide (g.length = 1), ?_, ?_⟩
    · apply run_ok (np := 1) (N := 1) (m := m_is_quotient) (ds := [.tup [dP t, dP b]]) rfl
      unfold m_is_quotient
      refine thenS_go (X := .ok (.rt (.bl (decide (g.length = 1)))) [.im (.tup [dP t, dP b])]) s1 (thenS_go (ifS_gf (orT_f e1 (orT_f e2 e3)) rfl) ?_)
      have : eqD (.int ((g.map D.int).length : Int)) (.int 1) = some (.bl (decide (g.length = 1))) := by
        rw [eqI, List.length_map]
        congr 3
        exact propext ⟨fun h => by omega, fun h => by omega⟩
      get_elem_tactic_extensible
    · rw [decide_eq_true_iff]
      constructor
      · intro h; exact ⟨nb, by omega, hg, g, q1, h⟩
      · rintro ⟨_, _, _, g', h6, h7⟩
        have := (Euc_sim h6 (plain_tr ht) (plain_tr hb) q1 (plain_tr ht) (plain_tr hb) Sim.refl Sim.refl).len (h6.tr (plain_tr ht) (plain_tr hb)) (q1.tr (plain_tr ht) (plain_tr hb))
        omega
  · refine ⟨false, ?_, by simp [IsQ]; intro _ _ h; exact absurd h hg⟩
    have e3 : blE (op2 neD (callA R_divisor (consG (vl (callA R_content (consG (vl (op2 ixD (var 0) (ret (.int 0)))) (ret [])))) (consG (vl (callA R_content (consG (vl (op2 ixD (var 0) (ret (.int 1)))) (ret [])))) (ret [])))) (ret (.int 1))) [.im (.tup [dP t, dP b])] = .ok true [.im (.tup [dP t, dP b])] := by
      have : neD (.int (Int.gcd (contentP t) (contentP b) : Nat)) (.int 1) = some (.bl true) := neI_t (by omega)
      get_elem_tactic_extensible
    apply run_ok (np := 1) (N := 1) (m := m_is_quotient) (ds := [.tup [dP t, dP b]]) rfl
    unfold m_is_quotient
    refine thenS_go s1 (thenS_r (ρ1 := [.im (.tup [dP t, dP b])]) (d := .bl false) ?_)
    refine ifS_gt (ρ1 := [.im (.tup [dP t, dP b])]) (orT_f e1 (orT_f e2 e3)) ?_
    get_elem_tactic_extensible
end K82
end

section
set_option Elab.async false
set_option linter.all false
set_option maxRecDepth 100000
set_option maxHeartbeats 1000000
open V3
local macro_rules | `(tactic| get_elem_tactic_extensible) => `(tactic| repeat' (first
  | with_reducible first
    | exact V3.skipS_go | exact V3.raiseS_go | exact V3.partN_go
    | apply V3.thenS_go | apply V3.asgS_go | apply V3.retS_go | apply V3.exprS_go | apply V3.op2_go | apply V3.op1_go | apply V3.vl_go | apply V3.consG_go | apply V3.consA_go | apply V3.opA_go | apply V3.op2g_go
    | apply V3.callN_go | apply V3.callL_gs | apply V3.callA_go | apply V3.tupE_go | apply V3.lstE_go | apply V3.dispF_go | apply V3.lsE_go | apply V3.tst_go | apply V3.blE_go | apply V3.m1_go | apply V3.partS_go | apply V3.slE_go
    | apply V3.parS_go | apply V3.retF_go | apply V3.repF_go | apply V3.lrgF_go | apply V3.tupS_go | apply V3.lstS_go | apply V3.strS_go | apply V3.rng1S_go | apply V3.forS_go | apply V3.augN_go | apply V3.setIx_gs | apply V3.asgO_go
  | ((with_reducible apply V3.ifS_gt); focus (get_elem_tactic_extensible; done)) | ((with_reducible apply V3.ifS_gf); focus (get_elem_tactic_extensible; done))
  | ((with_reducible apply V3.ifE_gt); focus (get_elem_tactic_extensible; done)) | ((with_reducible apply V3.ifE_gf); focus (get_elem_tactic_extensible; done))
  | ((with_reducible apply V3.andT_f); focus (get_elem_tactic_extensible; done)) | ((with_reducible apply V3.andT_t); focus (get_elem_tactic_extensible; done)) | with_reducible apply V3.andT_go
  | ((with_reducible apply V3.notT_f); focus (get_elem_tactic_extensible; done)) | ((with_reducible apply V3.notT_t); focus (get_elem_tactic_extensible; done)) | with_reducible apply V3.notT_go
  | ((with_reducible apply V3.orT_t); focus (get_elem_tactic_extensible; done)) | ((with_reducible apply V3.orT_f); focus (get_elem_tactic_extensible; done)) | with_reducible apply V3.orT_go
  | ((with_reducible apply V3.andE_f); focus (get_elem_tactic_extensible; done)) | ((with_reducible apply V3.andE_t); focus (get_elem_tactic_extensible; done)) | with_reducible apply V3.andE_go
  | ((with_reducible apply V3.orE_t); focus (get_elem_tactic_extensible; done)) | ((with_reducible apply V3.orE_f); focus (get_elem_tactic_extensible; done)) | with_reducible apply V3.orE_go
  | exact (rfl : V3.ret _ _ = _) | exact (rfl : V3.var _ _ = _) | exact (rfl : V3.own _ _ = _) | exact (rfl : V3.setI _ _ _ = _) | exact (rfl : List.set _ _ _ = _) | exact V3.setI_any rfl (by assumption) | exact (rfl : V3.resA _ _ = _) | exact (rfl : V3.slotL _ _ = _) | exact Eq.refl true
  | with_reducible assumption
  | exact V3.shb rfl
  | exact V3.cmp_t (decide_eq_true (by omega)) | exact V3.cmp_f (decide_eq_false (by omega)) | exact V3.eqI_t (by omega) | exact V3.eqI_f (by omega) | exact V3.neI_t (by omega) | exact V3.neI_f (by omega) | exact V3.modI (by decide)
  | exact (rfl : V3.addD _ _ = _) | exact (rfl : V3.subD _ _ = _) | exact (rfl : V3.negD _ = _) | exact (rfl : V3.notD _ = _) | exact (rfl : V3.cmpI _ _ _ = _) | exact (rfl : V3.lenD _ = _) | exact (rfl : V3.truD _ = _) | exact (rfl : V3.tupleD _ = _) | exact (rfl : V3.listD _ = _) | exact (rfl : V3.isiD _ _ = _) | exact (rfl : V3.isND _ _ = _) | exact (rfl : V3.isNotND _ _ = _)))
namespace K82
open PySem (Str sizeLine)
open V3 Pm
open L2 (ixN atI cutS)
open TL (tl spl numL joinL ext_tl tl_mk mk_tl len_tl tl_append tl_ofString)
open PySem.NumText (AllDigits digitsVal)
/-! Q16: texts as lists of code points. -/
abbrev S' (l : List Nat) : Str := ⟨l.toArray⟩
abbrev T (l : List Nat) : D := .str (S' l)
theorem tl_S (l : List Nat) : tl (S' l) = l := rfl
theorem T_inj {a b : List Nat} (h : T a = T b) : a = b := by
  have : S' a = S' b := by injection h
  have := congrArg tl this
  exact this
theorem S_inj {a b : List Nat} : S' a = S' b ↔ a = b := ⟨fun h => congrArg tl h, fun h => by rw [h]⟩
theorem T_of (x : Str) : D.str x = T (tl x) := congrArg D.str (mk_tl x).symm
theorem lit (s : String) {l : List Nat} (h : s.toList.map Char.toNat = l) : (D.str (Str.ofString s)) = T l := by rw [T_of, tl_ofString, h]
theorem len_S (l : List Nat) : (S' l).length = l.length := by rw [len_tl, tl_S]
/-- plain signs -/
def Pl (l : List Nat) : Prop := ∀ c ∈ l, c < 256
theorem strOk_S {l : List Nat} (h : Pl l) : PySem.PyData.strOk (S' l) = true := by
  unfold PySem.PyData.strOk
  rw [← Array.all_toList, List.all_eq_true]
  intro c hc
  have := h c hc
  exact decide_eq_true (by omega)
theorem eqD_T {a b : List Nat} (ha : Pl a) (hb : Pl b) : eqD (T a) (T b) = some (.bl (decide (a = b))) := by
  have e : PySem.PyData.eqv (.str (S' a)) (.str (S' b)) = decide (a = b) := by
    simp [PySem.PyData.eqv]
    by_cases h : a = b
    · subst h; simp
    · simp [h]
  simp [eqD, D.py, PySem.SeqAt.shaped, PySem.PyData.canLay0, PySem.PyData.depth, e, strOk_S ha, strOk_S hb]
theorem neD_T {a b : List Nat} (ha : Pl a) (hb : Pl b) : neD (T a) (T b) = some (.bl (!decide (a = b))) := by
  have e : PySem.PyData.eqv (.str (S' a)) (.str (S' b)) = decide (a = b) := by
    simp [PySem.PyData.eqv]
    by_cases h : a = b
    · subst h; simp
    · simp [h]
  simp [neD, D.py, PySem.SeqAt.shaped, PySem.PyData.canLay0, PySem.PyData.depth, e, strOk_S ha, strOk_S hb]
theorem lenD_T {l : List Nat} (h : l.length ≤ 1000000) : lenD [T l] = some (.int l.length) := by
  have e : lenD [T l] = if (S' l).length ≤ sizeLine then some (.int (S' l).length) else none := rfl
  rw [e, len_S, if_pos (Nat.le_trans h line_big)]
theorem truD_T {l : List Nat} (h : l.length ≤ 1000000) : truD (T l) = some (decide (l ≠ [])) := by
  have e : truD (T l) = if (S' l).length ≤ sizeLine then some (((S' l).length : Int) != 0) else none := rfl
  rw [e, len_S, if_pos (Nat.le_trans h line_big)]
  congr 1
  cases l with
  | nil => rfl
  | cons a l => simp; omega
theorem slT {l : List Nat} (h : l.length ≤ 1000000) (lo hi : Option Int) : slD (T l) lo hi = some (T ((l.drop (HT.sIx l.length 0 lo)).take (HT.sIx l.length l.length hi - HT.sIx l.length 0 lo))) := by
  have e : slD (T l) lo hi = if (S' l).length ≤ sizeLine then some (.str (cutS (S' l) lo hi)) else none := rfl
  rw [e, len_S, if_pos (Nat.le_trans h line_big), T_of]
  have e2 : tl (cutS (S' l) lo hi) = ((tl (S' l)).drop (HT.sIx (S' l).length 0 lo)).take (HT.sIx (S' l).length (S' l).length hi - HT.sIx (S' l).length 0 lo) := rfl
  rw [e2, len_S, tl_S]
theorem slT_to {l : List Nat} {k : Nat} (h : l.length ≤ 1000000) : slD (T l) none (some (k : Int)) = some (T (l.take k)) := by
  rw [slT h, HT.sIx_none, HT.sIx_nat, List.drop_zero, Nat.sub_zero]
  congr 2
  by_cases hk : k ≤ l.length
  · rw [Nat.min_eq_left hk]
  · rw [Nat.min_eq_right (by omega), List.take_of_length_le (by omega), List.take_of_length_le (by omega)]
theorem slT_from {l : List Nat} {k : Nat} (h : l.length ≤ 1000000) : slD (T l) (some (k : Int)) none = some (T (l.drop k)) := by
  rw [slT h, HT.sIx_none, HT.sIx_nat]
  congr 2
  by_cases hk : k ≤ l.length
  · rw [Nat.min_eq_left hk, List.take_of_length_le (by simp)]
  · rw [Nat.min_eq_right (by omega), List.drop_eq_nil_of_le (by omega), List.drop_eq_nil_of_le (by omega), List.take_nil]
theorem ixT {l : List Nat} {k : Nat} (hk : k < l.length) (h : l.length ≤ 1000000) : ixD (T l) (.int (k : Int)) = some (T [l[k]]) := by
  have e : ixD (T l) (.int (k : Int)) = if (S' l).length ≤ sizeLine then (atI l (k : Int)).map fun c => .str ⟨#[c]⟩ else none := rfl
  rw [e, len_S, if_pos (Nat.le_trans h line_big), atI_nat hk]
  rfl
theorem addT {a b : List Nat} (h : a.length + b.length ≤ 1000000) : addD (T a) (T b) = some (T (a ++ b)) := by
  have e : addD (T a) (T b) = if (S' a).length + (S' b).length ≤ sizeLine then some (.str (S' a ++ S' b)) else none := rfl
  rw [e, len_S, len_S, if_pos (Nat.le_trans h line_big), T_of, tl_append, tl_S, tl_S]
theorem splitT {l s : List Nat} (hs : s ≠ []) (hk : (S' s).cps.all (· < 256) = true) (h : l.length ≤ 100000) : splitD (T l) (T s) = some (.lst ((spl s 0 [] l).map T)) := by
  have e : splitD (T l) (T s) = if ((S' s).length == 0) = false ∧ (S' l).length + 2 ≤ sizeLine then some (.lst ((PySem.Txt.split (S' l) (S' s)).map .str)) else none := rfl
  have hp : 0 < s.length := List.length_pos_iff.mpr hs
  rw [e, len_S, len_S, if_pos ⟨by simpa using hs, by have := line_big; omega⟩]
  have z := TL.split_spl (S' l) (S' s) (by rw [tl_S]; exact hs) (TL.kind_ok hk)
  rw [tl_S, tl_S] at z
  rw [← z, List.map_map]
  have e2 : (fun x : Str => D.str x) = T ∘ tl := by funext x; exact T_of x
  rw [← e2]
theorem strsOf_T : ∀ ps : List (List Nat), strsOf (ps.map T) = some (ps.map S')
  | [] => rfl
  | p :: ps => by
    show (strsOf (ps.map T)).map _ = _
    rw [strsOf_T ps]; rfl
theorem joinT {s : List Nat} {ps : List (List Nat)} (h : (ps.map (·.length)).sum + ps.length * s.length ≤ 16777216) : joinD (T s) (.lst (ps.map T)) = some (T (joinL s ps)) := by
  have e : joinD (T s) (.lst (ps.map T)) = (strsOf (ps.map T)).bind fun ys => if (ys.map (·.length)).sum + ys.length * (S' s).length ≤ 16777216 then some (.str (PySem.Txt.join (S' s) ys)) else none := rfl
  rw [e, strsOf_T, Option.bind_some, List.map_map, List.length_map, len_S]
  have e2 : ((fun x : Str => x.length) ∘ S') = fun p : List Nat => p.length := by funext p; exact len_S p
  rw [e2, if_pos h, T_of, TL.join_eq, TL.tl_join, List.map_map]
  have e3 : (tl ∘ S') = id := by funext p; rfl
  rw [e3, List.map_id, tl_S]
theorem inT {c : Nat} {y : List Nat} : inD (T [c]) (T y) = some (.bl (decide (c ∈ y))) := rfl
theorem chrs_T {l : List Nat} : chrs (S' l) = l.map fun c => T [c] := rfl
/-- the signs of an int -/
def showI (i : Int) : List Nat := if i < 0 then 45 :: numL i.natAbs else numL i.natAbs
theorem tl_show (i : Int) : tl (Str.ofString (toString i)) = showI i := by
  unfold showI
  cases i with
  | ofNat n =>
    rw [if_neg (Int.not_lt.mpr (Int.natCast_nonneg n) : ¬ (Int.ofNat n < 0))]
    exact TL.tl_num n
  | negSucc n =>
    rw [if_pos (Int.negSucc_lt_zero n), tl_ofString]
    have e : toString (Int.negSucc n) = "-" ++ toString (n + 1) := rfl
    rw [e, String.toList_append, List.map_append]
    have e2 := TL.tl_num (n + 1)
    rw [tl_ofString] at e2
    have e3 : toString ((n + 1 : Nat) : Int) = toString (n + 1) := rfl
    rw [e3] at e2
    rw [e2]
    rfl
theorem strT {i : Int} (h : i.natAbs < 2 ^ 1900) : strD [.int i] = some (T (showI i)) := by
  have e : strD [.int i] = if i.natAbs.log2 < 1920 then some (.str (toString i)) else none := rfl
  rw [e, if_pos (by have := log2_le h; omega), T_of, tl_show]
end K82
end

section
set_option Elab.async false
set_option linter.all false
set_option maxRecDepth 100000
set_option maxHeartbeats 1000000
open V3
local macro_rules | `(tactic| get_elem_tactic_extensible) => `(tactic| repeat' (first
  | with_reducible first
    | exact V3.skipS_go | exact V3.raiseS_go | exact V3.partN_go
    | apply V3.thenS_go | apply V3.asgS_go | apply V3.retS_go | apply V3.exprS_go | apply V3.op2_go | apply V3.op1_go | apply V3.vl_go | apply V3.consG_go | apply V3.consA_go | apply V3.opA_go | apply V3.op2g_go
    | apply V3.callN_go | apply V3.callL_gs | apply V3.callA_go | apply V3.tupE_go | apply V3.lstE_go | apply V3.dispF_go | apply V3.lsE_go | apply V3.tst_go | apply V3.blE_go | apply V3.m1_go | apply V3.partS_go | apply V3.slE_go
    | apply V3.parS_go | apply V3.retF_go | apply V3.repF_go | apply V3.lrgF_go | apply V3.tupS_go | apply V3.lstS_go | apply V3.strS_go | apply V3.rng1S_go | apply V3.forS_go | apply V3.augN_go | apply V3.setIx_gs | apply V3.asgO_go
  | ((with_reducible apply V3.ifS_gt); focus (get_elem_tactic_extensible; done)) | ((with_reducible apply V3.ifS_gf); focus (get_elem_tactic_extensible; done))
  | ((with_reducible apply V3.ifE_gt); focus (get_elem_tactic_extensible; done)) | ((with_reducible apply V3.ifE_gf); focus (get_elem_tactic_extensible; done))
  | ((with_reducible apply V3.andT_f); focus (get_elem_tactic_extensible; done)) | ((with_reducible apply V3.andT_t); focus (get_elem_tactic_extensible; done)) | with_reducible apply V3.andT_go
  | ((with_reducible apply V3.notT_f); focus (get_elem_tactic_extensible; done)) | ((with_reducible apply V3.notT_t); focus (get_elem_tactic_extensible; done)) | with_reducible apply V3.notT_go
  | ((with_reducible apply V3.orT_t); focus (get_elem_tactic_extensible; done)) | ((with_reducible apply V3.orT_f); focus (get_elem_tactic_extensible; done)) | with_reducible apply V3.orT_go
  | ((with_reducible apply V3.andE_f); focus (get_elem_tactic_extensible; done)) | ((with_reducible apply V3.andE_t); focus (get_elem_tactic_extensible; done)) | with_reducible apply V3.andE_go
  | ((with_reducible apply V3.orE_t); focus (get_elem_tactic_extensible; done)) | ((with_reducible apply V3.orE_f); focus (get_elem_tactic_extensible; done)) | with_reducible apply V3.orE_go
  | exact (rfl : V3.ret _ _ = _) | exact (rfl : V3.var _ _ = _) | exact (rfl : V3.own _ _ = _) | exact (rfl : V3.setI _ _ _ = _) | exact (rfl : List.set _ _ _ = _) | exact V3.setI_any rfl (by assumption) | exact (rfl : V3.resA _ _ = _) | exact (rfl : V3.slotL _ _ = _) | exact Eq.refl true
  | with_reducible assumption
  | exact V3.shb rfl
  | exact V3.cmp_t (decide_eq_true (by omega)) | exact V3.cmp_f (decide_eq_false (by omega)) | exact V3.eqI_t (by omega) | exact V3.eqI_f (by omega) | exact V3.neI_t (by omega) | exact V3.neI_f (by omega) | exact V3.modI (by decide)
  | exact (rfl : V3.addD _ _ = _) | exact (rfl : V3.subD _ _ = _) | exact (rfl : V3.negD _ = _) | exact (rfl : V3.notD _ = _) | exact (rfl : V3.cmpI _ _ _ = _) | exact (rfl : V3.lenD _ = _) | exact (rfl : V3.truD _ = _) | exact (rfl : V3.tupleD _ = _) | exact (rfl : V3.listD _ = _) | exact (rfl : V3.isiD _ _ = _) | exact (rfl : V3.isND _ _ = _) | exact (rfl : V3.isNotND _ _ = _)))
namespace K82
open PySem (Str sizeLine)
open V3 Pm
open L2 (ixN atI cutS)
open TL (tl spl numL joinL ext_tl tl_mk mk_tl len_tl tl_append tl_ofString)
open PySem.NumText (AllDigits digitsVal)
/-! Q17: a whole number's text. -/
def figs (l : List Nat) : List Nat := if l.take 1 = [45] then l.drop 1 else l
def digs (l : List Nat) : Bool := l.all fun c => decide (48 ≤ c) && decide (c ≤ 57)
def wok (l : List Nat) : Bool := (!decide (figs l = []) && digs (figs l)) && (!decide ((figs l).take 1 = [48]) || decide (l = [48]))
def wval (l : List Nat) : Int := if l.take 1 = [45] then -((digitsVal (figs l) : Nat) : Int) else ((digitsVal (figs l) : Nat) : Int)
theorem digs_all {l : List Nat} (h : digs l = true) : AllDigits l := fun c hc => by
  have := List.all_eq_true.mp h c hc
  simp at this
  exact this
theorem lit_digits : (D.str (Str.ofString "0123456789")) = T [48, 49, 50, 51, 52, 53, 54, 55, 56, 57] := lit _ (by decide)
theorem lit_minus : (D.str (Str.ofString "-")) = T [45] := lit _ (by decide)
theorem lit_zero : (D.str (Str.ofString "0")) = T [48] := lit _ (by decide)
theorem lit_nil : (D.str (Str.ofString "")) = T [] := lit _ (by decide)
theorem lit_blank : (D.str (Str.ofString " ")) = T [32] := lit _ (by decide)
theorem lit_stroke : (D.str (Str.ofString "/")) = T [47] := lit _ (by decide)
theorem lit_bar : (D.str (Str.ofString " / ")) = T [32, 47, 32] := lit _ (by decide)
theorem dig_mem (c : Nat) : decide (c ∈ [48, 49, 50, 51, 52, 53, 54, 55, 56, 57]) = (decide (48 ≤ c) && decide (c ≤ 57)) := by
  rw [Bool.eq_iff_iff]
  simp
  omega
theorem blsOf_map : ∀ bs : List Bool, blsOf (bs.map .bl) = some bs
  | [] => rfl
  | b :: bs => by
    show (blsOf (bs.map .bl)).map _ = _
    rw [blsOf_map bs]; rfl
theorem allD_map {α : Type} (l : List α) (f : α → Bool) : allD [.lst (l.map fun x => .bl (f x))] = some (.bl (l.all f)) := by
  show ((blsOf _).map fun bs => D.bl (bs.all id)) = _
  have e : (l.map fun x => D.bl (f x)) = (l.map f).map .bl := by rw [List.map_map]; rfl
  rw [e, blsOf_map]
  simp [List.all_map]
theorem Pl.take {l : List Nat} (h : Pl l) (k : Nat) : Pl (l.take k) := fun c hc => h c (List.mem_of_mem_take hc)
theorem Pl.drop {l : List Nat} (h : Pl l) (k : Nat) : Pl (l.drop k) := fun c hc => h c (List.mem_of_mem_drop hc)
theorem Pl.figs {l : List Nat} (h : Pl l) : Pl (figs l) := by
  unfold K82.figs
  split
  · exact h.drop 1
  · exact h
theorem pl_lit {l : List Nat} (h : (l.all fun c => decide (c < 256)) = true) : Pl l := fun c hc => by simpa using List.all_eq_true.mp h c hc
theorem lcDig {l f : List Nat} {s : Sl} (hs : ∀ es, s ≠ .ow es) (hl : f.length ≤ 1000) :
    lcE [2] (strS (var 1)) (setI 2) (ret true) (op2 inD (var 2) (ret (.str "0123456789"))) [.im (T l), .im (T f), s] = .ok (f.map fun c => .bl (decide (48 ≤ c) && decide (c ≤ 57))) [.im (T l), .im (T f), .un] := by
  have hsrc : strS (var 1) [.im (T l), .im (T f), s] = .ok (f.map fun c => T [c]) [.im (T l), .im (T f), s] := strS_go rfl
  let g : D → D := fun d => match d with | .str x => .bl (decide (48 ≤ (tl x).headD 0) && decide ((tl x).headD 0 ≤ 57)) | d => d
  have z := lcE_pure (k := 2) (el := op2 inD (var 2) (ret (.str "0123456789"))) (f := g) hsrc (by simp) (fun ds z => hs ds (by simpa using z)) (fun d hd => by
    obtain ⟨c, hc, rfl⟩ := List.mem_map.mp hd
    refine op2_go (d := T [c]) (e := .str "0123456789") rfl rfl ?_
    rw [lit_digits, inT, dig_mem]
    rfl) (by rw [List.length_map]; exact len_line hl)
  have em : (f.map fun c => T [c]).map g = f.map fun c => .bl (decide (48 ≤ c) && decide (c ≤ 57)) := by rw [List.map_map]; rfl
  rw [em] at z
  exact z
theorem intT {l : List Nat} (hl : l.length ≤ 600) (h : wok l = true) : intD [T l] = some (.int (wval l)) := by
  have e : intD [T l] = if (S' l).length ≤ 640 then (PySem.intText? (S' l)).map .int else none := rfl
  rw [e, len_S, if_pos (by omega)]
  unfold wok at h
  rw [Bool.and_eq_true, Bool.and_eq_true, Bool.not_eq_true', decide_eq_false_iff_not] at h
  obtain ⟨⟨h1, h2⟩, _⟩ := h
  have hd := digs_all h2
  unfold wval
  by_cases hm : l.take 1 = [45]
  · have ef : figs l = l.drop 1 := by unfold figs; rw [if_pos hm]
    have el : l = 45 :: figs l := by
      rw [ef]
      have := List.take_append_drop 1 l
      rw [hm] at this
      exact this.symm
    rw [if_pos hm, PySem.intText_neg (cs := figs l) (x := S' l) el hd h1 (by rw [len_S]; omega)]
    rfl
  · have ef : figs l = l := by unfold figs; rw [if_neg hm]
    rw [ef] at hd h1
    rw [if_neg hm, ef, PySem.intText_digits (x := S' l) hd h1 (by rw [len_S]; omega)]
    rfl
theorem R_must_t : Cok R_must [.bl true] .non := cok (run_nx (np := 1) (N := 1) (m := m_must) (ds := [.bl true]) rfl (ρ' := [.im (.bl true)]) rfl)
theorem R_must_f : Cex R_must [.bl false] "NoText" := cex (run_x (np := 1) (N := 1) (m := m_must) (ds := [.bl false]) rfl (ρ' := [.im (.bl false)]) rfl)
end K82
end

section
set_option Elab.async false
set_option linter.all false
set_option maxRecDepth 100000
set_option maxHeartbeats 1000000
open V3
local macro_rules | `(tactic| get_elem_tactic_extensible) => `(tactic| repeat' (first
  | with_reducible first
    | exact V3.skipS_go | exact V3.raiseS_go | exact V3.partN_go
    | apply V3.thenS_go | apply V3.asgS_go | apply V3.retS_go | apply V3.exprS_go | apply V3.op2_go | apply V3.op1_go | apply V3.vl_go | apply V3.consG_go | apply V3.consA_go | apply V3.opA_go | apply V3.op2g_go
    | apply V3.callN_go | apply V3.callL_gs | apply V3.callA_go | apply V3.tupE_go | apply V3.lstE_go | apply V3.dispF_go | apply V3.lsE_go | apply V3.tst_go | apply V3.blE_go | apply V3.m1_go | apply V3.partS_go | apply V3.slE_go
    | apply V3.parS_go | apply V3.retF_go | apply V3.repF_go | apply V3.lrgF_go | apply V3.tupS_go | apply V3.lstS_go | apply V3.strS_go | apply V3.rng1S_go | apply V3.forS_go | apply V3.augN_go | apply V3.setIx_gs | apply V3.asgO_go
  | ((with_reducible apply V3.ifS_gt); focus (get_elem_tactic_extensible; done)) | ((with_reducible apply V3.ifS_gf); focus (get_elem_tactic_extensible; done))
  | ((with_reducible apply V3.ifE_gt); focus (get_elem_tactic_extensible; done)) | ((with_reducible apply V3.ifE_gf); focus (get_elem_tactic_extensible; done))
  | ((with_reducible apply V3.andT_f); focus (get_elem_tactic_extensible; done)) | ((with_reducible apply V3.andT_t); focus (get_elem_tactic_extensible; done)) | with_reducible apply V3.andT_go
  | ((with_reducible apply V3.notT_f); focus (get_elem_tactic_extensible; done)) | ((with_reducible apply V3.notT_t); focus (get_elem_tactic_extensible; done)) | with_reducible apply V3.notT_go
  | ((with_reducible apply V3.orT_t); focus (get_elem_tactic_extensible; done)) | ((with_reducible apply V3.orT_f); focus (get_elem_tactic_extensible; done)) | with_reducible apply V3.orT_go
  | ((with_reducible apply V3.andE_f); focus (get_elem_tactic_extensible; done)) | ((with_reducible apply V3.andE_t); focus (get_elem_tactic_extensible; done)) | with_reducible apply V3.andE_go
  | ((with_reducible apply V3.orE_t); focus (get_elem_tactic_extensible; done)) | ((with_reducible apply V3.orE_f); focus (get_elem_tactic_extensible; done)) | with_reducible apply V3.orE_go
  | exact (rfl : V3.ret _ _ = _) | exact (rfl : V3.var _ _ = _) | exact (rfl : V3.own _ _ = _) | exact (rfl : V3.setI _ _ _ = _) | exact (rfl : List.set _ _ _ = _) | exact V3.setI_any rfl (by assumption) | exact (rfl : V3.resA _ _ = _) | exact (rfl : V3.slotL _ _ = _) | exact Eq.refl true
  | with_reducible assumption
  | exact V3.shb rfl
  | exact V3.cmp_t (decide_eq_true (by omega)) | exact V3.cmp_f (decide_eq_false (by omega)) | exact V3.eqI_t (by omega) | exact V3.eqI_f (by omega) | exact V3.neI_t (by omega) | exact V3.neI_f (by omega) | exact V3.modI (by decide)
  | exact (rfl : V3.addD _ _ = _) | exact (rfl : V3.subD _ _ = _) | exact (rfl : V3.negD _ = _) | exact (rfl : V3.notD _ = _) | exact (rfl : V3.cmpI _ _ _ = _) | exact (rfl : V3.lenD _ = _) | exact (rfl : V3.truD _ = _) | exact (rfl : V3.tupleD _ = _) | exact (rfl : V3.listD _ = _) | exact (rfl : V3.isiD _ _ = _) | exact (rfl : V3.isND _ _ = _) | exact (rfl : V3.isNotND _ _ = _)))
namespace K82
open PySem (Str sizeLine)
open V3 Pm
open L2 (ixN atI cutS)
open TL (tl spl numL joinL ext_tl tl_mk mk_tl len_tl tl_append tl_ofString)
open PySem.NumText (AllDigits digitsVal)
/-! Q18: both readers of a whole number. -/
theorem pl1 : Pl [45] := pl_lit rfl
theorem pl48 : Pl [48] := pl_lit rfl
theorem plN : Pl [] := pl_lit rfl
theorem figS {l : List Nat} (hp : Pl l) (hl : l.length ≤ 600) : (asgS 1 (ifE (blE (op2 eqD (slE (vl (var 0)) partN (partS (ret (.int 1)))) (ret (.str "-")))) (slE (vl (var 0)) (partS (ret (.int 1))) partN) (var 0))) [.im (T l), .un, .un] = .ok .nx [.im (T l), .im (T (figs l)), .un] := by
  have h1 : sl1 none (some 1) [T l] = some (T (l.take 1)) := slT_to (k := 1) (by omega)
  have h2 : sl1 (some 1) none [T l] = some (T (l.drop 1)) := slT_from (k := 1) (by omega)
  have h3 : eqD (T (l.take 1)) (.str "-") = some (.bl (decide (l.take 1 = [45]))) := by rw [lit_minus]; exact eqD_T (hp.take 1) pl1
  unfold figs
  by_cases h : l.take 1 = [45]
  · rw [decide_eq_true h] at h3
    rw [if_pos h]
    get_elem_tactic_extensible
  · rw [decide_eq_false h] at h3
    rw [if_neg h]
    get_elem_tactic_extensible
section
variable {l f : List Nat} (hp : Pl l) (hf : Pl f) (hl : f.length ≤ 600)
include hf hl
theorem tNil : blE (op2 eqD (var 1) (ret (.str ""))) [.im (T l), .im (T f), .un] = .ok (decide (f = [])) [.im (T l), .im (T f), .un] := by
  have h3 : eqD (T f) (.str "") = some (.bl (decide (f = []))) := by rw [lit_nil]; exact eqD_T hf plN
  exact blE_go (op2_go rfl rfl h3)
theorem tNil' : op2 neD (var 1) (ret (.str "")) [.im (T l), .im (T f), .un] = .ok (.bl (!decide (f = []))) [.im (T l), .im (T f), .un] := by
  have h3 : neD (T f) (.str "") = some (.bl (!decide (f = []))) := by rw [lit_nil]; exact neD_T hf plN
  exact op2_go rfl rfl h3
theorem tDig {L : Cm (List D)} (hL : L = lcE [2] (strS (var 1)) (setI 2) (ret true) (op2 inD (var 2) (ret (.str "0123456789")))) :
    opA allD (consG (vl (lsE L)) (ret [])) [.im (T l), .im (T f), .un] = .ok (.bl (digs f)) [.im (T l), .im (T f), .un] := by
  rw [hL]
  have z := lcDig (l := l) (f := f) (s := .un) (fun _ z => by cases z) (by omega)
  exact opA_go (consG_go (vl_go (lsE_go z)) rfl) rfl (allD_map f _) rfl
theorem tHead (hn : f ≠ []) : op2 ixD (var 1) (ret (.int 0)) [.im (T l), .im (T f), .un] = .ok (T (f.take 1)) [.im (T l), .im (T f), .un] := by
  have hpos : 0 < f.length := List.length_pos_iff.mpr hn
  have h3 := ixT (k := 0) hpos (by omega)
  have e : f.take 1 = [f[0]] := by
    cases f with
    | nil => exact absurd rfl hn
    | cons a r => rfl
  rw [e]
  exact op2_go rfl rfl h3
end
theorem R_whole_in_eq {l : List Nat} (hp : Pl l) (hl : l.length ≤ 600) : if wok l = true then R_whole_in [T l] = .ok (.int (wval l)) [] else R_whole_in [T l] = .exc "NoText" [] := by
  have hf := hp.figs
  have hfl : (figs l).length ≤ 600 := by
    unfold figs
    split
    · simp; omega
    · exact hl
  have s1 := figS hp hl
  have mt := R_must_t
  have mf := R_must_f
  have a1 := tNil' (l := l) hf hfl
  have a2 := tDig (l := l) hf hfl (L := whole_in_l1) rfl
  have u : R_whole_in [T l] = runD 1 3 m_whole_in [T l] := rfl
  have t2 : andE (op2 neD (var 1) (ret (.str ""))) (opA allD (consG (vl (lsE whole_in_l1)) (ret []))) [.im (T l), .im (T (figs l)), .un] = .ok (.bl (!decide (figs l = []) && digs (figs l))) [.im (T l), .im (T (figs l)), .un] := andE_go a1 a2
  rw [u]
  cases h1 : (!decide (figs l = []) && digs (figs l)) with
  | false =>
    rw [h1] at t2
    have : wok l = false := by unfold wok; rw [h1]; rfl
    rw [this, if_neg (by decide)]
    refine run_x (ρ' := [.im (T l), .im (T (figs l)), .un]) rfl ?_
    rw [eq_whole_in]
    refine thenS_go s1 (thenS_x (exprS_x (callA_x (consG_go (vl_go t2) rfl) rfl mf)))
  | true =>
    rw [h1] at t2
    have hn : figs l ≠ [] := by
      rw [Bool.and_eq_true] at h1
      simpa using h1.1
    have a3 := tHead (l := l) hf hfl hn
    have b1 : op2 neD (op2 ixD (var 1) (ret (.int 0))) (ret (.str "0")) [.im (T l), .im (T (figs l)), .un] = .ok (.bl (!decide ((figs l).take 1 = [48]))) [.im (T l), .im (T (figs l)), .un] :=
      op2_go a3 rfl (by rw [lit_zero]; exact neD_T (hf.take 1) pl48)
    have b2 : op2 eqD (var 0) (ret (.str "0")) [.im (T l), .im (T (figs l)), .un] = .ok (.bl (decide (l = [48]))) [.im (T l), .im (T (figs l)), .un] :=
      op2_go rfl rfl (by rw [lit_zero]; exact eqD_T hp pl48)
    have t3 := orE_go b1 b2
    have s2 : exprS (callA R_must (consG (vl (andE (op2 neD (var 1) (ret (.str ""))) (opA allD (consG (vl (lsE whole_in_l1)) (ret []))))) (ret []))) [.im (T l), .im (T (figs l)), .un] = .ok .nx [.im (T l), .im (T (figs l)), .un] :=
      exprS_go (callA_go (consG_go (vl_go t2) rfl) rfl mt rfl)
    cases h2 : (!decide ((figs l).take 1 = [48]) || decide (l = [48])) with
    | false =>
      rw [h2] at t3
      have : wok l = false := by unfold wok; rw [h1, h2]; rfl
      rw [this, if_neg (by decide)]
      refine run_x (ρ' := [.im (T l), .im (T (figs l)), .un]) rfl ?_
      rw [eq_whole_in]
      exact thenS_go s1 (thenS_go s2 (thenS_x (exprS_x (callA_x (consG_go (vl_go t3) rfl) rfl mf))))
    | true =>
      rw [h2] at t3
      have hw : wok l = true := by unfold wok; rw [h1, h2]; rfl
      rw [if_pos hw]
      refine run_ok (ρ' := [.im (T l), .im (T (figs l)), .un]) rfl ?_
      rw [eq_whole_in]
      exact thenS_go s1 (thenS_go s2 (thenS_go (exprS_go (callA_go (consG_go (vl_go t3) rfl) rfl mt rfl)) (retS_go (opA_go (consG_go (vl_go rfl) rfl) rfl (intT hl hw) rfl))))
def wD (l : List Nat) : D := if wok l = true then .int (wval l) else .non
theorem R__law_whole_in_eq {l : List Nat} (hp : Pl l) (hl : l.length ≤ 600) : R__law_whole_in [T l] = .ok (wD l) [] := by
  have hf := hp.figs
  have hfl : (figs l).length ≤ 600 := by
    unfold figs
    split
    · simp; omega
    · exact hl
  have s1 := figS hp hl
  have a1 := tNil (l := l) hf hfl
  have a2 := tDig (l := l) hf hfl (L := _law_whole_in_l1) rfl
  have u : R__law_whole_in [T l] = runD 1 3 m__law_whole_in [T l] := rfl
  have t2 : orT (blE (op2 eqD (var 1) (ret (.str "")))) (notT (tst (opA allD (consG (vl (lsE _law_whole_in_l1)) (ret []))))) [.im (T l), .im (T (figs l)), .un] = .ok (decide (figs l = []) || !digs (figs l)) [.im (T l), .im (T (figs l)), .un] :=
    orT_go a1 (notT_go (tst_go a2 rfl))
  rw [u]
  unfold wD
  cases h1 : (decide (figs l = []) || !digs (figs l)) with
  | true =>
    rw [h1] at t2
    have : wok l = false := by
      unfold wok
      have : (!decide (figs l = []) && digs (figs l)) = false := by
        have := congrArg (!·) h1
        simpa using this
      rw [this]; rfl
    rw [this, if_neg (by decide)]
    refine run_ok (ρ' := [.im (T l), .im (T (figs l)), .un]) rfl ?_
    rw [eq__law_whole_in]
    exact thenS_go s1 (thenS_r (ifS_gt t2 rfl))
  | false =>
    rw [h1] at t2
    have h1' : (!decide (figs l = []) && digs (figs l)) = true := by
      have := congrArg (!·) h1
      simpa using this
    have hn : figs l ≠ [] := by
      rw [Bool.and_eq_true] at h1'
      simpa using h1'.1
    have a3 := tHead (l := l) hf hfl hn
    have b1 : blE (op2 eqD (op2 ixD (var 1) (ret (.int 0))) (ret (.str "0"))) [.im (T l), .im (T (figs l)), .un] = .ok (decide ((figs l).take 1 = [48])) [.im (T l), .im (T (figs l)), .un] :=
      blE_go (op2_go a3 rfl (by rw [lit_zero]; exact eqD_T (hf.take 1) pl48))
    have b2 : blE (op2 neD (var 0) (ret (.str "0"))) [.im (T l), .im (T (figs l)), .un] = .ok (!decide (l = [48])) [.im (T l), .im (T (figs l)), .un] :=
      blE_go (op2_go rfl rfl (by rw [lit_zero]; exact neD_T hp pl48))
    have t3 := andT_go b1 b2
    cases h2 : (decide ((figs l).take 1 = [48]) && !decide (l = [48])) with
    | true =>
      rw [h2] at t3
      have : wok l = false := by
        unfold wok
        have : (!decide ((figs l).take 1 = [48]) || decide (l = [48])) = false := by
          have := congrArg (!·) h2
          simpa using this
        rw [this, Bool.and_false]
      rw [this, if_neg (by decide)]
      refine run_ok (ρ' := [.im (T l), .im (T (figs l)), .un]) rfl ?_
      rw [eq__law_whole_in]
      exact thenS_go s1 (thenS_go (ifS_gf t2 rfl) (thenS_r (ifS_gt t3 rfl)))
    | false =>
      rw [h2] at t3
      have hw : wok l = true := by
        unfold wok
        have : (!decide ((figs l).take 1 = [48]) || decide (l = [48])) = true := by
          have := congrArg (!·) h2
          simpa using this
        rw [h1', this]; rfl
      rw [if_pos hw]
      refine run_ok (ρ' := [.im (T l), .im (T (figs l)), .un]) rfl ?_
      rw [eq__law_whole_in]
      exact thenS_go s1 (thenS_go (ifS_gf t2 rfl) (thenS_go (ifS_gf t3 rfl) (retS_go (opA_go (consG_go (vl_go rfl) rfl) rfl (intT hl hw) rfl))))
end K82
end

section
set_option Elab.async false
set_option linter.all false
set_option maxRecDepth 100000
set_option maxHeartbeats 1000000
open V3
local macro_rules | `(tactic| get_elem_tactic_extensible) => `(tactic| repeat' (first
  | with_reducible first
    | exact V3.skipS_go | exact V3.raiseS_go | exact V3.partN_go
    | apply V3.thenS_go | apply V3.asgS_go | apply V3.retS_go | apply V3.exprS_go | apply V3.op2_go | apply V3.op1_go | apply V3.vl_go | apply V3.consG_go | apply V3.consA_go | apply V3.opA_go | apply V3.op2g_go
    | apply V3.callN_go | apply V3.callL_gs | apply V3.callA_go | apply V3.tupE_go | apply V3.lstE_go | apply V3.dispF_go | apply V3.lsE_go | apply V3.tst_go | apply V3.blE_go | apply V3.m1_go | apply V3.partS_go | apply V3.slE_go
    | apply V3.parS_go | apply V3.retF_go | apply V3.repF_go | apply V3.lrgF_go | apply V3.tupS_go | apply V3.lstS_go | apply V3.strS_go | apply V3.rng1S_go | apply V3.forS_go | apply V3.augN_go | apply V3.setIx_gs | apply V3.asgO_go
  | ((with_reducible apply V3.ifS_gt); focus (get_elem_tactic_extensible; done)) | ((with_reducible apply V3.ifS_gf); focus (get_elem_tactic_extensible; done))
  | ((with_reducible apply V3.ifE_gt); focus (get_elem_tactic_extensible; done)) | ((with_reducible apply V3.ifE_gf); focus (get_elem_tactic_extensible; done))
  | ((with_reducible apply V3.andT_f); focus (get_elem_tactic_extensible; done)) | ((with_reducible apply V3.andT_t); focus (get_elem_tactic_extensible; done)) | with_reducible apply V3.andT_go
  | ((with_reducible apply V3.notT_f); focus (get_elem_tactic_extensible; done)) | ((with_reducible apply V3.notT_t); focus (get_elem_tactic_extensible; done)) | with_reducible apply V3.notT_go
  | ((with_reducible apply V3.orT_t); focus (get_elem_tactic_extensible; done)) | ((with_reducible apply V3.orT_f); focus (get_elem_tactic_extensible; done)) | with_reducible apply V3.orT_go
  | ((with_reducible apply V3.andE_f); focus (get_elem_tactic_extensible; done)) | ((with_reducible apply V3.andE_t); focus (get_elem_tactic_extensible; done)) | with_reducible apply V3.andE_go
  | ((with_reducible apply V3.orE_t); focus (get_elem_tactic_extensible; done)) | ((with_reducible apply V3.orE_f); focus (get_elem_tactic_extensible; done)) | with_reducible apply V3.orE_go
  | exact (rfl : V3.ret _ _ = _) | exact (rfl : V3.var _ _ = _) | exact (rfl : V3.own _ _ = _) | exact (rfl : V3.setI _ _ _ = _) | exact (rfl : List.set _ _ _ = _) | exact V3.setI_any rfl (by assumption) | exact (rfl : V3.resA _ _ = _) | exact (rfl : V3.slotL _ _ = _) | exact Eq.refl true
  | with_reducible assumption
  | exact V3.shb rfl
  | exact V3.cmp_t (decide_eq_true (by omega)) | exact V3.cmp_f (decide_eq_false (by omega)) | exact V3.eqI_t (by omega) | exact V3.eqI_f (by omega) | exact V3.neI_t (by omega) | exact V3.neI_f (by omega) | exact V3.modI (by decide)
  | exact (rfl : V3.addD _ _ = _) | exact (rfl : V3.subD _ _ = _) | exact (rfl : V3.negD _ = _) | exact (rfl : V3.notD _ = _) | exact (rfl : V3.cmpI _ _ _ = _) | exact (rfl : V3.lenD _ = _) | exact (rfl : V3.truD _ = _) | exact (rfl : V3.tupleD _ = _) | exact (rfl : V3.listD _ = _) | exact (rfl : V3.isiD _ _ = _) | exact (rfl : V3.isND _ _ = _) | exact (rfl : V3.isNotND _ _ = _)))
namespace K82
open PySem (Str sizeLine)
open V3 Pm
open L2 (ixN atI cutS)
open TL (tl spl numL joinL ext_tl tl_mk mk_tl len_tl tl_append tl_ofString)
open PySem.NumText (AllDigits digitsVal)
/-! Q19: both readers of a polynomial. -/
theorem join_spl {s l : List Nat} (hs : s ≠ []) (hk : (S' s).cps.all (· < 256) = true) : joinL s (spl s 0 [] l) = l := by
  have z := TL.split_spl (S' l) (S' s) (by rw [tl_S]; exact hs) (TL.kind_ok hk)
  rw [tl_S, tl_S] at z
  have j := congrArg tl (PySem.StrLaws.join_split (S' l) (S' s))
  rw [TL.tl_join, z, tl_S, tl_S] at j
  exact j
theorem spl_ne {s : List Nat} : ∀ (l acc : List Nat) (k : Nat), spl s k acc l ≠ []
  | [], acc, k => by rw [TL.spl_nil]; simp
  | c :: r, acc, 0 => by
    by_cases h : TL.pre s (c :: r) = true
    · rw [TL.spl_hit h]; simp
    · rw [TL.spl_miss (by simpa using h)]; exact spl_ne r _ 0
  | c :: r, acc, k + 1 => spl_ne r acc k
theorem lcL_exc {α : Type} {k : Nat} {el : Cm D} {g : α → D} {f : α → Option D} {n : Str} {ρ : Ev} (hk : k < ρ.length) (hn : ∀ ds, ρ[k]? ≠ some (.ow ds)) :
    ∀ (as : List α) (acc : List D) (s : Sl), (∀ es, s ≠ .ow es) → (∀ a ∈ as, match f a with | some d => el (ρ.set k (.im (g a))) = .ok d (ρ.set k (.im (g a))) | none => el (ρ.set k (.im (g a))) = .exc n (ρ.set k (.im (g a)))) → acc.length + as.length ≤ sizeLine → (∃ a ∈ as, f a = none) →
    ∃ s', (∀ es, s' ≠ Sl.ow es) ∧ lcL [k] (setI k) (V3.ret true) el (as.map g) acc (ρ.set k s) = .exc n (ρ.set k s')
  | [], acc, s, hs, _, _, ⟨a, h, _⟩ => by cases h
  | a :: as, acc, s, hs, h, hl, hx => by
    have ha := h a (List.mem_cons_self ..)
    have g0 : (ρ.set k .un)[k]? = some .un := List.getElem?_set_self hk
    have hlt : acc.length < sizeLine := by simp at hl; omega
    cases hf : f a with
    | none =>
      rw [hf] at ha
      refine ⟨.im (g a), (fun _ z => by cases z), ?_⟩
      simp [lcL, List.getElem?_set_self hk, ha]
    | some d =>
      rw [hf] at ha
      obtain ⟨s', h1, h2⟩ := lcL_exc (el := el) (g := g) (f := f) (n := n) hk hn as (acc ++ [d]) (.im (g a)) (fun _ z => by cases z) (fun b hb => h b (List.mem_cons_of_mem _ hb)) (by simp at hl ⊢; omega) (by
        obtain ⟨b, hb, e⟩ := hx
        rcases List.mem_cons.mp hb with rfl | hb
        · rw [hf] at e; cases e
        · exact ⟨b, hb, e⟩)
      refine ⟨s', h1, ?_⟩
      simp [lcL, List.getElem?_set_self hk, ha, hlt, h2]
theorem lcE_exc {α : Type} {k : Nat} {src : Cm (List D)} {el : Cm D} {g : α → D} {f : α → Option D} {n : Str} {ρ ρ1 : Ev} {as : List α} (hsrc : src ρ = .ok (as.map g) ρ1) (hk : k < ρ1.length) (hn : ∀ ds, ρ1[k]? ≠ some (.ow ds))
    (h : ∀ a ∈ as, match f a with | some d => el (ρ1.set k (.im (g a))) = .ok d (ρ1.set k (.im (g a))) | none => el (ρ1.set k (.im (g a))) = .exc n (ρ1.set k (.im (g a)))) (hl : as.length ≤ sizeLine) (hx : ∃ a ∈ as, f a = none) :
    lcE [k] src (setI k) (V3.ret true) el ρ = .exc n (ρ1.set k .un) := by
  have hno : noOw [k] ρ1 = true := by
    unfold noOw
    refine List.all_eq_true.mpr fun v hv => ?_
    rw [List.mem_singleton.mp hv]
    split
    · rename_i e; exact absurd e (hn _)
    · rfl
  have hself : ρ1 = ρ1.set k ρ1[k] := (List.set_getElem_self hk).symm
  obtain ⟨s', h1, h2⟩ := lcL_exc hk hn as [] ρ1[k] (fun es z => hn es (by rw [List.getElem?_eq_getElem hk, z])) h (by simpa using hl) hx
  rw [← hself] at h2
  simp [lcE_ap, hsrc, hno, h2]
end K82
end

section
set_option Elab.async false
set_option linter.all false
set_option maxRecDepth 100000
set_option maxHeartbeats 1000000
open V3
local macro_rules | `(tactic| get_elem_tactic_extensible) => `(tactic| repeat' (first
  | with_reducible first
    | exact V3.skipS_go | exact V3.raiseS_go | exact V3.partN_go
    | apply V3.thenS_go | apply V3.asgS_go | apply V3.retS_go | apply V3.exprS_go | apply V3.op2_go | apply V3.op1_go | apply V3.vl_go | apply V3.consG_go | apply V3.consA_go | apply V3.opA_go | apply V3.op2g_go
    | apply V3.callN_go | apply V3.callL_gs | apply V3.callA_go | apply V3.tupE_go | apply V3.lstE_go | apply V3.dispF_go | apply V3.lsE_go | apply V3.tst_go | apply V3.blE_go | apply V3.m1_go | apply V3.partS_go | apply V3.slE_go
    | apply V3.parS_go | apply V3.retF_go | apply V3.repF_go | apply V3.lrgF_go | apply V3.tupS_go | apply V3.lstS_go | apply V3.strS_go | apply V3.rng1S_go | apply V3.forS_go | apply V3.augN_go | apply V3.setIx_gs | apply V3.asgO_go
  | ((with_reducible apply V3.ifS_gt); focus (get_elem_tactic_extensible; done)) | ((with_reducible apply V3.ifS_gf); focus (get_elem_tactic_extensible; done))
  | ((with_reducible apply V3.ifE_gt); focus (get_elem_tactic_extensible; done)) | ((with_reducible apply V3.ifE_gf); focus (get_elem_tactic_extensible; done))
  | ((with_reducible apply V3.andT_f); focus (get_elem_tactic_extensible; done)) | ((with_reducible apply V3.andT_t); focus (get_elem_tactic_extensible; done)) | with_reducible apply V3.andT_go
  | ((with_reducible apply V3.notT_f); focus (get_elem_tactic_extensible; done)) | ((with_reducible apply V3.notT_t); focus (get_elem_tactic_extensible; done)) | with_reducible apply V3.notT_go
  | ((with_reducible apply V3.orT_t); focus (get_elem_tactic_extensible; done)) | ((with_reducible apply V3.orT_f); focus (get_elem_tactic_extensible; done)) | with_reducible apply V3.orT_go
  | ((with_reducible apply V3.andE_f); focus (get_elem_tactic_extensible; done)) | ((with_reducible apply V3.andE_t); focus (get_elem_tactic_extensible; done)) | with_reducible apply V3.andE_go
  | ((with_reducible apply V3.orE_t); focus (get_elem_tactic_extensible; done)) | ((with_reducible apply V3.orE_f); focus (get_elem_tactic_extensible; done)) | with_reducible apply V3.orE_go
  | exact (rfl : V3.ret _ _ = _) | exact (rfl : V3.var _ _ = _) | exact (rfl : V3.own _ _ = _) | exact (rfl : V3.setI _ _ _ = _) | exact (rfl : List.set _ _ _ = _) | exact V3.setI_any rfl (by assumption) | exact (rfl : V3.resA _ _ = _) | exact (rfl : V3.slotL _ _ = _) | exact Eq.refl true
  | with_reducible assumption
  | exact V3.shb rfl
  | exact V3.cmp_t (decide_eq_true (by omega)) | exact V3.cmp_f (decide_eq_false (by omega)) | exact V3.eqI_t (by omega) | exact V3.eqI_f (by omega) | exact V3.neI_t (by omega) | exact V3.neI_f (by omega) | exact V3.modI (by decide)
  | exact (rfl : V3.addD _ _ = _) | exact (rfl : V3.subD _ _ = _) | exact (rfl : V3.negD _ = _) | exact (rfl : V3.notD _ = _) | exact (rfl : V3.cmpI _ _ _ = _) | exact (rfl : V3.lenD _ = _) | exact (rfl : V3.truD _ = _) | exact (rfl : V3.tupleD _ = _) | exact (rfl : V3.listD _ = _) | exact (rfl : V3.isiD _ _ = _) | exact (rfl : V3.isND _ _ = _) | exact (rfl : V3.isNotND _ _ = _)))
namespace K82
open PySem (Str sizeLine)
open V3 Pm
open L2 (ixN atI cutS)
open TL (tl spl numL joinL ext_tl tl_mk mk_tl len_tl tl_append tl_ofString)
open PySem.NumText (AllDigits digitsVal)
/-! Q20: both readers of a polynomial. -/
theorem spl_mem {s : List Nat} : ∀ (l acc : List Nat) (k : Nat) (w : List Nat), w ∈ spl s k acc l → (∀ c ∈ w, c ∈ acc ∨ c ∈ l) ∧ w.length ≤ acc.length + l.length
  | [], acc, k, w, h => by
    rw [TL.spl_nil, List.mem_singleton] at h
    subst h
    exact ⟨fun c hc => .inl hc, by simp⟩
  | c :: r, acc, 0, w, h => by
    by_cases hp : TL.pre s (c :: r) = true
    · rw [TL.spl_hit hp] at h
      rcases List.mem_cons.mp h with rfl | h
      · exact ⟨fun c hc => .inl hc, by simp⟩
      · obtain ⟨h1, h2⟩ := spl_mem r [] _ w h
        exact ⟨fun d hd => .inr ((h1 d hd).elim (fun z => by cases z) fun z => List.mem_cons_of_mem _ z), by simp at h2 ⊢; omega⟩
    · rw [TL.spl_miss (by simpa using hp)] at h
      obtain ⟨h1, h2⟩ := spl_mem r (acc ++ [c]) 0 w h
      refine ⟨fun d hd => ?_, by simp at h2 ⊢; omega⟩
      rcases h1 d hd with z | z
      · rcases List.mem_append.mp z with z | z
        · exact .inl z
        · rw [List.mem_singleton] at z; exact .inr (z ▸ List.mem_cons_self ..)
      · exact .inr (List.mem_cons_of_mem _ z)
  | c :: r, acc, k + 1, w, h => by
    obtain ⟨h1, h2⟩ := spl_mem r acc k w h
    exact ⟨fun d hd => (h1 d hd).imp id fun z => List.mem_cons_of_mem _ z, by simp; omega⟩
theorem spl_len {s : List Nat} : ∀ (l acc : List Nat) (k : Nat), (spl s k acc l).length ≤ l.length + 1
  | [], acc, k => by rw [TL.spl_nil]; simp
  | c :: r, acc, 0 => by
    by_cases hp : TL.pre s (c :: r) = true
    · rw [TL.spl_hit hp]
      have := spl_len (s := s) r [] (s.length - 1)
      simp; omega
    · rw [TL.spl_miss (by simpa using hp)]
      have := spl_len (s := s) r (acc ++ [c]) 0
      simp; omega
  | c :: r, acc, k + 1 => by
    have := spl_len (s := s) r acc k
    show (spl s k acc r).length ≤ _
    simp; omega
abbrev words (l : List Nat) : List (List Nat) := spl [32] 0 [] l
theorem words_mem {l w : List Nat} {s : List Nat} (hp : Pl l) (h : w ∈ spl s 0 [] l) : Pl w ∧ w.length ≤ l.length := by
  obtain ⟨h1, h2⟩ := spl_mem l [] 0 w h
  exact ⟨fun c hc => hp c ((h1 c hc).elim (fun z => by cases z) id), by simpa using h2⟩
theorem foldl_pos : ∀ (l : List Nat) (a : Nat), 0 < a → 0 < l.foldl (fun acc c => acc * 10 + (c - 48)) a
  | [], a, h => h
  | c :: r, a, h => foldl_pos r _ (show 0 < a * 10 + (c - 48) by omega)
theorem wzero {w : List Nat} (h : wok w = true) (hz : wval w = 0) : w = [48] := by
  unfold wok at h
  rw [Bool.and_eq_true, Bool.and_eq_true, Bool.not_eq_true', decide_eq_false_iff_not, Bool.or_eq_true, Bool.not_eq_true', decide_eq_false_iff_not, decide_eq_true_iff] at h
  obtain ⟨⟨h1, h2⟩, h3⟩ := h
  rcases h3 with h3 | h3
  · exfalso
    have hv : digitsVal (figs w) = 0 := by
      unfold wval at hz
      split at hz <;> omega
    cases hf : figs w with
    | nil => exact h1 hf
    | cons c r =>
      rw [hf] at h3 hv h2
      have hc := (digs_all h2).head
      have : c ≠ 48 := fun e => h3 (by rw [e]; rfl)
      have : 0 < digitsVal (c :: r) := foldl_pos r _ (show 0 < 0 * 10 + (c - 48) by omega)
      omega
  · exact h3
theorem w48 : wok [48] = true ∧ wval [48] = 0 := by decide
/-- the polynomial that a text writes -/
def polyO (l : List Nat) : Option P := if l = [48] then some [] else if (words l).all wok = true ∧ ld ((words l).map wval) ≠ 0 then some ((words l).map wval) else none
theorem polyO_tr {l : List Nat} {a : P} (h : polyO l = some a) : Tr a := by
  unfold polyO at h
  split at h
  · cases h; exact tr_nil
  · split at h
    · rename_i h2
      cases h
      exact .inr h2.2
    · cases h
theorem pl32 : Pl [32] := pl_lit rfl
theorem k32 : (S' [32]).cps.all (· < 256) = true := by rw [← Array.all_toList]; rfl
theorem words_one {l : List Nat} {w : List Nat} (h : words l = [w]) : l = w := by
  have := join_spl (s := [32]) (l := l) (by simp) k32
  unfold words at h
  rw [h] at this
  exact this.symm
theorem wordS {l : List Nat} {ρ : Ev} (h0 : ρ[0]? = some (.im (T l))) (hl : l.length ≤ 600) : lstS (m1 (fun s => splitD (.str s)) (var 0) (ret (.str " "))) ρ = .ok ((words l).map T) ρ := by
  have hs : splitD (T l) (.str " ") = some (.lst ((words l).map T)) := by rw [lit_blank]; exact splitT (by simp) k32 (by omega)
  exact lstS_go (m1_go (s := S' l) (e := .str " ") (by unfold var; rw [h0]) rfl hs)
theorem last_map {α : Type} {l : List α} (hn : l ≠ []) (f : α → D) : ixD (.lst (l.map f)) (.int (-1)) = some (f (l.getLast hn)) := by
  show atI (l.map f) (-1) = _
  rw [atI_last' (by simpa using List.length_pos_iff.mpr hn)]
  simp [List.getLast_eq_getElem]
theorem R_poly_in_eq {l : List Nat} (hp : Pl l) (hl : l.length ≤ 600) : match polyO l with | some a => R_poly_in [T l] = .ok (dP a) [] | none => R_poly_in [T l] = .exc "NoText" [] := by
  have u : R_poly_in [T l] = runD 1 3 m_poly_in [T l] := rfl
  have mt := R_must_t
  have mf := R_must_f
  have h3 : eqD (T l) (.str "0") = some (.bl (decide (l = [48]))) := by rw [lit_zero]; exact eqD_T hp pl48
  rw [u]
  unfold polyO
  by_cases h0 : l = [48]
  · rw [if_pos h0]
    rw [decide_eq_true h0] at h3
    refine run_ok (ρ' := [.im (T l), .un, .un]) (d := dP []) rfl ?_
    rw [eq_poly_in]
    exact thenS_r (ifS_gt (blE_go (op2_go rfl rfl h3)) (retS_go (tupE_go rfl (shb rfl))))
  rw [if_neg h0]
  rw [decide_eq_false h0] at h3
  have s1 : ifS (blE (op2 eqD (var 0) (ret (.str "0")))) (retS (tupE (ret []))) skipS [.im (T l), .un, .un] = .ok .nx [.im (T l), .un, .un] := ifS_gf (blE_go (op2_go rfl rfl h3)) rfl
  have hw := wordS (l := l) (ρ := [.im (T l), .un, .un]) rfl hl
  have hn : words l ≠ [] := spl_ne _ _ _
  have hlen : (words l).length ≤ l.length + 1 := spl_len (s := [32]) l [] 0
  by_cases hall : (words l).all wok = true
  · have z := lcE_pure (k := 2) (el := poly_in_l1e) (f := fun d => match d with | .str x => D.int (wval (tl x)) | d => d) hw (by simp) (fun ds z => by simp at z) (fun d hd => by
      obtain ⟨w, hm, rfl⟩ := List.mem_map.mp hd
      have hwm := words_mem hp hm
      have e := R_whole_in_eq hwm.1 (by omega)
      rw [if_pos (List.all_eq_true.mp hall w hm)] at e
      have e' := cok e
      unfold poly_in_l1e
      exact callA_go (consG_go (vl_go (d := T w) rfl) rfl) rfl e' rfl) (by rw [List.length_map]; exact len_line (by omega))
    have em : ((words l).map T).map (fun d => match d with | .str x => D.int (wval (tl x)) | d => d) = ((words l).map wval).map .int := by rw [List.map_map, List.map_map]; rfl
    rw [em] at z
    have s2 : asgS 1 (opA tupleD (consG (vl (lsE poly_in_l1)) (ret []))) [.im (T l), .un, .un] = .ok .nx [.im (T l), .im (dP ((words l).map wval)), .un] :=
      asgS_go (opA_go (consG_go (vl_go (lsE_go z)) rfl) rfl rfl rfl) rfl
    have nm : (words l).map wval ≠ [] := fun e => hn (List.map_eq_nil_iff.mp e)
    have i1 : ixD (dP ((words l).map wval)) (.int (-1)) = some (.int (ld ((words l).map wval))) := atI_ld nm
    by_cases hld : ld ((words l).map wval) = 0
    · rw [if_neg (fun h => h.2 hld)]
      refine run_x (ρ' := [.im (T l), .im (dP ((words l).map wval)), .un]) rfl ?_
      rw [eq_poly_in]
      refine thenS_go s1 (thenS_go s2 (thenS_x (exprS_x (callA_x (consG_go (vl_go (op2_go (op2_go rfl (op1_go rfl rfl) i1) rfl (neI_f hld))) rfl) rfl mf))))
    · rw [if_pos ⟨hall, hld⟩]
      refine run_ok (ρ' := [.im (T l), .im (dP ((words l).map wval)), .un]) rfl ?_
      rw [eq_poly_in]
      refine thenS_go s1 (thenS_go s2 (thenS_go (exprS_go (callA_go (consG_go (vl_go (op2_go (op2_go rfl (op1_go rfl rfl) i1) rfl (neI_t hld))) rfl) rfl mt rfl)) (retS_go rfl)))
  · rw [if_neg (fun h => hall h.1)]
    have hx : ∃ w ∈ words l, (if wok w = true then some (D.int (wval w)) else none) = none := by
      rw [List.all_eq_true] at hall
      obtain ⟨w, hw2⟩ := Classical.not_forall.mp hall
      obtain ⟨hm, hf⟩ := Classical.not_imp.mp hw2
      exact ⟨w, hm, by rw [if_neg hf]⟩
    have z := lcE_exc (k := 2) (el := poly_in_l1e) (n := "NoText") (g := T) (f := fun w => if wok w = true then some (D.int (wval w)) else none) hw (by simp) (fun ds z => by simp at z) (fun w hm => by
      have hwm := words_mem hp hm
      have e := R_whole_in_eq hwm.1 (by omega)
      unfold poly_in_l1e
      by_cases hwk : wok w = true
      · rw [if_pos hwk] at e
        rw [if_pos hwk]
        exact callA_go (consG_go (vl_go (d := T w) rfl) rfl) rfl (cok e) rfl
      · rw [if_neg hwk] at e
        rw [if_neg hwk]
        exact callA_x (consG_go (vl_go (d := T w) rfl) rfl) rfl (cex e)) (len_line (by omega)) hx
    refine run_x (ρ' := [.im (T l), .un, .un]) rfl ?_
    rw [eq_poly_in]
    exact thenS_go s1 (thenS_x (asgS_x (opA_x (consG_x1 (vl_x (lsE_x z))))))
def pD (o : Option P) : D := match o with | some a => dP a | none => .non
theorem nb_wD (w : List Nat) (n : Nat) : D.nb n (wD w) := by
  unfold wD
  split <;> cases n <;> trivial
open Classical in
theorem R__law_poly_in_eq {l : List Nat} (hp : Pl l) (hl : l.length ≤ 600) : R__law_poly_in [T l] = .ok (pD (polyO l)) [] := by
  have u : R__law_poly_in [T l] = runD 1 3 m__law_poly_in [T l] := rfl
  rw [u]
  have hw := wordS (l := l) (ρ := [.im (T l), .un, .un]) rfl hl
  have hn : words l ≠ [] := spl_ne _ _ _
  have hlen : (words l).length ≤ l.length + 1 := spl_len (s := [32]) l [] 0
  have z := lcE_pure (k := 2) (el := _law_poly_in_l1e) (f := fun d => match d with | .str x => wD (tl x) | d => d) hw (by simp) (fun ds z => by simp at z) (fun d hd => by
    obtain ⟨w, hm, rfl⟩ := List.mem_map.mp hd
    have hwm := words_mem hp hm
    have e' := cok (R__law_whole_in_eq hwm.1 (by omega))
    unfold _law_poly_in_l1e
    exact callA_go (consG_go (vl_go (d := T w) rfl) rfl) rfl e' rfl) (by rw [List.length_map]; exact len_line (by omega))
  have em : ((words l).map T).map (fun d => match d with | .str x => wD (tl x) | d => d) = (words l).map wD := by rw [List.map_map]; rfl
  rw [em] at z
  have s1 : asgS 1 (lsE _law_poly_in_l1) [.im (T l), .un, .un] = .ok .nx [.im (T l), .im (.lst ((words l).map wD)), .un] := asgS_go (lsE_go z) rfl
  have nbl : ∀ n, D.nb (n + 1) (.lst ((words l).map wD)) := fun n d hd => by
    obtain ⟨w, _, rfl⟩ := List.mem_map.mp hd
    exact nb_wD w n
  have nb0 : D.nb 1 (.lst [.int 0]) := fun d hd => by rw [List.mem_singleton.mp hd]; trivial
  have key : (words l).map wD = [.int 0] ↔ l = [48] := by
    constructor
    · intro h
      cases hws : words l with
      | nil => exact absurd hws hn
      | cons w r =>
        rw [hws] at h
        cases r with
        | cons a b => simp at h
        | nil =>
          rw [words_one hws]
          have h1 : wD w = .int 0 := (List.cons.inj h).1
          unfold wD at h1
          split at h1
          · rename_i hk
            exact wzero hk (by injection h1)
          · cases h1
    · intro h
      subst h
      have e1 : words [48] = [[48]] := by decide
      rw [e1]
      show [wD [48]] = _
      unfold wD
      rw [if_pos w48.1, w48.2]
  unfold polyO
  by_cases h0 : l = [48]
  · rw [if_pos h0]
    have e := eqD_t (nbl 0) nb0 (by decide) (congrArg D.lst (key.mpr h0))
    refine run_ok (ρ' := [.im (T l), .im (.lst ((words l).map wD)), .un]) (d := dP []) rfl ?_
    rw [eq__law_poly_in]
    exact thenS_go s1 (thenS_r (ifS_gt (blE_go (op2_go rfl (lstE_go rfl (shb rfl)) e)) (retS_go (tupE_go rfl (shb rfl)))))
  rw [if_neg h0]
  have e := eqD_f (nbl 0) nb0 (by decide) (fun z => h0 (key.mp (by injection z)))
  have s2 : ifS (blE (op2 eqD (var 1) (lstE (consA (ret (.int 0)) (ret []))))) (retS (tupE (ret []))) skipS [.im (T l), .im (.lst ((words l).map wD)), .un] = .ok .nx [.im (T l), .im (.lst ((words l).map wD)), .un] :=
    ifS_gf (blE_go (op2_go rfl (lstE_go rfl (shb rfl)) e)) rfl
  have hin := inD_nb (n := 1) (d := .non) (ds := (words l).map wD) trivial (fun d hd => by
    obtain ⟨w, _, rfl⟩ := List.mem_map.mp hd
    exact nb_wD w 1) (by decide) (fun s z => by cases z)
  have mem : (D.non ∈ (words l).map wD) ↔ ¬ (words l).all wok = true := by
    rw [List.all_eq_true]
    constructor
    · intro h h2
      obtain ⟨w, hm, e⟩ := List.mem_map.mp h
      unfold wD at e
      rw [if_pos (h2 w hm)] at e
      cases e
    · intro h
      obtain ⟨w, hw2⟩ := Classical.not_forall.mp h
      obtain ⟨hm, hf⟩ := Classical.not_imp.mp hw2
      exact List.mem_map.mpr ⟨w, hm, by unfold wD; rw [if_neg hf]⟩
  by_cases hall : (words l).all wok = true
  · rw [decide_eq_false (fun h => mem.mp h hall)] at hin
    have ew : (words l).map wD = ((words l).map wval).map .int := by
      rw [List.map_map]
      refine List.map_congr_left fun w hm => ?_
      unfold wD
      rw [if_pos (List.all_eq_true.mp hall w hm)]
      rfl
    have nm : (words l).map wval ≠ [] := fun e => hn (List.map_eq_nil_iff.mp e)
    have i1 : ixD (.lst ((words l).map wD)) (.int (-1)) = some (.int (ld ((words l).map wval))) := by rw [ew]; exact atI_ld nm
    by_cases hld : ld ((words l).map wval) = 0
    · rw [if_neg (fun h => h.2 hld)]
      refine run_ok (ρ' := [.im (T l), .im (.lst ((words l).map wD)), .un]) (d := .non) rfl ?_
      rw [eq__law_poly_in]
      exact thenS_go s1 (thenS_go s2 (thenS_r (ifS_gt (orT_f (blE_go (op2_go rfl rfl hin)) (blE_go (op2_go (op2_go rfl (op1_go rfl rfl) i1) rfl (eqI_t hld)))) (retS_go rfl))))
    · rw [if_pos ⟨hall, hld⟩]
      refine run_ok (ρ' := [.im (T l), .im (.lst ((words l).map wD)), .un]) (d := dP _) rfl ?_
      rw [eq__law_poly_in]
      have hf : opA tupleD (consG (vl (var 1)) (ret [])) [.im (T l), .im (.lst ((words l).map wD)), .un] = .ok (dP ((words l).map wval)) [.im (T l), .im (.lst ((words l).map wD)), .un] := opA_go (consG_go (vl_go rfl) rfl) rfl (by rw [ew]; rfl) rfl
      exact thenS_go s1 (thenS_go s2 (thenS_go (ifS_gf (orT_f (blE_go (op2_go rfl rfl hin)) (blE_go (op2_go (op2_go rfl (op1_go rfl rfl) i1) rfl (eqI_f hld)))) rfl) (retS_go hf)))
  · rw [if_neg (fun h => hall h.1)]
    rw [decide_eq_true (mem.mpr hall)] at hin
    refine run_ok (ρ' := [.im (T l), .im (.lst ((words l).map wD)), .un]) (d := .non) rfl ?_
    rw [eq__law_poly_in]
    exact thenS_go s1 (thenS_go s2 (thenS_r (ifS_gt (orT_t (blE_go (op2_go rfl rfl hin))) (retS_go rfl))))
end K82
end

section
set_option Elab.async false
set_option linter.all false
set_option maxRecDepth 100000
set_option maxHeartbeats 1000000
open V3
local macro_rules | `(tactic| get_elem_tactic_extensible) => `(tactic| repeat' (first
  | with_reducible first
    | exact V3.skipS_go | exact V3.raiseS_go | exact V3.partN_go
    | apply V3.thenS_go | apply V3.asgS_go | apply V3.retS_go | apply V3.exprS_go | apply V3.op2_go | apply V3.op1_go | apply V3.vl_go | apply V3.consG_go | apply V3.consA_go | apply V3.opA_go | apply V3.op2g_go
    | apply V3.callN_go | apply V3.callL_gs | apply V3.callA_go | apply V3.tupE_go | apply V3.lstE_go | apply V3.dispF_go | apply V3.lsE_go | apply V3.tst_go | apply V3.blE_go | apply V3.m1_go | apply V3.partS_go | apply V3.slE_go
    | apply V3.parS_go | apply V3.retF_go | apply V3.repF_go | apply V3.lrgF_go | apply V3.tupS_go | apply V3.lstS_go | apply V3.strS_go | apply V3.rng1S_go | apply V3.forS_go | apply V3.augN_go | apply V3.setIx_gs | apply V3.asgO_go
  | ((with_reducible apply V3.ifS_gt); focus (get_elem_tactic_extensible; done)) | ((with_reducible apply V3.ifS_gf); focus (get_elem_tactic_extensible; done))
  | ((with_reducible apply V3.ifE_gt); focus (get_elem_tactic_extensible; done)) | ((with_reducible apply V3.ifE_gf); focus (get_elem_tactic_extensible; done))
  | ((with_reducible apply V3.andT_f); focus (get_elem_tactic_extensible; done)) | ((with_reducible apply V3.andT_t); focus (get_elem_tactic_extensible; done)) | with_reducible apply V3.andT_go
  | ((with_reducible apply V3.notT_f); focus (get_elem_tactic_extensible; done)) | ((with_reducible apply V3.notT_t); focus (get_elem_tactic_extensible; done)) | with_reducible apply V3.notT_go
  | ((with_reducible apply V3.orT_t); focus (get_elem_tactic_extensible; done)) | ((with_reducible apply V3.orT_f); focus (get_elem_tactic_extensible; done)) | with_reducible apply V3.orT_go
  | ((with_reducible apply V3.andE_f); focus (get_elem_tactic_extensible; done)) | ((with_reducible apply V3.andE_t); focus (get_elem_tactic_extensible; done)) | with_reducible apply V3.andE_go
  | ((with_reducible apply V3.orE_t); focus (get_elem_tactic_extensible; done)) | ((with_reducible apply V3.orE_f); focus (get_elem_tactic_extensible; done)) | with_reducible apply V3.orE_go
  | exact (rfl : V3.ret _ _ = _) | exact (rfl : V3.var _ _ = _) | exact (rfl : V3.own _ _ = _) | exact (rfl : V3.setI _ _ _ = _) | exact (rfl : List.set _ _ _ = _) | exact V3.setI_any rfl (by assumption) | exact (rfl : V3.resA _ _ = _) | exact (rfl : V3.slotL _ _ = _) | exact Eq.refl true
  | with_reducible assumption
  | exact V3.shb rfl
  | exact V3.cmp_t (decide_eq_true (by omega)) | exact V3.cmp_f (decide_eq_false (by omega)) | exact V3.eqI_t (by omega) | exact V3.eqI_f (by omega) | exact V3.neI_t (by omega) | exact V3.neI_f (by omega) | exact V3.modI (by decide)
  | exact (rfl : V3.addD _ _ = _) | exact (rfl : V3.subD _ _ = _) | exact (rfl : V3.negD _ = _) | exact (rfl : V3.notD _ = _) | exact (rfl : V3.cmpI _ _ _ = _) | exact (rfl : V3.lenD _ = _) | exact (rfl : V3.truD _ = _) | exact (rfl : V3.tupleD _ = _) | exact (rfl : V3.listD _ = _) | exact (rfl : V3.isiD _ _ = _) | exact (rfl : V3.isND _ _ = _) | exact (rfl : V3.isNotND _ _ = _)))
namespace K82
open PySem (Str sizeLine)
open V3 Pm
open L2 (ixN atI cutS)
open TL (tl spl numL joinL ext_tl tl_mk mk_tl len_tl tl_append tl_ofString)
open PySem.NumText (AllDigits digitsVal)
/-! Q21: both readers of a number. -/
theorem parS_x {i j : Nat} {F : Cm (List D)} {n : Str} {ρ ρ1 : Ev} (h : F ρ = .exc n ρ1) : parS i j F ρ = .exc n ρ1 := by unfold parS; rw [b_exc h]
theorem foldl_lt : ∀ (l : List Nat) (a n : Nat), AllDigits l → a < 10 ^ n → l.foldl (fun acc c => acc * 10 + (c - 48)) a < 10 ^ (n + l.length)
  | [], a, n, _, h => by simpa using h
  | c :: r, a, n, hd, h => by
    have hc := hd.head
    have := foldl_lt r (a * 10 + (c - 48)) (n + 1) hd.tail (by rw [Nat.pow_succ]; omega)
    rw [List.foldl_cons, List.length_cons, show n + (r.length + 1) = n + 1 + r.length by omega]
    exact this
theorem wval_lt {w : List Nat} (h : wok w = true) : (wval w).natAbs < 10 ^ w.length := by
  unfold wok at h
  rw [Bool.and_eq_true, Bool.and_eq_true] at h
  have hd := digs_all h.1.2
  have hl : (figs w).length ≤ w.length := by
    unfold figs
    split
    · simp
    · exact Nat.le_refl _
  have h1 : digitsVal (figs w) < 10 ^ (0 + (figs w).length) := foldl_lt _ 0 0 hd (by decide)
  rw [Nat.zero_add] at h1
  have h2 : (wval w).natAbs = digitsVal (figs w) := by
    unfold wval
    split <;> omega
  rw [h2]
  exact Nat.lt_of_lt_of_le h1 (Nat.pow_le_pow_right (by decide) hl)
theorem ten_two (n : Nat) : 10 ^ n ≤ 2 ^ (4 * n) := by
  rw [Nat.pow_mul]
  exact Nat.pow_le_pow_left (by decide) n
theorem wval_bit {w : List Nat} {n : Nat} (h : wok w = true) (hl : 4 * w.length ≤ n) : (wval w).natAbs < 2 ^ n :=
  Nat.lt_of_lt_of_le (wval_lt h) (Nat.le_trans (ten_two _) (Nat.pow_le_pow_right (by decide) hl))
theorem R_number_eq {t b : Int} (hb : 0 < b) (hs : b.natAbs < 2 ^ 9000) : R_number [.int t, .int b] = .ok (.tup [.int (t.fdiv (Int.gcd t b : Nat)), .int (b.fdiv (Int.gcd t b : Nat))]) [] := by
  have g1 : Int.gcd t b ∣ b.natAbs := Int.natAbs_dvd_natAbs.mpr (Int.gcd_dvd_right _ _)
  have g2 : Int.gcd t b ≤ b.natAbs := Nat.le_of_dvd (by omega) g1
  have g3 : Int.gcd t b ≠ 0 := fun e => by rw [e] at g1; have := Nat.eq_zero_of_zero_dvd g1; omega
  have ok : ∀ x : Int, fdivOk x ((Int.gcd t b : Nat) : Int) = true := fun x => fdivOk_of (by omega) (Nat.lt_of_le_of_lt (by rw [Int.natAbs_natCast]; exact g2) hs)
  have f1 := fdivI (ok t)
  have f2 := fdivI (ok b)
  have d1 := cok (R_divisor_eq t b)
  apply run_ok (np := 2) (N := 3) (m := m_number) (ds := [.int t, .int b]) rfl
  unfold m_number
  get_elem_tactic_extensible
/-- the number that a text writes -/
def numO (l : List Nat) : Option (Int × Int) := match spl [47] 0 [] l with
  | [w] => if wok w = true then some (wval w, 1) else none
  | [a, b] => if (wok a = true ∧ wok b = true) ∧ 1 < wval b ∧ Int.gcd (wval a) (wval b) = 1 then some (wval a, wval b) else none
  | _ => none
def nD (o : Option (Int × Int)) : D := match o with | some (a, b) => .tup [.int a, .int b] | none => .non
theorem k47 : (S' [47]).cps.all (· < 256) = true := by rw [← Array.all_toList]; rfl
theorem strokeS {l : List Nat} {ρ : Ev} (h0 : ρ[0]? = some (.im (T l))) (hl : l.length ≤ 600) : m1 (fun s => splitD (.str s)) (var 0) (ret (.str "/")) ρ = .ok (.lst ((spl [47] 0 [] l).map T)) ρ := by
  have hs : splitD (T l) (.str "/") = some (.lst ((spl [47] 0 [] l).map T)) := by rw [lit_stroke]; exact splitT (by simp) k47 (by omega)
  exact m1_go (s := S' l) (e := .str "/") (by unfold var; rw [h0]) rfl hs
theorem one47 {l w : List Nat} (h : spl [47] 0 [] l = [w]) : l = w := by
  have := join_spl (s := [47]) (l := l) (by simp) k47
  rw [h] at this
  exact this.symm
theorem tupI_nb {n : Nat} (a b : Int) : D.nb (n + 1) (.tup [.int a, .int b]) := fun d hd => by
  rcases List.mem_cons.mp hd with rfl | hd
  · cases n <;> trivial
  · rw [List.mem_singleton.mp hd]; cases n <;> trivial
theorem R_read_number_eq {l : List Nat} (hp : Pl l) (hl : l.length ≤ 600) : match numO l with | some (a, b) => R_read_number [T l] = .ok (.tup [.int a, .int b]) [] | none => R_read_number [T l] = .exc "NoText" [] := by
  have u : R_read_number [T l] = runD 1 4 m_read_number [T l] := rfl
  have mt := R_must_t
  have mf := R_must_f
  rw [u]
  have s1 : exprS (callA R_must (consG (vl (op1 (isiD "str") (var 0))) (ret []))) [.im (T l), .un, .un, .un] = .ok .nx [.im (T l), .un, .un, .un] := by get_elem_tactic_extensible
  have s2 : asgS 1 (m1 (fun s => splitD (.str s)) (var 0) (ret (.str "/"))) [.im (T l), .un, .un, .un] = .ok .nx [.im (T l), .im (.lst ((spl [47] 0 [] l).map T)), .un, .un] := asgS_go (strokeS rfl hl) rfl
  have hn : spl [47] 0 [] l ≠ [] := spl_ne _ _ _
  have hmem : ∀ w ∈ spl [47] 0 [] l, Pl w ∧ w.length ≤ l.length := fun w h => words_mem hp h
  have ho : ∀ w, spl [47] 0 [] l = [w] → l = w := fun w => one47
  unfold numO
  generalize spl [47] 0 [] l = ws at *
  match ws with
  | [] => exact absurd rfl hn
  | [w] =>
    have e := ho w rfl
    subst e
    have c3 : lenD [.lst ([l].map T)] = some (.int 1) := rfl
    have s3 : exprS (callA R_must (consG (vl (op2 (cmpI fun i j => decide (i < j)) (opA lenD (consG (vl (var 1)) (ret []))) (ret (.int 3)))) (ret []))) [.im (T l), .im (.lst ([l].map T)), .un, .un] = .ok .nx [.im (T l), .im (.lst ([l].map T)), .un, .un] := by get_elem_tactic_extensible
    have rw1 := R_whole_in_eq hp hl
    have c4 : blE (op2 eqD (opA lenD (consG (vl (var 1)) (ret []))) (ret (.int 1))) [.im (T l), .im (.lst ([l].map T)), .un, .un] = .ok true [.im (T l), .im (.lst ([l].map T)), .un, .un] := by get_elem_tactic_extensible
    dsimp only
    by_cases hw : wok l = true
    · rw [if_pos hw] at rw1 ⊢
      dsimp only
      have rw2 := cok rw1
      refine run_ok (ρ' := [.im (T l), .im (.lst ([l].map T)), .un, .un]) rfl ?_
      unfold m_read_number
      refine thenS_go s1 (thenS_go s2 (thenS_go s3 (thenS_r (ifS_gt c4 ?_))))
      get_elem_tactic_extensible
    · rw [if_neg hw] at rw1 ⊢
      dsimp only
      refine run_x (ρ' := [.im (T l), .im (.lst ([l].map T)), .un, .un]) rfl ?_
      unfold m_read_number
      exact thenS_go s1 (thenS_go s2 (thenS_go s3 (thenS_x (ifS_gt c4 (retS_x (tupE_x (consA_x1 (callA_x (consG_go (vl_go rfl) rfl) rfl (cex rw1)))))))))
  | [a, b] =>
    have c3 : lenD [.lst ([a, b].map T)] = some (.int 2) := rfl
    have i0 : ixD (.lst ([a, b].map T)) (.int 0) = some (T a) := rfl
    have i1 : ixD (.lst ([a, b].map T)) (.int 1) = some (T b) := rfl
    have s3 : exprS (callA R_must (consG (vl (op2 (cmpI fun i j => decide (i < j)) (opA lenD (consG (vl (var 1)) (ret []))) (ret (.int 3)))) (ret []))) [.im (T l), .im (.lst ([a, b].map T)), .un, .un] = .ok .nx [.im (T l), .im (.lst ([a, b].map T)), .un, .un] := by get_elem_tactic_extensible
    have s4 : ifS (blE (op2 eqD (opA lenD (consG (vl (var 1)) (ret []))) (ret (.int 1)))) (retS (tupE (consA (callA R_whole_in (consG (vl (var 0)) (ret []))) (consA (ret (.int 1)) (ret []))))) skipS [.im (T l), .im (.lst ([a, b].map T)), .un, .un] = .ok .nx [.im (T l), .im (.lst ([a, b].map T)), .un, .un] := by get_elem_tactic_extensible
    have ha := hmem a (by simp)
    have hb := hmem b (by simp)
    have ra := R_whole_in_eq ha.1 (by omega)
    have rb := R_whole_in_eq hb.1 (by omega)
    dsimp only
    by_cases hwa : wok a = true
    case neg =>
      rw [if_neg hwa] at ra
      rw [if_neg (fun h => hwa h.1.1)]
      dsimp only
      refine run_x (ρ' := [.im (T l), .im (.lst ([a, b].map T)), .un, .un]) rfl ?_
      unfold m_read_number
      exact thenS_go s1 (thenS_go s2 (thenS_go s3 (thenS_go s4 (thenS_x (parS_x (consA_x1 (callA_x (consG_go (vl_go (op2_go rfl rfl i0)) rfl) rfl (cex ra))))))))
    rw [if_pos hwa] at ra
    by_cases hwb : wok b = true
    case neg =>
      rw [if_neg hwb] at rb
      rw [if_neg (fun h => hwb h.1.2)]
      dsimp only
      refine run_x (ρ' := [.im (T l), .im (.lst ([a, b].map T)), .un, .un]) rfl ?_
      unfold m_read_number
      exact thenS_go s1 (thenS_go s2 (thenS_go s3 (thenS_go s4 (thenS_x (parS_x (consA_x2 (callA_go (consG_go (vl_go (op2_go rfl rfl i0)) rfl) rfl (cok ra) rfl) (consA_x1 (callA_x (consG_go (vl_go (op2_go rfl rfl i1)) rfl) rfl (cex rb)))))))))
    rw [if_pos hwb] at rb
    have ra' := cok ra
    have rb' := cok rb
    have s5 : parS 2 3 (consA (callA R_whole_in (consG (vl (op2 ixD (var 1) (ret (.int 0)))) (ret []))) (consA (callA R_whole_in (consG (vl (op2 ixD (var 1) (ret (.int 1)))) (ret []))) (ret []))) [.im (T l), .im (.lst ([a, b].map T)), .un, .un] = .ok .nx [.im (T l), .im (.lst ([a, b].map T)), .im (.int (wval a)), .im (.int (wval b))] := by get_elem_tactic_extensible
    have cnd : ∀ (c : Bool), (c = true ↔ (1 < wval b ∧ Int.gcd (wval a) (wval b) = 1)) → andE (op2 (cmpI fun i j => decide (j < i)) (var 3) (ret (.int 1))) (op2 eqD (callA R_number (consG (vl (var 2)) (consG (vl (var 3)) (ret [])))) (tupE (consA (var 2) (consA (var 3) (ret []))))) [.im (T l), .im (.lst ([a, b].map T)), .im (.int (wval a)), .im (.int (wval b))] = .ok (.bl c) [.im (T l), .im (.lst ([a, b].map T)), .im (.int (wval a)), .im (.int (wval b))] := by
      intro c hc
      by_cases h1 : 1 < wval b
      · have hlt := wval_bit hwb (n := 9000) (by omega)
        have rn := cok (R_number_eq (t := wval a) (b := wval b) (by omega) hlt)
        have hg : Int.gcd (wval a) (wval b) ≠ 0 := fun e => by have := (Int.gcd_eq_zero_iff.mp e).2; omega
        have same : (D.tup [.int ((wval a).fdiv (Int.gcd (wval a) (wval b) : Nat)), .int ((wval b).fdiv (Int.gcd (wval a) (wval b) : Nat))] = .tup [.int (wval a), .int (wval b)]) ↔ Int.gcd (wval a) (wval b) = 1 := by
          constructor
          · intro h
            simp only [D.tup.injEq, List.cons.injEq, D.int.injEq, and_true] at h
            have h2 := fdiv_exact (Int.gcd_dvd_right (wval a) (wval b)) (by omega)
            rw [h.2] at h2
            have : ((Int.gcd (wval a) (wval b) : Nat) : Int) = 1 := Int.eq_of_mul_eq_mul_right (show wval b ≠ 0 by omega) (by omega)
            omega
          · intro h; rw [h]; simp
        have q1 : op2 (cmpI fun i j => decide (j < i)) (var 3) (ret (.int 1)) [.im (T l), .im (.lst ([a, b].map T)), .im (.int (wval a)), .im (.int (wval b))] = .ok (.bl true) [.im (T l), .im (.lst ([a, b].map T)), .im (.int (wval a)), .im (.int (wval b))] := by get_elem_tactic_extensible
        refine andE_t q1 ?_
        cases c with
        | true =>
          have e := eqD_t (tupI_nb (n := 0) _ _) (tupI_nb (n := 0) _ _) (by decide) (same.mpr (hc.mp rfl).2)
          get_elem_tactic_extensible
        | false =>
          have e := eqD_f (tupI_nb (n := 0) _ _) (tupI_nb (n := 0) _ _) (by decide) (fun h => by have := hc.mpr ⟨h1, same.mp h⟩; cases this)
          get_elem_tactic_extensible
      · have : c = false := by
          cases c with
          | false => rfl
          | true => exact absurd (hc.mp rfl).1 h1
        subst this
        refine andE_f ?_
        get_elem_tactic_extensible
    by_cases hc : 1 < wval b ∧ Int.gcd (wval a) (wval b) = 1
    · rw [if_pos ⟨⟨hwa, hwb⟩, hc⟩]
      dsimp only
      have q := cnd true (by simp [hc])
      refine run_ok (ρ' := [.im (T l), .im (.lst ([a, b].map T)), .im (.int (wval a)), .im (.int (wval b))]) rfl ?_
      unfold m_read_number
      refine thenS_go s1 (thenS_go s2 (thenS_go s3 (thenS_go s4 (thenS_go s5 (thenS_go (exprS_go (callA_go (consG_go (vl_go q) rfl) rfl mt rfl)) ?_)))))
      get_elem_tactic_extensible
    · rw [if_neg (fun h => hc h.2)]
      dsimp only
      have q := cnd false (by simp; intro h1 h2; exact hc ⟨h1, h2⟩)
      refine run_x (ρ' := [.im (T l), .im (.lst ([a, b].map T)), .im (.int (wval a)), .im (.int (wval b))]) rfl ?_
      unfold m_read_number
      exact thenS_go s1 (thenS_go s2 (thenS_go s3 (thenS_go s4 (thenS_go s5 (thenS_x (exprS_x (callA_x (consG_go (vl_go q) rfl) rfl mf)))))))
  | a :: b :: c :: r =>
    dsimp only
    have c3 : lenD [.lst ((a :: b :: c :: r).map T)] = some (.int ((r.length + 3 : Nat) : Int)) := by
      show some (D.int _) = _
      simp
      omega
    have q : op2 (cmpI fun i j => decide (i < j)) (opA lenD (consG (vl (var 1)) (ret []))) (ret (.int 3)) [.im (T l), .im (.lst ((a :: b :: c :: r).map T)), .un, .un] = .ok (.bl false) [.im (T l), .im (.lst ((a :: b :: c :: r).map T)), .un, .un] := by get_elem_tactic_extensible
    refine run_x (ρ' := [.im (T l), .im (.lst ((a :: b :: c :: r).map T)), .un, .un]) rfl ?_
    unfold m_read_number
    exact thenS_go s1 (thenS_go s2 (thenS_x (exprS_x (callA_x (consG_go (vl_go q) rfl) rfl mf))))
end K82
end

section
set_option Elab.async false
set_option linter.all false
set_option maxRecDepth 100000
set_option maxHeartbeats 1000000
open V3
local macro_rules | `(tactic| get_elem_tactic_extensible) => `(tactic| repeat' (first
  | with_reducible first
    | exact V3.skipS_go | exact V3.raiseS_go | exact V3.partN_go
    | apply V3.thenS_go | apply V3.asgS_go | apply V3.retS_go | apply V3.exprS_go | apply V3.op2_go | apply V3.op1_go | apply V3.vl_go | apply V3.consG_go | apply V3.consA_go | apply V3.opA_go | apply V3.op2g_go
    | apply V3.callN_go | apply V3.callL_gs | apply V3.callA_go | apply V3.tupE_go | apply V3.lstE_go | apply V3.dispF_go | apply V3.lsE_go | apply V3.tst_go | apply V3.blE_go | apply V3.m1_go | apply V3.partS_go | apply V3.slE_go
    | apply V3.parS_go | apply V3.retF_go | apply V3.repF_go | apply V3.lrgF_go | apply V3.tupS_go | apply V3.lstS_go | apply V3.strS_go | apply V3.rng1S_go | apply V3.forS_go | apply V3.augN_go | apply V3.setIx_gs | apply V3.asgO_go
  | ((with_reducible apply V3.ifS_gt); focus (get_elem_tactic_extensible; done)) | ((with_reducible apply V3.ifS_gf); focus (get_elem_tactic_extensible; done))
  | ((with_reducible apply V3.ifE_gt); focus (get_elem_tactic_extensible; done)) | ((with_reducible apply V3.ifE_gf); focus (get_elem_tactic_extensible; done))
  | ((with_reducible apply V3.andT_f); focus (get_elem_tactic_extensible; done)) | ((with_reducible apply V3.andT_t); focus (get_elem_tactic_extensible; done)) | with_reducible apply V3.andT_go
  | ((with_reducible apply V3.notT_f); focus (get_elem_tactic_extensible; done)) | ((with_reducible apply V3.notT_t); focus (get_elem_tactic_extensible; done)) | with_reducible apply V3.notT_go
  | ((with_reducible apply V3.orT_t); focus (get_elem_tactic_extensible; done)) | ((with_reducible apply V3.orT_f); focus (get_elem_tactic_extensible; done)) | with_reducible apply V3.orT_go
  | ((with_reducible apply V3.andE_f); focus (get_elem_tactic_extensible; done)) | ((with_reducible apply V3.andE_t); focus (get_elem_tactic_extensible; done)) | with_reducible apply V3.andE_go
  | ((with_reducible apply V3.orE_t); focus (get_elem_tactic_extensible; done)) | ((with_reducible apply V3.orE_f); focus (get_elem_tactic_extensible; done)) | with_reducible apply V3.orE_go
  | exact (rfl : V3.ret _ _ = _) | exact (rfl : V3.var _ _ = _) | exact (rfl : V3.own _ _ = _) | exact (rfl : V3.setI _ _ _ = _) | exact (rfl : List.set _ _ _ = _) | exact V3.setI_any rfl (by assumption) | exact (rfl : V3.resA _ _ = _) | exact (rfl : V3.slotL _ _ = _) | exact Eq.refl true
  | with_reducible assumption
  | exact V3.shb rfl
  | exact V3.cmp_t (decide_eq_true (by omega)) | exact V3.cmp_f (decide_eq_false (by omega)) | exact V3.eqI_t (by omega) | exact V3.eqI_f (by omega) | exact V3.neI_t (by omega) | exact V3.neI_f (by omega) | exact V3.modI (by decide)
  | exact (rfl : V3.addD _ _ = _) | exact (rfl : V3.subD _ _ = _) | exact (rfl : V3.negD _ = _) | exact (rfl : V3.notD _ = _) | exact (rfl : V3.cmpI _ _ _ = _) | exact (rfl : V3.lenD _ = _) | exact (rfl : V3.truD _ = _) | exact (rfl : V3.tupleD _ = _) | exact (rfl : V3.listD _ = _) | exact (rfl : V3.isiD _ _ = _) | exact (rfl : V3.isND _ _ = _) | exact (rfl : V3.isNotND _ _ = _)))
namespace K82
open PySem (Str sizeLine)
open V3 Pm
open L2 (ixN atI cutS)
open TL (tl spl numL joinL ext_tl tl_mk mk_tl len_tl tl_append tl_ofString)
open PySem.NumText (AllDigits digitsVal)
/-! Q22: the law's reader of a number. -/
theorem wD_mem (ws : List (List Nat)) : (D.non ∈ ws.map wD) ↔ ¬ ws.all wok = true := by
  rw [List.all_eq_true]
  constructor
  · intro h h2
    obtain ⟨w, hm, e⟩ := List.mem_map.mp h
    unfold wD at e
    rw [if_pos (h2 w hm)] at e
    cases e
  · intro h
    obtain ⟨w, hw2⟩ := Classical.not_forall.mp h
    obtain ⟨hm, hf⟩ := Classical.not_imp.mp hw2
    exact List.mem_map.mpr ⟨w, hm, by unfold wD; rw [if_neg hf]⟩
theorem wD_of {w : List Nat} (h : wok w = true) : wD w = .int (wval w) := by unfold wD; rw [if_pos h]
open Classical in
theorem inNon {ws : List (List Nat)} : inD .non (.lst (ws.map wD)) = some (.bl (!(ws.all wok))) := by
  rw [inD_nb (n := 1) (d := .non) (show D.nb 1 .non from trivial) (fun d hd => by
    obtain ⟨w, _, rfl⟩ := List.mem_map.mp hd
    exact nb_wD w 1) (by decide) (fun s z => by cases z)]
  congr 2
  rw [Bool.eq_iff_iff, decide_eq_true_iff, wD_mem]
  simp
theorem R__law_number_in_eq {l : List Nat} (hp : Pl l) (hl : l.length ≤ 600) : R__law_number_in [T l] = .ok (nD (numO l)) [] := by
  have u : R__law_number_in [T l] = runD 1 3 m__law_number_in [T l] := rfl
  rw [u]
  have hn : spl [47] 0 [] l ≠ [] := spl_ne _ _ _
  have hlen : (spl [47] 0 [] l).length ≤ l.length + 1 := spl_len l [] 0
  have hmem : ∀ w ∈ spl [47] 0 [] l, Pl w ∧ w.length ≤ l.length := fun w h => words_mem hp h
  have ho : ∀ w, spl [47] 0 [] l = [w] → l = w := fun w => one47
  have hw : lstS (m1 (fun s => splitD (.str s)) (var 0) (ret (.str "/"))) [.im (T l), .un, .un] = .ok ((spl [47] 0 [] l).map T) [.im (T l), .un, .un] := lstS_go (strokeS rfl hl)
  have z := lcE_pure (k := 2) (el := _law_number_in_l1e) (f := fun d => match d with | .str x => wD (tl x) | d => d) hw (by simp) (fun ds z => by simp at z) (fun d hd => by
    obtain ⟨w, hm, rfl⟩ := List.mem_map.mp hd
    have hwm := words_mem hp hm
    have e' := cok (R__law_whole_in_eq hwm.1 (by omega))
    unfold _law_number_in_l1e
    exact callA_go (consG_go (vl_go (d := T w) rfl) rfl) rfl e' rfl) (by rw [List.length_map]; exact len_line (by omega))
  have em : ((spl [47] 0 [] l).map T).map (fun d => match d with | .str x => wD (tl x) | d => d) = (spl [47] 0 [] l).map wD := by rw [List.map_map]; rfl
  rw [em] at z
  have s1 : asgS 1 (lsE _law_number_in_l1) [.im (T l), .un, .un] = .ok .nx [.im (T l), .im (.lst ((spl [47] 0 [] l).map wD)), .un] := asgS_go (lsE_go z) rfl
  clear z em hw hlen
  have hin := inNon (ws := spl [47] 0 [] l)
  unfold numO
  generalize spl [47] 0 [] l = ws at *
  have c2 : lenD [.lst (ws.map wD)] = some (.int ((ws.length : Nat) : Int)) := by
    show some (D.int _) = _
    rw [List.length_map]
  have fin : ∀ {t : D}, (orT (blE (op2 inD (ret .non) (var 1))) (blE (op2 (cmpI fun i j => decide (j < i)) (opA lenD (consG (vl (var 1)) (ret []))) (ret (.int 2))))) [.im (T l), .im (.lst (ws.map wD)), .un] = .ok true [.im (T l), .im (.lst (ws.map wD)), .un] → t = .non → runD 1 3 m__law_number_in [T l] = .ok t [] := by
    intro t h e
    subst e
    refine run_ok (ρ' := [.im (T l), .im (.lst (ws.map wD)), .un]) rfl ?_
    rw [eq__law_number_in]
    exact thenS_go s1 (thenS_r (ifS_gt h rfl))
  by_cases hall : ws.all wok = true
  case neg =>
    have hf : ws.all wok = false := by simpa using hall
    rw [hf] at hin
    refine fin (orT_t (blE_go (op2_go rfl rfl hin))) ?_
    match ws with
    | [] => exact absurd rfl hn
    | [w] =>
      dsimp only
      rw [if_neg (by simpa using hf)]
      rfl
    | [a, b] =>
      dsimp only
      rw [if_neg (fun h => hall (by simp [h.1.1, h.1.2]))]
      rfl
    | a :: b :: c :: r => rfl
  rw [hall] at hin
  have t1 : blE (op2 inD (ret .non) (var 1)) [.im (T l), .im (.lst (ws.map wD)), .un] = .ok false [.im (T l), .im (.lst (ws.map wD)), .un] := blE_go (op2_go rfl rfl hin)
  match ws with
  | [] => exact absurd rfl hn
  | [w] =>
    have e := ho w rfl
    subst e
    have hwk : wok l = true := by simpa using hall
    have t2 : blE (op2 (cmpI fun i j => decide (j < i)) (opA lenD (consG (vl (var 1)) (ret []))) (ret (.int 2))) [.im (T l), .im (.lst ([l].map wD)), .un] = .ok false [.im (T l), .im (.lst ([l].map wD)), .un] := by get_elem_tactic_extensible
    dsimp only
    rw [if_pos hwk]
    have en : nD (some (wval l, 1)) = .tup [.int (wval l), .int 1] := rfl
    rw [en]
    have i0 : ixD (.lst ([l].map wD)) (.int 0) = some (.int (wval l)) := by rw [← wD_of hwk]; rfl
    have c3 : lenD [.lst ([l].map wD)] = some (.int 1) := rfl
    refine run_ok (ρ' := [.im (T l), .im (.lst ([l].map wD)), .un]) rfl ?_
    rw [eq__law_number_in]
    refine thenS_go s1 (thenS_go (ifS_gf (orT_f t1 t2) rfl) (thenS_r ?_))
    clear c2
    get_elem_tactic_extensible
  | [a, b] =>
    have hab : wok a = true ∧ wok b = true := by simpa using hall
    have c3 : lenD [.lst ([a, b].map wD)] = some (.int 2) := rfl
    clear c2
    have t2 : blE (op2 (cmpI fun i j => decide (j < i)) (opA lenD (consG (vl (var 1)) (ret []))) (ret (.int 2))) [.im (T l), .im (.lst ([a, b].map wD)), .un] = .ok false [.im (T l), .im (.lst ([a, b].map wD)), .un] := by get_elem_tactic_extensible
    have i0 : ixD (.lst ([a, b].map wD)) (.int 0) = some (.int (wval a)) := by rw [← wD_of hab.1]; rfl
    have i1 : ixD (.lst ([a, b].map wD)) (.int 1) = some (.int (wval b)) := by rw [← wD_of hab.2]; rfl
    have hd := cok (R__law_divisor_eq (wval a) (wval b))
    have s3 : ifS (blE (op2 eqD (opA lenD (consG (vl (var 1)) (ret []))) (ret (.int 1)))) (retS (tupE (consA (op2 ixD (var 1) (ret (.int 0))) (consA (ret (.int 1)) (ret []))))) skipS [.im (T l), .im (.lst ([a, b].map wD)), .un] = .ok .nx [.im (T l), .im (.lst ([a, b].map wD)), .un] := by get_elem_tactic_extensible
    have hf : opA tupleD (consG (vl (var 1)) (ret [])) [.im (T l), .im (.lst ([a, b].map wD)), .un] = .ok (.tup [.int (wval a), .int (wval b)]) [.im (T l), .im (.lst ([a, b].map wD)), .un] := by
      refine opA_go (consG_go (vl_go rfl) rfl) rfl ?_ rfl
      show some (D.tup [wD a, wD b]) = _
      rw [wD_of hab.1, wD_of hab.2]
    dsimp only
    by_cases hc : 1 < wval b ∧ Int.gcd (wval a) (wval b) = 1
    · rw [if_pos ⟨hab, hc⟩]
      have e1 : eqD (.int (Int.gcd (wval a) (wval b) : Nat)) (.int 1) = some (.bl true) := eqI_t (by omega)
      have h1 := hc.1
      refine run_ok (ρ' := [.im (T l), .im (.lst ([a, b].map wD)), .un]) rfl ?_
      rw [eq__law_number_in]
      refine thenS_go s1 (thenS_go (ifS_gf (orT_f t1 t2) rfl) (thenS_go s3 (retS_go (ifE_gt (ρ1 := [.im (T l), .im (.lst ([a, b].map wD)), .un]) ?_ hf))))
      get_elem_tactic_extensible
    · rw [if_neg (fun h => hc h.2)]
      refine run_ok (ρ' := [.im (T l), .im (.lst ([a, b].map wD)), .un]) rfl ?_
      rw [eq__law_number_in]
      refine thenS_go s1 (thenS_go (ifS_gf (orT_f t1 t2) rfl) (thenS_go s3 (retS_go (ifE_gf (ρ1 := [.im (T l), .im (.lst ([a, b].map wD)), .un]) ?_ rfl))))
      by_cases h1 : 1 < wval b
      · have e1 : eqD (.int (Int.gcd (wval a) (wval b) : Nat)) (.int 1) = some (.bl false) := eqI_f (by omega)
        get_elem_tactic_extensible
      · get_elem_tactic_extensible
  | a :: b :: c :: r =>
    have t2 : blE (op2 (cmpI fun i j => decide (j < i)) (opA lenD (consG (vl (var 1)) (ret []))) (ret (.int 2))) [.im (T l), .im (.lst ((a :: b :: c :: r).map wD)), .un] = .ok true [.im (T l), .im (.lst ((a :: b :: c :: r).map wD)), .un] := by
      have : (2 : Int) < (((a :: b :: c :: r).length : Nat) : Int) := by simp; omega
      get_elem_tactic_extensible
    exact fin (orT_f t1 t2) rfl
end K82
end

section
set_option Elab.async false
set_option linter.all false
set_option maxRecDepth 100000
set_option maxHeartbeats 1000000
open V3
local macro_rules | `(tactic| get_elem_tactic_extensible) => `(tactic| repeat' (first
  | with_reducible first
    | exact V3.skipS_go | exact V3.raiseS_go | exact V3.partN_go
    | apply V3.thenS_go | apply V3.asgS_go | apply V3.retS_go | apply V3.exprS_go | apply V3.op2_go | apply V3.op1_go | apply V3.vl_go | apply V3.consG_go | apply V3.consA_go | apply V3.opA_go | apply V3.op2g_go
    | apply V3.callN_go | apply V3.callL_gs | apply V3.callA_go | apply V3.tupE_go | apply V3.lstE_go | apply V3.dispF_go | apply V3.lsE_go | apply V3.tst_go | apply V3.blE_go | apply V3.m1_go | apply V3.partS_go | apply V3.slE_go
    | apply V3.parS_go | apply V3.retF_go | apply V3.repF_go | apply V3.lrgF_go | apply V3.tupS_go | apply V3.lstS_go | apply V3.strS_go | apply V3.rng1S_go | apply V3.forS_go | apply V3.augN_go | apply V3.setIx_gs | apply V3.asgO_go
  | ((with_reducible apply V3.ifS_gt); focus (get_elem_tactic_extensible; done)) | ((with_reducible apply V3.ifS_gf); focus (get_elem_tactic_extensible; done))
  | ((with_reducible apply V3.ifE_gt); focus (get_elem_tactic_extensible; done)) | ((with_reducible apply V3.ifE_gf); focus (get_elem_tactic_extensible; done))
  | ((with_reducible apply V3.andT_f); focus (get_elem_tactic_extensible; done)) | ((with_reducible apply V3.andT_t); focus (get_elem_tactic_extensible; done)) | with_reducible apply V3.andT_go
  | ((with_reducible apply V3.notT_f); focus (get_elem_tactic_extensible; done)) | ((with_reducible apply V3.notT_t); focus (get_elem_tactic_extensible; done)) | with_reducible apply V3.notT_go
  | ((with_reducible apply V3.orT_t); focus (get_elem_tactic_extensible; done)) | ((with_reducible apply V3.orT_f); focus (get_elem_tactic_extensible; done)) | with_reducible apply V3.orT_go
  | ((with_reducible apply V3.andE_f); focus (get_elem_tactic_extensible; done)) | ((with_reducible apply V3.andE_t); focus (get_elem_tactic_extensible; done)) | with_reducible apply V3.andE_go
  | ((with_reducible apply V3.orE_t); focus (get_elem_tactic_extensible; done)) | ((with_reducible apply V3.orE_f); focus (get_elem_tactic_extensible; done)) | with_reducible apply V3.orE_go
  | exact (rfl : V3.ret _ _ = _) | exact (rfl : V3.var _ _ = _) | exact (rfl : V3.own _ _ = _) | exact (rfl : V3.setI _ _ _ = _) | exact (rfl : List.set _ _ _ = _) | exact V3.setI_any rfl (by assumption) | exact (rfl : V3.resA _ _ = _) | exact (rfl : V3.slotL _ _ = _) | exact Eq.refl true
  | with_reducible assumption
  | exact V3.shb rfl
  | exact V3.cmp_t (decide_eq_true (by omega)) | exact V3.cmp_f (decide_eq_false (by omega)) | exact V3.eqI_t (by omega) | exact V3.eqI_f (by omega) | exact V3.neI_t (by omega) | exact V3.neI_f (by omega) | exact V3.modI (by decide)
  | exact (rfl : V3.addD _ _ = _) | exact (rfl : V3.subD _ _ = _) | exact (rfl : V3.negD _ = _) | exact (rfl : V3.notD _ = _) | exact (rfl : V3.cmpI _ _ _ = _) | exact (rfl : V3.lenD _ = _) | exact (rfl : V3.truD _ = _) | exact (rfl : V3.tupleD _ = _) | exact (rfl : V3.listD _ = _) | exact (rfl : V3.isiD _ _ = _) | exact (rfl : V3.isND _ _ = _) | exact (rfl : V3.isNotND _ _ = _)))
namespace K82
open PySem (Str sizeLine)
open V3 Pm
open L2 (ixN atI cutS)
open TL (tl spl numL joinL ext_tl tl_mk mk_tl len_tl tl_append tl_ofString)
open PySem.NumText (AllDigits digitsVal)
/-! Q23: both readers of a quotient. -/
/-- figures with room for Euclid -/
def Fit (t b : P) : Prop := ∃ n, 1 ≤ n ∧ n ≤ 8000 ∧ Bn n t ∧ Bn n b ∧ Room2 n t.length b.length
theorem formQ {t b : P} (ht : Tr t) (hb : Tr b) (nb : b ≠ []) (F : Fit t b) : ∃ t' b', R__law_form [dP t, dP b] = .ok (.tup [dP t', dP b']) [] ∧ ((t = t' ∧ b = b') ↔ IsQ t b) := by
  obtain ⟨n, h1, h2, Bt, Bb, R⟩ := F
  by_cases nt : t = []
  · subst nt
    exact ⟨[], [1], R__law_form_nil, by rw [← form_nil hb nb]; simp⟩
  · exact form_same ht hb nt nb h1 h2 Bt Bb R
theorem isQ {t b : P} (ht : Tr t) (hb : Tr b) (F : Fit t b) : ∃ c : Bool, R_is_quotient [.tup [dP t, dP b]] = .ok (.bl c) [] ∧ (c = true ↔ IsQ t b) := by
  obtain ⟨n, h1, h2, Bt, Bb, R⟩ := F
  exact R_is_quotient_eq ht hb h1 Bt Bb R
abbrev parts2 (l : List Nat) : List (List Nat) := spl [32, 47, 32] 0 [] l
open Classical in
/-- the quotient that a text writes -/
noncomputable def quotO (l : List Nat) : Option (P × P) := match parts2 l with
  | [a] => match polyO a with
    | some t => if IsQ t [1] then some (t, [1]) else none
    | none => none
  | [a, b] => match polyO a, polyO b with
    | some t, some v => if v ≠ [1] ∧ IsQ t v then some (t, v) else none
    | _, _ => none
  | _ => none
def qD (o : Option (P × P)) : D := match o with | some (t, b) => .tup [dP t, dP b] | none => .non
def FitT (l : List Nat) : Prop := match parts2 l with
  | [a] => ∀ t, polyO a = some t → Fit t [1]
  | [a, b] => ∀ t v, polyO a = some t → polyO b = some v → Fit t v
  | _ => True
theorem kbar : (S' [32, 47, 32]).cps.all (· < 256) = true := by rw [← Array.all_toList]; rfl
theorem barS {l : List Nat} {ρ : Ev} (h0 : ρ[0]? = some (.im (T l))) (hl : l.length ≤ 600) : m1 (fun s => splitD (.str s)) (var 0) (ret (.str " / ")) ρ = .ok (.lst ((parts2 l).map T)) ρ := by
  have hs : splitD (T l) (.str " / ") = some (.lst ((parts2 l).map T)) := by rw [lit_bar]; exact splitT (by simp) kbar (by omega)
  exact m1_go (s := S' l) (e := .str " / ") (by unfold var; rw [h0]) rfl hs
theorem dP_nb (a : P) (n : Nat) : D.nb (n + 1) (dP a) := fun d hd => by
  obtain ⟨x, _, rfl⟩ := List.mem_map.mp hd
  cases n <;> trivial
theorem dP_inj {a b : P} (h : dP a = dP b) : a = b := by
  have h1 : a.map D.int = b.map D.int := by injection h
  exact (List.map_inj_right fun x y e => by injection e).mp h1
theorem tr1 : Tr [1] := tr_one (by decide)
theorem R_quotient_in_eq {l : List Nat} (hp : Pl l) (hl : l.length ≤ 600) (F : FitT l) : match quotO l with | some (t, b) => R_quotient_in [T l] = .ok (.tup [dP t, dP b]) [] | none => R_quotient_in [T l] = .exc "NoText" [] := by
  have u : R_quotient_in [T l] = runD 1 4 m_quotient_in [T l] := rfl
  have mt := R_must_t
  have mf := R_must_f
  rw [u]
  have s1 : asgS 1 (m1 (fun s => splitD (.str s)) (var 0) (ret (.str " / "))) [.im (T l), .un, .un, .un] = .ok .nx [.im (T l), .im (.lst ((parts2 l).map T)), .un, .un] := asgS_go (barS rfl hl) rfl
  have hn : parts2 l ≠ [] := spl_ne _ _ _
  have hmem : ∀ w ∈ parts2 l, Pl w ∧ w.length ≤ l.length := fun w h => words_mem hp h
  unfold quotO
  unfold FitT at F
  generalize parts2 l = ws at *
  match ws with
  | [] => exact absurd rfl hn
  | [a] =>
    have ha := hmem a (by simp)
    have ra := R_poly_in_eq ha.1 (by omega)
    have c3 : lenD [.lst ([a].map T)] = some (.int 1) := rfl
    have i0 : ixD (.lst ([a].map T)) (.int 0) = some (T a) := rfl
    have s2 : exprS (callA R_must (consG (vl (op2 (cmpI fun i j => decide (i < j)) (opA lenD (consG (vl (var 1)) (ret []))) (ret (.int 3)))) (ret []))) [.im (T l), .im (.lst ([a].map T)), .un, .un] = .ok .nx [.im (T l), .im (.lst ([a].map T)), .un, .un] := by get_elem_tactic_extensible
    dsimp only at F ⊢
    cases hpa : polyO a with
    | none =>
      rw [hpa] at ra
      dsimp only at ra ⊢
      refine run_x (ρ' := [.im (T l), .im (.lst ([a].map T)), .un, .un]) rfl ?_
      unfold m_quotient_in
      exact thenS_go s1 (thenS_go s2 (thenS_x (asgS_x (callA_x (consG_go (vl_go (op2_go rfl rfl i0)) rfl) rfl (cex ra)))))
    | some t =>
      rw [hpa] at ra
      dsimp only at ra ⊢
      have ra' := cok ra
      have s3 : asgS 2 (callA R_poly_in (consG (vl (op2 ixD (var 1) (ret (.int 0)))) (ret []))) [.im (T l), .im (.lst ([a].map T)), .un, .un] = .ok .nx [.im (T l), .im (.lst ([a].map T)), .im (dP t), .un] := by get_elem_tactic_extensible
      have s4 : asgS 3 (tupE (consA (ret (.int 1)) (ret []))) [.im (T l), .im (.lst ([a].map T)), .im (dP t), .un] = .ok .nx [.im (T l), .im (.lst ([a].map T)), .im (dP t), .im (dP [1])] := asgS_go (tupE_go rfl (shb rfl)) rfl
      have c5 : blE (op2 eqD (opA lenD (consG (vl (var 1)) (ret []))) (ret (.int 2))) [.im (T l), .im (.lst ([a].map T)), .im (dP t), .im (dP [1])] = .ok false [.im (T l), .im (.lst ([a].map T)), .im (dP t), .im (dP [1])] := by get_elem_tactic_extensible
      obtain ⟨c, q1, q2⟩ := isQ (polyO_tr hpa) tr1 (F t hpa)
      have q1' := cok q1
      by_cases hq : IsQ t [1]
      · rw [if_pos hq]
        rw [q2.mpr hq] at q1'
        dsimp only
        refine run_ok (ρ' := [.im (T l), .im (.lst ([a].map T)), .im (dP t), .im (dP [1])]) rfl ?_
        unfold m_quotient_in
        refine thenS_go s1 (thenS_go s2 (thenS_go s3 (thenS_go s4 (thenS_go (ifS_gf c5 rfl) ?_))))
        get_elem_tactic_extensible
      · rw [if_neg hq]
        have : c = false := by
          cases c with
          | false => rfl
          | true => exact absurd (q2.mp rfl) hq
        rw [this] at q1'
        dsimp only
        have e1 : callA R_is_quotient (consG (vl (tupE (consA (var 2) (consA (var 3) (ret []))))) (ret [])) [.im (T l), .im (.lst ([a].map T)), .im (dP t), .im (dP [1])] = .ok (.bl false) [.im (T l), .im (.lst ([a].map T)), .im (dP t), .im (dP [1])] := by get_elem_tactic_extensible
        refine run_x (ρ' := [.im (T l), .im (.lst ([a].map T)), .im (dP t), .im (dP [1])]) rfl ?_
        unfold m_quotient_in
        exact thenS_go s1 (thenS_go s2 (thenS_go s3 (thenS_go s4 (thenS_go (ifS_gf c5 rfl) (thenS_x (exprS_x (callA_x (consG_go (vl_go e1) rfl) rfl mf)))))))
  | [a, b] =>
    have ha := hmem a (by simp)
    have hb := hmem b (by simp)
    have ra := R_poly_in_eq ha.1 (by omega)
    have rb := R_poly_in_eq hb.1 (by omega)
    have c3 : lenD [.lst ([a, b].map T)] = some (.int 2) := rfl
    have i0 : ixD (.lst ([a, b].map T)) (.int 0) = some (T a) := rfl
    have i1 : ixD (.lst ([a, b].map T)) (.int 1) = some (T b) := rfl
    have s2 : exprS (callA R_must (consG (vl (op2 (cmpI fun i j => decide (i < j)) (opA lenD (consG (vl (var 1)) (ret []))) (ret (.int 3)))) (ret []))) [.im (T l), .im (.lst ([a, b].map T)), .un, .un] = .ok .nx [.im (T l), .im (.lst ([a, b].map T)), .un, .un] := by get_elem_tactic_extensible
    dsimp only at F ⊢
    cases hpa : polyO a with
    | none =>
      rw [hpa] at ra
      dsimp only at ra ⊢
      refine run_x (ρ' := [.im (T l), .im (.lst ([a, b].map T)), .un, .un]) rfl ?_
      unfold m_quotient_in
      exact thenS_go s1 (thenS_go s2 (thenS_x (asgS_x (callA_x (consG_go (vl_go (op2_go rfl rfl i0)) rfl) rfl (cex ra)))))
    | some t =>
      rw [hpa] at ra
      dsimp only at ra ⊢
      have ra' := cok ra
      have s3 : asgS 2 (callA R_poly_in (consG (vl (op2 ixD (var 1) (ret (.int 0)))) (ret []))) [.im (T l), .im (.lst ([a, b].map T)), .un, .un] = .ok .nx [.im (T l), .im (.lst ([a, b].map T)), .im (dP t), .un] := by get_elem_tactic_extensible
      have s4 : asgS 3 (tupE (consA (ret (.int 1)) (ret []))) [.im (T l), .im (.lst ([a, b].map T)), .im (dP t), .un] = .ok .nx [.im (T l), .im (.lst ([a, b].map T)), .im (dP t), .im (dP [1])] := asgS_go (tupE_go rfl (shb rfl)) rfl
      have c5 : blE (op2 eqD (opA lenD (consG (vl (var 1)) (ret []))) (ret (.int 2))) [.im (T l), .im (.lst ([a, b].map T)), .im (dP t), .im (dP [1])] = .ok true [.im (T l), .im (.lst ([a, b].map T)), .im (dP t), .im (dP [1])] := by get_elem_tactic_extensible
      cases hpb : polyO b with
      | none =>
        rw [hpb] at rb
        dsimp only at rb ⊢
        refine run_x (ρ' := [.im (T l), .im (.lst ([a, b].map T)), .im (dP t), .im (dP [1])]) rfl ?_
        unfold m_quotient_in
        exact thenS_go s1 (thenS_go s2 (thenS_go s3 (thenS_go s4 (thenS_x (ifS_gt c5 (thenS_x (asgS_x (callA_x (consG_go (vl_go (op2_go rfl rfl i1)) rfl) rfl (cex rb)))))))))
      | some v =>
        rw [hpb] at rb
        dsimp only at rb ⊢
        have rb' := cok rb
        have s6 : asgS 3 (callA R_poly_in (consG (vl (op2 ixD (var 1) (ret (.int 1)))) (ret []))) [.im (T l), .im (.lst ([a, b].map T)), .im (dP t), .im (dP [1])] = .ok .nx [.im (T l), .im (.lst ([a, b].map T)), .im (dP t), .im (dP v)] := by get_elem_tactic_extensible
        have ne : neD (dP v) (.tup [.int 1]) = some (.bl (!decide (v = [1]))) := neD_dP v [1]
        by_cases hv : v = [1]
        · rw [if_neg (fun h => h.1 hv)]
          rw [decide_eq_true hv] at ne
          dsimp only
          refine run_x (ρ' := [.im (T l), .im (.lst ([a, b].map T)), .im (dP t), .im (dP v)]) rfl ?_
          unfold m_quotient_in
          exact thenS_go s1 (thenS_go s2 (thenS_go s3 (thenS_go s4 (thenS_x (ifS_gt c5 (thenS_go s6 (exprS_x (callA_x (consG_go (vl_go (op2_go rfl (tupE_go rfl (shb rfl)) ne)) rfl) rfl mf))))))))
        · rw [decide_eq_false hv] at ne
          have s7 : ifS (blE (op2 eqD (opA lenD (consG (vl (var 1)) (ret []))) (ret (.int 2)))) (thenS (asgS 3 (callA R_poly_in (consG (vl (op2 ixD (var 1) (ret (.int 1)))) (ret [])))) (exprS (callA R_must (consG (vl (op2 neD (var 3) (tupE (consA (ret (.int 1)) (ret []))))) (ret []))))) skipS [.im (T l), .im (.lst ([a, b].map T)), .im (dP t), .im (dP [1])] = .ok .nx [.im (T l), .im (.lst ([a, b].map T)), .im (dP t), .im (dP v)] :=
            ifS_gt c5 (thenS_go s6 (exprS_go (callA_go (consG_go (vl_go (op2_go rfl (tupE_go rfl (shb rfl)) ne)) rfl) rfl mt rfl)))
          obtain ⟨c, q1, q2⟩ := isQ (polyO_tr hpa) (polyO_tr hpb) (F t v hpa hpb)
          have q1' := cok q1
          by_cases hq : IsQ t v
          · rw [if_pos ⟨hv, hq⟩]
            rw [q2.mpr hq] at q1'
            dsimp only
            refine run_ok (ρ' := [.im (T l), .im (.lst ([a, b].map T)), .im (dP t), .im (dP v)]) rfl ?_
            unfold m_quotient_in
            refine thenS_go s1 (thenS_go s2 (thenS_go s3 (thenS_go s4 (thenS_go s7 ?_))))
            get_elem_tactic_extensible
          · rw [if_neg (fun h => hq h.2)]
            have : c = false := by
              cases c with
              | false => rfl
              | true => exact absurd (q2.mp rfl) hq
            rw [this] at q1'
            dsimp only
            have e1 : callA R_is_quotient (consG (vl (tupE (consA (var 2) (consA (var 3) (ret []))))) (ret [])) [.im (T l), .im (.lst ([a, b].map T)), .im (dP t), .im (dP v)] = .ok (.bl false) [.im (T l), .im (.lst ([a, b].map T)), .im (dP t), .im (dP v)] := by get_elem_tactic_extensible
            refine run_x (ρ' := [.im (T l), .im (.lst ([a, b].map T)), .im (dP t), .im (dP v)]) rfl ?_
            unfold m_quotient_in
            exact thenS_go s1 (thenS_go s2 (thenS_go s3 (thenS_go s4 (thenS_go s7 (thenS_x (exprS_x (callA_x (consG_go (vl_go e1) rfl) rfl mf)))))))
  | a :: b :: c :: r =>
    dsimp only
    have c3 : lenD [.lst ((a :: b :: c :: r).map T)] = some (.int ((r.length + 3 : Nat) : Int)) := by
      show some (D.int _) = _
      simp
      omega
    have q : op2 (cmpI fun i j => decide (i < j)) (opA lenD (consG (vl (var 1)) (ret []))) (ret (.int 3)) [.im (T l), .im (.lst ((a :: b :: c :: r).map T)), .un, .un] = .ok (.bl false) [.im (T l), .im (.lst ((a :: b :: c :: r).map T)), .un, .un] := by get_elem_tactic_extensible
    refine run_x (ρ' := [.im (T l), .im (.lst ((a :: b :: c :: r).map T)), .un, .un]) rfl ?_
    unfold m_quotient_in
    exact thenS_go s1 (thenS_x (exprS_x (callA_x (consG_go (vl_go q) rfl) rfl mf)))
end K82
end

section
set_option Elab.async false
set_option linter.all false
set_option maxRecDepth 100000
set_option maxHeartbeats 1000000
open V3
local macro_rules | `(tactic| get_elem_tactic_extensible) => `(tactic| repeat' (first
  | with_reducible first
    | exact V3.skipS_go | exact V3.raiseS_go | exact V3.partN_go
    | apply V3.thenS_go | apply V3.asgS_go | apply V3.retS_go | apply V3.exprS_go | apply V3.op2_go | apply V3.op1_go | apply V3.vl_go | apply V3.consG_go | apply V3.consA_go | apply V3.opA_go | apply V3.op2g_go
    | apply V3.callN_go | apply V3.callL_gs | apply V3.callA_go | apply V3.tupE_go | apply V3.lstE_go | apply V3.dispF_go | apply V3.lsE_go | apply V3.tst_go | apply V3.blE_go | apply V3.m1_go | apply V3.partS_go | apply V3.slE_go
    | apply V3.parS_go | apply V3.retF_go | apply V3.repF_go | apply V3.lrgF_go | apply V3.tupS_go | apply V3.lstS_go | apply V3.strS_go | apply V3.rng1S_go | apply V3.forS_go | apply V3.augN_go | apply V3.setIx_gs | apply V3.asgO_go
  | ((with_reducible apply V3.ifS_gt); focus (get_elem_tactic_extensible; done)) | ((with_reducible apply V3.ifS_gf); focus (get_elem_tactic_extensible; done))
  | ((with_reducible apply V3.ifE_gt); focus (get_elem_tactic_extensible; done)) | ((with_reducible apply V3.ifE_gf); focus (get_elem_tactic_extensible; done))
  | ((with_reducible apply V3.andT_f); focus (get_elem_tactic_extensible; done)) | ((with_reducible apply V3.andT_t); focus (get_elem_tactic_extensible; done)) | with_reducible apply V3.andT_go
  | ((with_reducible apply V3.notT_f); focus (get_elem_tactic_extensible; done)) | ((with_reducible apply V3.notT_t); focus (get_elem_tactic_extensible; done)) | with_reducible apply V3.notT_go
  | ((with_reducible apply V3.orT_t); focus (get_elem_tactic_extensible; done)) | ((with_reducible apply V3.orT_f); focus (get_elem_tactic_extensible; done)) | with_reducible apply V3.orT_go
  | ((with_reducible apply V3.andE_f); focus (get_elem_tactic_extensible; done)) | ((with_reducible apply V3.andE_t); focus (get_elem_tactic_extensible; done)) | with_reducible apply V3.andE_go
  | ((with_reducible apply V3.orE_t); focus (get_elem_tactic_extensible; done)) | ((with_reducible apply V3.orE_f); focus (get_elem_tactic_extensible; done)) | with_reducible apply V3.orE_go
  | exact (rfl : V3.ret _ _ = _) | exact (rfl : V3.var _ _ = _) | exact (rfl : V3.own _ _ = _) | exact (rfl : V3.setI _ _ _ = _) | exact (rfl : List.set _ _ _ = _) | exact V3.setI_any rfl (by assumption) | exact (rfl : V3.resA _ _ = _) | exact (rfl : V3.slotL _ _ = _) | exact Eq.refl true
  | with_reducible assumption
  | exact V3.shb rfl
  | exact V3.cmp_t (decide_eq_true (by omega)) | exact V3.cmp_f (decide_eq_false (by omega)) | exact V3.eqI_t (by omega) | exact V3.eqI_f (by omega) | exact V3.neI_t (by omega) | exact V3.neI_f (by omega) | exact V3.modI (by decide)
  | exact (rfl : V3.addD _ _ = _) | exact (rfl : V3.subD _ _ = _) | exact (rfl : V3.negD _ = _) | exact (rfl : V3.notD _ = _) | exact (rfl : V3.cmpI _ _ _ = _) | exact (rfl : V3.lenD _ = _) | exact (rfl : V3.truD _ = _) | exact (rfl : V3.tupleD _ = _) | exact (rfl : V3.listD _ = _) | exact (rfl : V3.isiD _ _ = _) | exact (rfl : V3.isND _ _ = _) | exact (rfl : V3.isNotND _ _ = _)))
namespace K82
open PySem (Str sizeLine)
open V3 Pm
open L2 (ixN atI cutS)
open TL (tl spl numL joinL ext_tl tl_mk mk_tl len_tl tl_append tl_ofString)
open PySem.NumText (AllDigits digitsVal)
/-! Q24: the law's reader of a quotient. -/
theorem pD_nb (o : Option P) (n : Nat) : D.nb (n + 1) (pD o) := by
  cases o with
  | none => trivial
  | some a => exact dP_nb a n
theorem slL_from {ds : List D} {k : Nat} (hk : k ≤ ds.length) : sl1 (some (k : Int)) none [.lst ds] = some (.lst (ds.drop k)) := by
  show some (D.lst (cutD ds (some (k : Int)) none)) = _
  unfold cutD
  rw [HT.sIx_none, HT.sIx_nat, Nat.min_eq_left hk, List.take_of_length_le (by simp)]
theorem addL {ds es : List D} (h : ds.length + es.length ≤ sizeLine) : addD (.lst ds) (.lst es) = some (.lst (ds ++ es)) := if_pos h
open Classical in
theorem R__law_quotient_in_eq {l : List Nat} (hp : Pl l) (hl : l.length ≤ 600) (F : FitT l) : R__law_quotient_in [T l] = .ok (qD (quotO l)) [] := by
  have u : R__law_quotient_in [T l] = runD 1 4 m__law_quotient_in [T l] := rfl
  rw [u]
  have hn : parts2 l ≠ [] := spl_ne _ _ _
  have hlen : (parts2 l).length ≤ l.length + 1 := spl_len l [] 0
  have hw : lstS (m1 (fun s => splitD (.str s)) (var 0) (ret (.str " / "))) [.im (T l), .un, .un, .un] = .ok ((parts2 l).map T) [.im (T l), .un, .un, .un] := lstS_go (barS rfl hl)
  have z := lcE_pure (k := 3) (el := _law_quotient_in_l1e) (f := fun d => match d with | .str x => pD (polyO (tl x)) | d => d) hw (by simp) (fun ds z => by simp at z) (fun d hd => by
    obtain ⟨w, hm, rfl⟩ := List.mem_map.mp hd
    have hwm := words_mem hp hm
    have e' := cok (R__law_poly_in_eq hwm.1 (by omega))
    unfold _law_quotient_in_l1e
    refine callA_go (consG_go (vl_go (d := T w) rfl) rfl) rfl e' rfl) (by rw [List.length_map]; exact len_line (by omega))
  have em : ((parts2 l).map T).map (fun d => match d with | .str x => pD (polyO (tl x)) | d => d) = (parts2 l).map fun w => pD (polyO w) := by rw [List.map_map]; rfl
  rw [em] at z
  have s1 : asgS 1 (lsE _law_quotient_in_l1) [.im (T l), .un, .un, .un] = .ok .nx [.im (T l), .im (.lst ((parts2 l).map fun w => pD (polyO w))), .un, .un] := asgS_go (lsE_go z) rfl
  clear z em hw hlen
  have hin := inD_nb (n := 2) (d := .non) (ds := (parts2 l).map fun w => pD (polyO w)) (show D.nb 2 .non from trivial) (fun d hd => by
    obtain ⟨w, _, rfl⟩ := List.mem_map.mp hd
    exact pD_nb _ 1) (by decide) (fun s z => by cases z)
  unfold quotO
  unfold FitT at F
  generalize parts2 l = ws at *
  have c2 : lenD [.lst (ws.map fun w => pD (polyO w))] = some (.int ((ws.length : Nat) : Int)) := by
    show some (D.int _) = _
    rw [List.length_map]
  have fin : ∀ {t : D}, (orT (blE (op2 inD (ret .non) (var 1))) (orT (blE (op2 (cmpI fun i j => decide (j < i)) (opA lenD (consG (vl (var 1)) (ret []))) (ret (.int 2)))) (orT (blE (op2 eqD (slE (vl (var 1)) (partS (ret (.int 1))) partN) (lstE (consA (tupE (consA (ret (.int 1)) (ret []))) (ret []))))) (blE (op2 eqD (slE (vl (var 1)) (partS (ret (.int 1))) partN) (lstE (consA (tupE (ret [])) (ret [])))))))) [.im (T l), .im (.lst (ws.map fun w => pD (polyO w))), .un, .un] = .ok true [.im (T l), .im (.lst (ws.map fun w => pD (polyO w))), .un, .un] → t = .non → runD 1 4 m__law_quotient_in [T l] = .ok t [] := by
    intro t h e
    subst e
    refine run_ok (ρ' := [.im (T l), .im (.lst (ws.map fun w => pD (polyO w))), .un, .un]) rfl ?_
    rw [eq__law_quotient_in]
    exact thenS_go s1 (thenS_r (ifS_gt h rfl))
  by_cases hnon : D.non ∈ ws.map fun w => pD (polyO w)
  · rw [decide_eq_true hnon] at hin
    refine fin (orT_t (blE_go (op2_go rfl rfl hin))) ?_
    obtain ⟨w, hm, e⟩ := List.mem_map.mp hnon
    have e0 : polyO w = none := by
      cases h : polyO w with
      | none => rfl
      | some a => rw [h] at e; cases e
    match ws with
    | [] => exact absurd rfl hn
    | [a] =>
      rw [List.mem_singleton.mp hm] at e0
      dsimp only
      rw [e0]
      rfl
    | [a, b] =>
      dsimp only
      rcases List.mem_cons.mp hm with rfl | hm
      · rw [e0]; rfl
      · rw [List.mem_singleton.mp hm] at e0
        rw [e0]
        cases polyO a <;> rfl
    | a :: b :: c :: r => rfl
  rw [decide_eq_false hnon] at hin
  have t1 : blE (op2 inD (ret .non) (var 1)) [.im (T l), .im (.lst (ws.map fun w => pD (polyO w))), .un, .un] = .ok false [.im (T l), .im (.lst (ws.map fun w => pD (polyO w))), .un, .un] := blE_go (op2_go rfl rfl hin)
  have tail : ∀ {t v : P} {x : List D}, ws.map (fun w => pD (polyO w)) = x → (x = [dP t] ∧ v = [1] ∨ x = [dP t, dP v]) → v ≠ [] → Tr t → Tr v → Fit t v → (orT (blE (op2 inD (ret .non) (var 1))) (orT (blE (op2 (cmpI fun i j => decide (j < i)) (opA lenD (consG (vl (var 1)) (ret []))) (ret (.int 2)))) (orT (blE (op2 eqD (slE (vl (var 1)) (partS (ret (.int 1))) partN) (lstE (consA (tupE (consA (ret (.int 1)) (ret []))) (ret []))))) (blE (op2 eqD (slE (vl (var 1)) (partS (ret (.int 1))) partN) (lstE (consA (tupE (ret [])) (ret [])))))))) [.im (T l), .im (.lst x), .un, .un] = .ok false [.im (T l), .im (.lst x), .un, .un] →
      runD 1 4 m__law_quotient_in [T l] = .ok (qD (if IsQ t v then some (t, v) else none)) [] := by
    intro t v x hx hx2 nv ht hv Ftv hc
    rw [hx] at s1
    obtain ⟨t', v', q1, q2⟩ := formQ ht hv nv Ftv
    have q1' := cok q1
    have i0 : ixD (.lst x) (.int 0) = some (dP t) := by
      rcases hx2 with ⟨h, _⟩ | h <;> (rw [h]; rfl)
    have i1 : op2 ixD (op2 addD (var 1) (lstE (consA (tupE (consA (ret (.int 1)) (ret []))) (ret [])))) (ret (.int 1)) [.im (T l), .im (.lst x), .un, .un] = .ok (dP v) [.im (T l), .im (.lst x), .un, .un] := by
      refine op2_go (d := .lst (x ++ [dP [1]])) (op2_go rfl (lstE_go (consA_go (tupE_go rfl (shb rfl)) rfl) (shb rfl)) ?_) rfl ?_
      · rcases hx2 with ⟨h, _⟩ | h
        · subst h; exact addL (shb (n := [dP t].length + [dP [1]].length) rfl)
        · subst h; exact addL (shb (n := [dP t, dP v].length + [dP [1]].length) rfl)
      · rcases hx2 with ⟨h, h2⟩ | h
        · subst h h2; rfl
        · subst h; rfl
    have s3 : asgS 2 (tupE (consA (op2 ixD (var 1) (ret (.int 0))) (consA (op2 ixD (op2 addD (var 1) (lstE (consA (tupE (consA (ret (.int 1)) (ret []))) (ret [])))) (ret (.int 1))) (ret [])))) [.im (T l), .im (.lst x), .un, .un] = .ok .nx [.im (T l), .im (.lst x), .im (.tup [dP t, dP v]), .un] :=
      asgS_go (tupE_go (consA_go (op2_go rfl rfl i0) (consA_go i1 rfl)) (shb rfl)) rfl
    have j0 : ixD (.tup [dP t, dP v]) (.int 0) = some (dP t) := rfl
    have j1 : ixD (.tup [dP t, dP v]) (.int 1) = some (dP v) := rfl
    have nb2 : ∀ a b : P, D.nb 2 (.tup [dP a, dP b]) := fun a b d hd => by
      rcases List.mem_cons.mp hd with rfl | hd
      · exact dP_nb a 0
      · rw [List.mem_singleton.mp hd]; exact dP_nb b 0
    have iff1 : (D.tup [dP t, dP v] = .tup [dP t', dP v']) ↔ IsQ t v := by
      rw [← q2]
      constructor
      · intro h
        have h1 : [dP t, dP v] = [dP t', dP v'] := by injection h
        have h2 := List.cons.inj h1
        have h3 := List.cons.inj h2.2
        exact ⟨dP_inj h2.1, dP_inj h3.1⟩
      · rintro ⟨rfl, rfl⟩; rfl
    refine run_ok (ρ' := [.im (T l), .im (.lst x), .im (.tup [dP t, dP v]), .un]) rfl ?_
    rw [eq__law_quotient_in]
    refine thenS_go s1 (thenS_go (ifS_gf hc rfl) (thenS_go s3 (retS_go ?_)))
    by_cases hq : IsQ t v
    · rw [if_pos hq]
      have e := eqD_t (nb2 t v) (nb2 t' v') (by decide) (iff1.mpr hq)
      refine ifE_gt (ρ1 := [.im (T l), .im (.lst x), .im (.tup [dP t, dP v]), .un]) ?_ rfl
      get_elem_tactic_extensible
    · rw [if_neg hq]
      have e := eqD_f (nb2 t v) (nb2 t' v') (by decide) (fun h => hq (iff1.mp h))
      refine ifE_gf (ρ1 := [.im (T l), .im (.lst x), .im (.tup [dP t, dP v]), .un]) ?_ rfl
      get_elem_tactic_extensible
  match ws with
  | [] => exact absurd rfl hn
  | [a] =>
    dsimp only at F ⊢
    cases hpa : polyO a with
    | none => exact absurd (List.mem_map.mpr ⟨a, by simp, by rw [hpa]; rfl⟩) hnon
    | some t =>
      dsimp only
      refine tail (x := [dP t]) (by simp [hpa, pD]) (.inl ⟨rfl, rfl⟩) (by decide) (polyO_tr hpa) tr1 (F t hpa) ?_
      have ex : ([a].map fun w => pD (polyO w)) = [dP t] := by simp [hpa, pD]
      rw [ex] at t1
      have c3 : lenD [.lst [dP t]] = some (.int 1) := rfl
      have g1 : sl1 (some 1) none [.lst [dP t]] = some (.lst []) := slL_from (k := 1) (by simp)
      have e1 : eqD (.lst []) (.lst [.tup [.int 1]]) = some (.bl false) := eqD_f (n := 2) (fun d hd => by cases hd) (fun d hd => by rw [List.mem_singleton.mp hd]; exact dP_nb [1] 0) (by decide) (fun h => by injection h with h; cases h)
      have e2 : eqD (.lst []) (.lst [.tup []]) = some (.bl false) := eqD_f (n := 2) (fun d hd => by cases hd) (fun d hd => by rw [List.mem_singleton.mp hd]; exact dP_nb [] 0) (by decide) (fun h => by injection h with h; cases h)
      refine orT_f t1 ?_
      get_elem_tactic_extensible
  | [a, b] =>
    dsimp only at F ⊢
    cases hpa : polyO a with
    | none => exact absurd (List.mem_map.mpr ⟨a, by simp, by rw [hpa]; rfl⟩) hnon
    | some t =>
      cases hpb : polyO b with
      | none => exact absurd (List.mem_map.mpr ⟨b, by simp, by rw [hpb]; rfl⟩) hnon
      | some v =>
        dsimp only
        have ex : ([a, b].map fun w => pD (polyO w)) = [dP t, dP v] := by simp [hpa, hpb, pD]
        have c3 : lenD [.lst [dP t, dP v]] = some (.int 2) := rfl
        have g1 : sl1 (some 1) none [.lst [dP t, dP v]] = some (.lst [dP v]) := slL_from (k := 1) (by simp)
        have nbv : D.nb 2 (.lst [dP v]) := fun d hd => by rw [List.mem_singleton.mp hd]; exact dP_nb v 0
        have nb1 : D.nb 2 (.lst [dP [1]]) := fun d hd => by rw [List.mem_singleton.mp hd]; exact dP_nb [1] 0
        have nb0 : D.nb 2 (.lst [dP []]) := fun d hd => by rw [List.mem_singleton.mp hd]; exact dP_nb [] 0
        rw [ex] at t1 fin
        have t2 : blE (op2 (cmpI fun i j => decide (j < i)) (opA lenD (consG (vl (var 1)) (ret []))) (ret (.int 2))) [.im (T l), .im (.lst [dP t, dP v]), .un, .un] = .ok false [.im (T l), .im (.lst [dP t, dP v]), .un, .un] := by get_elem_tactic_extensible
        by_cases hv1 : v = [1]
        · rw [if_neg (fun h => h.1 hv1)]
          refine fin (orT_f t1 (orT_f t2 (orT_t ?_))) rfl
          have e1 : eqD (.lst [dP v]) (.lst [.tup [.int 1]]) = some (.bl true) := eqD_t nbv nb1 (by decide) (by rw [hv1]; rfl)
          get_elem_tactic_extensible
        have e1 : eqD (.lst [dP v]) (.lst [.tup [.int 1]]) = some (.bl false) := eqD_f nbv nb1 (by decide) (fun h => by
          have h1 : [dP v] = [dP [1]] := by injection h
          exact hv1 (dP_inj (List.cons.inj h1).1))
        have t3 : blE (op2 eqD (slE (vl (var 1)) (partS (ret (.int 1))) partN) (lstE (consA (tupE (consA (ret (.int 1)) (ret []))) (ret [])))) [.im (T l), .im (.lst [dP t, dP v]), .un, .un] = .ok false [.im (T l), .im (.lst [dP t, dP v]), .un, .un] := by get_elem_tactic_extensible
        by_cases hv0 : v = []
        · rw [if_neg (fun h => h.2.1 hv0)]
          refine fin (orT_f t1 (orT_f t2 (orT_f t3 ?_))) rfl
          have e2 : eqD (.lst [dP v]) (.lst [.tup []]) = some (.bl true) := eqD_t nbv nb0 (by decide) (by rw [hv0]; rfl)
          get_elem_tactic_extensible
        have e2 : eqD (.lst [dP v]) (.lst [.tup []]) = some (.bl false) := eqD_f nbv nb0 (by decide) (fun h => by
          have h1 : [dP v] = [dP []] := by injection h
          exact hv0 (dP_inj (List.cons.inj h1).1))
        have := tail (t := t) (v := v) (x := [dP t, dP v]) ex (.inr rfl) hv0 (polyO_tr hpa) (polyO_tr hpb) (F t v hpa hpb) (orT_f t1 (orT_f t2 (orT_f t3 (by get_elem_tactic_extensible))))
        rw [this]
        by_cases hq : IsQ t v
        · rw [if_pos hq, if_pos ⟨hv1, hq⟩]
        · rw [if_neg hq, if_neg (fun h => hq h.2)]
  | a :: b :: c :: r =>
    refine fin (orT_f t1 (orT_t ?_)) rfl
    have : (2 : Int) < (((a :: b :: c :: r).length : Nat) : Int) := by simp; omega
    get_elem_tactic_extensible
end K82
end

section
set_option Elab.async false
set_option linter.all false
set_option maxRecDepth 100000
set_option maxHeartbeats 1000000
open V3
local macro_rules | `(tactic| get_elem_tactic_extensible) => `(tactic| repeat' (first
  | with_reducible first
    | exact V3.skipS_go | exact V3.raiseS_go | exact V3.partN_go
    | apply V3.thenS_go | apply V3.asgS_go | apply V3.retS_go | apply V3.exprS_go | apply V3.op2_go | apply V3.op1_go | apply V3.vl_go | apply V3.consG_go | apply V3.consA_go | apply V3.opA_go | apply V3.op2g_go
    | apply V3.callN_go | apply V3.callL_gs | apply V3.callA_go | apply V3.tupE_go | apply V3.lstE_go | apply V3.dispF_go | apply V3.lsE_go | apply V3.tst_go | apply V3.blE_go | apply V3.m1_go | apply V3.partS_go | apply V3.slE_go
    | apply V3.parS_go | apply V3.retF_go | apply V3.repF_go | apply V3.lrgF_go | apply V3.tupS_go | apply V3.lstS_go | apply V3.strS_go | apply V3.rng1S_go | apply V3.forS_go | apply V3.augN_go | apply V3.setIx_gs | apply V3.asgO_go
  | ((with_reducible apply V3.ifS_gt); focus (get_elem_tactic_extensible; done)) | ((with_reducible apply V3.ifS_gf); focus (get_elem_tactic_extensible; done))
  | ((with_reducible apply V3.ifE_gt); focus (get_elem_tactic_extensible; done)) | ((with_reducible apply V3.ifE_gf); focus (get_elem_tactic_extensible; done))
  | ((with_reducible apply V3.andT_f); focus (get_elem_tactic_extensible; done)) | ((with_reducible apply V3.andT_t); focus (get_elem_tactic_extensible; done)) | with_reducible apply V3.andT_go
  | ((with_reducible apply V3.notT_f); focus (get_elem_tactic_extensible; done)) | ((with_reducible apply V3.notT_t); focus (get_elem_tactic_extensible; done)) | with_reducible apply V3.notT_go
  | ((with_reducible apply V3.orT_t); focus (get_elem_tactic_extensible; done)) | ((with_reducible apply V3.orT_f); focus (get_elem_tactic_extensible; done)) | with_reducible apply V3.orT_go
  | ((with_reducible apply V3.andE_f); focus (get_elem_tactic_extensible; done)) | ((with_reducible apply V3.andE_t); focus (get_elem_tactic_extensible; done)) | with_reducible apply V3.andE_go
  | ((with_reducible apply V3.orE_t); focus (get_elem_tactic_extensible; done)) | ((with_reducible apply V3.orE_f); focus (get_elem_tactic_extensible; done)) | with_reducible apply V3.orE_go
  | exact (rfl : V3.ret _ _ = _) | exact (rfl : V3.var _ _ = _) | exact (rfl : V3.own _ _ = _) | exact (rfl : V3.setI _ _ _ = _) | exact (rfl : List.set _ _ _ = _) | exact V3.setI_any rfl (by assumption) | exact (rfl : V3.resA _ _ = _) | exact (rfl : V3.slotL _ _ = _) | exact Eq.refl true
  | with_reducible assumption
  | exact V3.shb rfl
  | exact V3.cmp_t (decide_eq_true (by omega)) | exact V3.cmp_f (decide_eq_false (by omega)) | exact V3.eqI_t (by omega) | exact V3.eqI_f (by omega) | exact V3.neI_t (by omega) | exact V3.neI_f (by omega) | exact V3.modI (by decide)
  | exact (rfl : V3.addD _ _ = _) | exact (rfl : V3.subD _ _ = _) | exact (rfl : V3.negD _ = _) | exact (rfl : V3.notD _ = _) | exact (rfl : V3.cmpI _ _ _ = _) | exact (rfl : V3.lenD _ = _) | exact (rfl : V3.truD _ = _) | exact (rfl : V3.tupleD _ = _) | exact (rfl : V3.listD _ = _) | exact (rfl : V3.isiD _ _ = _) | exact (rfl : V3.isND _ _ = _) | exact (rfl : V3.isNotND _ _ = _)))
namespace K82
open PySem (Str sizeLine)
open V3 Pm
open L2 (ixN atI cutS)
open TL (tl spl numL joinL ext_tl tl_mk mk_tl len_tl tl_append tl_ofString)
open PySem.NumText (AllDigits digitsVal)
/-! Q25: what is read and what is due. -/
theorem try_ok {n : Str} {i : Nat} {x : Str} {b : Cm Fl} {f : Fl} {ρ ρ1 : Ev} (h : b ρ = .ok f ρ1) : tryC n i x b ρ = .ok f ρ1 := by unfold tryC; rw [h]
theorem try_exc {n : Str} {i : Nat} {x : Str} {b : Cm Fl} {ρ ρ1 : Ev} (h : b ρ = .exc n ρ1) (hi : ρ1[i]? = some .un) : tryC n i x b ρ = .ok (.rt (.str x)) ρ1 := by
  unfold tryC
  rw [h]
  dsimp only
  rw [if_pos rfl, hi]
abbrev noD : D := .str "NoText"
noncomputable def due (k : Nat) (l : List Nat) : D := match k with
  | 0 => match numO l with | some (a, b) => .tup [.int a, .int b] | none => noD
  | 1 => match polyO l with | some a => dP a | none => noD
  | _ => match quotO l with | some (t, b) => .tup [dP t, dP b] | none => noD
theorem R_read_poly_eq {l : List Nat} (hp : Pl l) (hl : l.length ≤ 600) : match polyO l with | some a => R_read_poly [T l] = .ok (dP a) [] | none => R_read_poly [T l] = .exc "NoText" [] := by
  have r := R_poly_in_eq hp hl
  have mt := R_must_t
  have s1 : exprS (callA R_must (consG (vl (op1 (isiD "str") (var 0))) (ret []))) [.im (T l)] = .ok .nx [.im (T l)] := by get_elem_tactic_extensible
  have u : R_read_poly [T l] = runD 1 1 m_read_poly [T l] := rfl
  rw [u]
  cases h : polyO l with
  | some a =>
    rw [h] at r
    exact run_ok (ρ' := [.im (T l)]) rfl (thenS_go s1 (retS_go (callA_go (consG_go (vl_go rfl) rfl) rfl (cok r) rfl)))
  | none =>
    rw [h] at r
    exact run_x (ρ' := [.im (T l)]) rfl (thenS_go s1 (retS_x (callA_x (consG_go (vl_go rfl) rfl) rfl (cex r))))
theorem R_read_quotient_eq {l : List Nat} (hp : Pl l) (hl : l.length ≤ 600) (F : FitT l) : match quotO l with | some (t, b) => R_read_quotient [T l] = .ok (.tup [dP t, dP b]) [] | none => R_read_quotient [T l] = .exc "NoText" [] := by
  have r := R_quotient_in_eq hp hl F
  have mt := R_must_t
  have s1 : exprS (callA R_must (consG (vl (op1 (isiD "str") (var 0))) (ret []))) [.im (T l)] = .ok .nx [.im (T l)] := by get_elem_tactic_extensible
  have u : R_read_quotient [T l] = runD 1 1 m_read_quotient [T l] := rfl
  rw [u]
  cases h : quotO l with
  | some a =>
    rw [h] at r
    exact run_ok (ρ' := [.im (T l)]) rfl (thenS_go s1 (retS_go (callA_go (consG_go (vl_go rfl) rfl) rfl (cok r) rfl)))
  | none =>
    rw [h] at r
    exact run_x (ρ' := [.im (T l)]) rfl (thenS_go s1 (retS_x (callA_x (consG_go (vl_go rfl) rfl) rfl (cex r))))
theorem R__law_read_gen {k : Nat} {x d : D} (hk : k < 3) (h : ∀ R, R = [R_read_number, R_read_poly, R_read_quotient][k]? → ∀ F, R = some F → (Cok F [x] d ∨ (Cex F [x] "NoText" ∧ d = noD))) : R__law_read [.int (k : Int), x] = .ok d [] := by
  have u : R__law_read [.int (k : Int), x] = runD 2 3 m__law_read [.int (k : Int), x] := rfl
  rw [u]
  refine run_ok (ρ' := [.im (.int (k : Int)), .im x, .un]) rfl ?_
  unfold m__law_read
  match k, hk with
  | 0, _ =>
    rcases h _ rfl _ rfl with hh | ⟨hh, e⟩
    · refine try_ok (thenS_r (ifS_gt (ρ1 := [.im (.int 0), .im x, .un]) (blE_go (op2_go rfl rfl (eqI_t rfl))) (retS_go (callA_go (consG_go (vl_go rfl) rfl) rfl hh rfl))))
    · subst e
      exact try_exc (thenS_x (ifS_gt (ρ1 := [.im (.int 0), .im x, .un]) (blE_go (op2_go rfl rfl (eqI_t rfl))) (retS_x (callA_x (consG_go (vl_go rfl) rfl) rfl hh)))) rfl
  | 1, _ =>
    have s0 : ifS (blE (op2 eqD (var 0) (ret (.int 0)))) (retS (callA R_read_number (consG (vl (var 1)) (ret [])))) skipS [.im (.int 1), .im x, .un] = .ok .nx [.im (.int 1), .im x, .un] := ifS_gf (blE_go (op2_go rfl rfl (eqI_f (by decide)))) rfl
    rcases h _ rfl _ rfl with hh | ⟨hh, e⟩
    · refine try_ok (thenS_go s0 (thenS_r (ifS_gt (ρ1 := [.im (.int 1), .im x, .un]) (blE_go (op2_go rfl rfl (eqI_t rfl))) (retS_go (callA_go (consG_go (vl_go rfl) rfl) rfl hh rfl)))))
    · subst e
      exact try_exc (thenS_go s0 (thenS_x (ifS_gt (ρ1 := [.im (.int 1), .im x, .un]) (blE_go (op2_go rfl rfl (eqI_t rfl))) (retS_x (callA_x (consG_go (vl_go rfl) rfl) rfl hh))))) rfl
  | 2, _ =>
    have s0 : ifS (blE (op2 eqD (var 0) (ret (.int 0)))) (retS (callA R_read_number (consG (vl (var 1)) (ret [])))) skipS [.im (.int 2), .im x, .un] = .ok .nx [.im (.int 2), .im x, .un] := ifS_gf (blE_go (op2_go rfl rfl (eqI_f (by decide)))) rfl
    have s1 : ifS (blE (op2 eqD (var 0) (ret (.int 1)))) (retS (callA R_read_poly (consG (vl (var 1)) (ret [])))) skipS [.im (.int 2), .im x, .un] = .ok .nx [.im (.int 2), .im x, .un] := ifS_gf (blE_go (op2_go rfl rfl (eqI_f (by decide)))) rfl
    rcases h _ rfl _ rfl with hh | ⟨hh, e⟩
    · refine try_ok (thenS_go s0 (thenS_go s1 (retS_go (callA_go (consG_go (vl_go rfl) rfl) rfl hh rfl))))
    · subst e
      exact try_exc (thenS_go s0 (thenS_go s1 (retS_x (callA_x (consG_go (vl_go rfl) rfl) rfl hh)))) rfl
theorem R__law_read_eq {k : Nat} {l : List Nat} (hk : k < 3) (hp : Pl l) (hl : l.length ≤ 600) (F : FitT l) : R__law_read [.int (k : Int), T l] = .ok (due k l) [] := by
  refine R__law_read_gen hk ?_
  match k, hk with
  | 0, _ =>
    rintro R rfl F e
    cases e
    have r := R_read_number_eq hp hl
    unfold due
    cases h : numO l with
    | some a => rw [h] at r; exact .inl (cok r)
    | none => rw [h] at r; exact .inr ⟨cex r, rfl⟩
  | 1, _ =>
    rintro R rfl F e
    cases e
    have r := R_read_poly_eq hp hl
    unfold due
    cases h : polyO l with
    | some a => rw [h] at r; exact .inl (cok r)
    | none => rw [h] at r; exact .inr ⟨cex r, rfl⟩
  | 2, _ =>
    rintro R rfl F' e
    cases e
    have r := R_read_quotient_eq hp hl F
    unfold due
    cases h : quotO l with
    | some a => rw [h] at r; exact .inl (cok r)
    | none => rw [h] at r; exact .inr ⟨cex r, rfl⟩
/-- what is no text is refused -/
theorem R__law_read_odd {k : Nat} {x : D} (hk : k < 3) (hx : isiD "str" x = some (.bl false)) : R__law_read [.int (k : Int), x] = .ok noD [] := by
  have mf := R_must_f
  refine R__law_read_gen hk ?_
  match k, hk with
  | 0, _ =>
    rintro R rfl F e
    cases e
    exact .inr ⟨cex (run_x (np := 1) (N := 4) (m := m_read_number) (ds := [x]) (ρ' := [.im x, .un, .un, .un]) rfl (thenS_x (exprS_x (callA_x (consG_go (vl_go (op1_go rfl hx)) rfl) rfl mf)))), rfl⟩
  | 1, _ =>
    rintro R rfl F e
    cases e
    exact .inr ⟨cex (run_x (np := 1) (N := 1) (m := m_read_poly) (ds := [x]) (ρ' := [.im x]) rfl (thenS_x (exprS_x (callA_x (consG_go (vl_go (op1_go rfl hx)) rfl) rfl mf)))), rfl⟩
  | 2, _ =>
    rintro R rfl F' e
    cases e
    exact .inr ⟨cex (run_x (np := 1) (N := 1) (m := m_read_quotient) (ds := [x]) (ρ' := [.im x]) rfl (thenS_x (exprS_x (callA_x (consG_go (vl_go (op1_go rfl hx)) rfl) rfl mf)))), rfl⟩
theorem pick_go {Fs : List (List D → Rs D)} {i j : Nat} {fk : Cm D} {fa : Cm (List D)} {ρ ρ1 ρ2 ρ3 ρ4 : Ev} {k : Nat} {F : List D → Rs D} {ds : List D} {d : D} (h : fk ρ = .ok (.int (k : Int)) ρ1) (hi : ρ1[i]? = some .un) (hF : Fs[k]? = some F) (ha : fa ρ1 = .ok ds ρ2) (hR : F ds = .ok d ρ4) (hs : setI j d ρ2 = .ok () ρ3) :
    pickS Fs i j fk fa ρ = .ok .nx ρ3 := by
  unfold pickS
  rw [b_ok h, b_ok (l_ok (show dInt (.int (k : Int)) = some (k : Int) from rfl))]
  unfold pick1
  rw [hi, Int.toNat_natCast, hF]
  dsimp only
  rw [if_pos (Int.natCast_nonneg k), b_ok ha]
  unfold pick2
  rw [hR]
  dsimp only
  rw [b_ok hs]
  rfl
theorem R__law_due_eq {k : Nat} {l : List Nat} (hk : k < 3) (hp : Pl l) (hl : l.length ≤ 600) (F : FitT l) : R__law_due [.int (k : Int), T l] = .ok (due k l) [] := by
  have u : R__law_due [.int (k : Int), T l] = runD 2 4 m__law_due [.int (k : Int), T l] := rfl
  rw [u]
  have key : ∃ G z, [R__law_number_in, R__law_poly_in, R__law_quotient_in][k]? = some G ∧ G [T l] = .ok z [] ∧ due k l = (if isNone z = true then noD else z) := by
    match k, hk with
    | 0, _ => exact ⟨_, _, rfl, R__law_number_in_eq hp hl, by unfold due nD; cases h : numO l <;> rfl⟩
    | 1, _ => exact ⟨_, _, rfl, R__law_poly_in_eq hp hl, by unfold due pD; cases h : polyO l <;> rfl⟩
    | 2, _ => exact ⟨_, _, rfl, R__law_quotient_in_eq hp hl F, by unfold due qD; cases h : quotO l <;> rfl⟩
  obtain ⟨G, z, h1, h2, h3⟩ := key
  refine run_ok (ρ' := [.im (.int (k : Int)), .im (T l), .un, .im z]) rfl ?_
  unfold m__law_due
  refine thenS_go (ρ1 := [.im (.int (k : Int)), .im (T l), .un, .im z]) (pick_go (ρ1 := [.im (.int (k : Int)), .im (T l), .un, .un]) rfl rfl h1 rfl h2 rfl) (retS_go ?_)
  rw [h3]
  cases hz : isNone z with
  | true =>
    exact ifE_gf (ρ1 := [.im (.int (k : Int)), .im (T l), .un, .im z]) (blE_go (op2_go (d := z) (e := .non) rfl rfl (by show some (D.bl (!isNone z)) = _; rw [hz]; rfl))) rfl
  | false =>
    exact ifE_gt (ρ1 := [.im (.int (k : Int)), .im (T l), .un, .im z]) (blE_go (op2_go (d := z) (e := .non) rfl rfl (by show some (D.bl (!isNone z)) = _; rw [hz]; rfl))) rfl
end K82
end

section
set_option Elab.async false
set_option linter.all false
set_option maxRecDepth 100000
set_option maxHeartbeats 1000000
open V3
local macro_rules | `(tactic| get_elem_tactic_extensible) => `(tactic| repeat' (first
  | with_reducible first
    | exact V3.skipS_go | exact V3.raiseS_go | exact V3.partN_go
    | apply V3.thenS_go | apply V3.asgS_go | apply V3.retS_go | apply V3.exprS_go | apply V3.op2_go | apply V3.op1_go | apply V3.vl_go | apply V3.consG_go | apply V3.consA_go | apply V3.opA_go | apply V3.op2g_go
    | apply V3.callN_go | apply V3.callL_gs | apply V3.callA_go | apply V3.tupE_go | apply V3.lstE_go | apply V3.dispF_go | apply V3.lsE_go | apply V3.tst_go | apply V3.blE_go | apply V3.m1_go | apply V3.partS_go | apply V3.slE_go
    | apply V3.parS_go | apply V3.retF_go | apply V3.repF_go | apply V3.lrgF_go | apply V3.tupS_go | apply V3.lstS_go | apply V3.strS_go | apply V3.rng1S_go | apply V3.forS_go | apply V3.augN_go | apply V3.setIx_gs | apply V3.asgO_go
  | ((with_reducible apply V3.ifS_gt); focus (get_elem_tactic_extensible; done)) | ((with_reducible apply V3.ifS_gf); focus (get_elem_tactic_extensible; done))
  | ((with_reducible apply V3.ifE_gt); focus (get_elem_tactic_extensible; done)) | ((with_reducible apply V3.ifE_gf); focus (get_elem_tactic_extensible; done))
  | ((with_reducible apply V3.andT_f); focus (get_elem_tactic_extensible; done)) | ((with_reducible apply V3.andT_t); focus (get_elem_tactic_extensible; done)) | with_reducible apply V3.andT_go
  | ((with_reducible apply V3.notT_f); focus (get_elem_tactic_extensible; done)) | ((with_reducible apply V3.notT_t); focus (get_elem_tactic_extensible; done)) | with_reducible apply V3.notT_go
  | ((with_reducible apply V3.orT_t); focus (get_elem_tactic_extensible; done)) | ((with_reducible apply V3.orT_f); focus (get_elem_tactic_extensible; done)) | with_reducible apply V3.orT_go
  | ((with_reducible apply V3.andE_f); focus (get_elem_tactic_extensible; done)) | ((with_reducible apply V3.andE_t); focus (get_elem_tactic_extensible; done)) | with_reducible apply V3.andE_go
  | ((with_reducible apply V3.orE_t); focus (get_elem_tactic_extensible; done)) | ((with_reducible apply V3.orE_f); focus (get_elem_tactic_extensible; done)) | with_reducible apply V3.orE_go
  | exact (rfl : V3.ret _ _ = _) | exact (rfl : V3.var _ _ = _) | exact (rfl : V3.own _ _ = _) | exact (rfl : V3.setI _ _ _ = _) | exact (rfl : List.set _ _ _ = _) | exact V3.setI_any rfl (by assumption) | exact (rfl : V3.resA _ _ = _) | exact (rfl : V3.slotL _ _ = _) | exact Eq.refl true
  | with_reducible assumption
  | exact V3.shb rfl
  | exact V3.cmp_t (decide_eq_true (by omega)) | exact V3.cmp_f (decide_eq_false (by omega)) | exact V3.eqI_t (by omega) | exact V3.eqI_f (by omega) | exact V3.neI_t (by omega) | exact V3.neI_f (by omega) | exact V3.modI (by decide)
  | exact (rfl : V3.addD _ _ = _) | exact (rfl : V3.subD _ _ = _) | exact (rfl : V3.negD _ = _) | exact (rfl : V3.notD _ = _) | exact (rfl : V3.cmpI _ _ _ = _) | exact (rfl : V3.lenD _ = _) | exact (rfl : V3.truD _ = _) | exact (rfl : V3.tupleD _ = _) | exact (rfl : V3.listD _ = _) | exact (rfl : V3.isiD _ _ = _) | exact (rfl : V3.isND _ _ = _) | exact (rfl : V3.isNotND _ _ = _)))
namespace K82
open PySem (Str sizeLine)
open V3 Pm
open L2 (ixN atI cutS)
open TL (tl spl numL joinL ext_tl tl_mk mk_tl len_tl tl_append tl_ofString)
open PySem.NumText (AllDigits digitsVal)
/-! Q26: texts that are written, and read back. -/
def numT (t b : Int) : List Nat := if b = 1 then showI t else showI t ++ (47 :: showI b)
def polyT (a : P) : List Nat := if a = [] then [48] else joinL [32] (a.map showI)
def quotT (t b : P) : List Nat := if b = [1] then polyT t else polyT t ++ ([32, 47, 32] ++ polyT b)
theorem numL_head {n : Nat} : 0 < n → (numL n).take 1 ≠ [48] := by
  induction n using Nat.strongRecOn with
  | _ n ih =>
    intro h
    by_cases h9 : n < 10
    · rw [TL.numL_lt h9]
      intro e
      have := (List.cons.inj e).1
      omega
    · rw [TL.numL_step (by omega)]
      have := ih (n / 10) (by omega) (by omega)
      have hn := TL.numL_ne (n / 10)
      cases h2 : numL (n / 10) with
      | nil => exact absurd h2 hn
      | cons c r =>
        rw [h2] at this
        simpa using this
theorem numL_take {n : Nat} : (numL n).take 1 ≠ [45] := fun e => by
  have h := TL.numL_free (n := n) (s := 45) (.inl (by decide))
  have : 45 ∈ (numL n).take 1 := by rw [e]; simp
  exact h (List.mem_of_mem_take this)
theorem figs_show (i : Int) : figs (showI i) = numL i.natAbs := by
  unfold showI figs
  by_cases h : i < 0
  · rw [if_pos h]
    show (if (45 :: numL i.natAbs).take 1 = [45] then _ else _) = _
    have e45 : List.take 1 (45 :: numL i.natAbs) = [45] := rfl
    rw [if_pos e45]
    rfl
  · rw [if_neg h, if_neg numL_take]
theorem digs_of {l : List Nat} (h : AllDigits l) : digs l = true := List.all_eq_true.mpr fun c hc => by
  have := h c hc
  simp [this]
theorem wok_show (i : Int) : wok (showI i) = true := by
  unfold wok
  rw [figs_show, digs_of (TL.numL_digits _), decide_eq_false (TL.numL_ne _)]
  by_cases h : i = 0
  · subst h
    decide
  · rw [decide_eq_false (numL_head (by omega))]
    rfl
theorem wval_show (i : Int) : wval (showI i) = i := by
  unfold wval
  rw [figs_show, TL.numL_val]
  unfold showI
  by_cases h : i < 0
  · rw [if_pos h]
    show (if (45 :: numL i.natAbs).take 1 = [45] then _ else _) = _
    have e45 : List.take 1 (45 :: numL i.natAbs) = [45] := rfl
    rw [if_pos e45]
    omega
  · rw [if_neg h, if_neg numL_take]
    omega
theorem show_mem {i : Int} {c : Nat} (h : c ∈ showI i) : c = 45 ∨ (48 ≤ c ∧ c ≤ 57) := by
  unfold showI at h
  split at h
  · rcases List.mem_cons.mp h with e | h
    · exact .inl e
    · exact .inr (TL.numL_digits _ c h)
  · exact .inr (TL.numL_digits _ c h)
theorem show_free {i : Int} {s : Nat} (h : s ≠ 45 ∧ (s < 48 ∨ 57 < s)) : s ∉ showI i := fun hm => by
  have := show_mem hm
  omega
theorem show_pl (i : Int) : Pl (showI i) := fun c hc => by have := show_mem hc; omega
theorem show_ne (i : Int) : showI i ≠ [] := by
  unfold showI
  split
  · simp
  · exact TL.numL_ne _
theorem show_len {i : Int} {k : Nat} (hk : 0 < k) (h : i.natAbs < 10 ^ k) : (showI i).length ≤ k + 1 := by
  have := TL.numL_len hk h
  unfold showI
  split
  · simp; omega
  · omega
theorem joinL_mem {s : List Nat} : ∀ {ps : List (List Nat)} {c : Nat}, c ∈ joinL s ps → c ∈ s ∨ ∃ p ∈ ps, c ∈ p
  | [], c, h => by cases h
  | [p], c, h => .inr ⟨p, by simp, h⟩
  | p :: q :: r, c, h => by
    have h : c ∈ p ++ (s ++ joinL s (q :: r)) := h
    rcases List.mem_append.mp h with h | h
    · exact .inr ⟨p, by simp, h⟩
    · rcases List.mem_append.mp h with h | h
      · exact .inl h
      · rcases joinL_mem h with h | ⟨z, hz, h⟩
        · exact .inl h
        · exact .inr ⟨z, List.mem_cons_of_mem _ hz, h⟩
theorem poly_mem {a : P} {c : Nat} (h : c ∈ polyT a) : c = 32 ∨ c = 45 ∨ (48 ≤ c ∧ c ≤ 57) := by
  unfold polyT at h
  split at h
  · rw [List.mem_singleton] at h; omega
  · rcases joinL_mem h with h | ⟨p, hp, h⟩
    · rw [List.mem_singleton] at h; exact .inl h
    · obtain ⟨i, _, rfl⟩ := List.mem_map.mp hp
      exact .inr (show_mem h)
theorem numT_pl (t b : Int) : Pl (numT t b) := by
  unfold numT
  split
  · exact show_pl t
  · intro c hc
    rcases List.mem_append.mp hc with h | h
    · exact show_pl t c h
    · rcases List.mem_cons.mp h with h | h
      · omega
      · exact show_pl b c h
theorem polyT_pl (a : P) : Pl (polyT a) := fun c hc => by have := poly_mem hc; omega
theorem quotT_pl (t b : P) : Pl (quotT t b) := by
  unfold quotT
  split
  · exact polyT_pl t
  · intro c hc
    rcases List.mem_append.mp hc with h | h
    · exact polyT_pl t c h
    · rcases List.mem_append.mp h with h | h
      · simp at h; omega
      · exact polyT_pl b c h
/-! read back -/
theorem numO_T {t b : Int} (hb : 1 ≤ b) (hg : Int.gcd t b = 1) : numO (numT t b) = some (t, b) := by
  unfold numT numO
  by_cases h : b = 1
  · rw [if_pos h]
    have e : spl [47] 0 [] (showI t) = [showI t] := by
      rw [TL.spl_last1 (show_free (by decide)), List.nil_append]
    rw [e]
    dsimp only
    rw [if_pos (wok_show t), wval_show, h]
  · rw [if_neg h]
    have e : spl [47] 0 [] (showI t ++ (47 :: showI b)) = [showI t, showI b] := by
      have := TL.spl_part1 (s := 47) (S := []) (p := showI t) (rest := showI b) (acc := []) (show_free (by decide))
      show spl [47] 0 [] (showI t ++ ([47] ++ showI b)) = _
      rw [this, TL.spl_last1 (show_free (by decide)), List.nil_append, List.nil_append]
    rw [e]
    dsimp only
    rw [wval_show, wval_show, if_pos ⟨⟨wok_show t, wok_show b⟩, by omega, hg⟩]
theorem words_T {a : P} (h : a ≠ []) : words (joinL [32] (a.map showI)) = a.map showI :=
  TL.spl_join (fun e => h (List.map_eq_nil_iff.mp e)) fun p hp => by
    obtain ⟨i, _, rfl⟩ := List.mem_map.mp hp
    exact show_free (by decide)
theorem polyO_T {a : P} (ha : Tr a) : polyO (polyT a) = some a := by
  unfold polyT
  by_cases h : a = []
  · rw [if_pos h, h]; rfl
  · rw [if_neg h]
    have e := words_T h
    have ev : (a.map showI).map wval = a := by
      rw [List.map_map]
      have : (wval ∘ showI) = id := by funext i; exact wval_show i
      rw [this, List.map_id]
    have hall : (a.map showI).all wok = true := List.all_eq_true.mpr fun w hw => by
      obtain ⟨i, _, rfl⟩ := List.mem_map.mp hw
      exact wok_show i
    have hn : joinL [32] (a.map showI) ≠ [48] := fun e2 => by
      rw [e2] at e
      have e3 : words [48] = [[48]] := by decide
      rw [e3] at e
      have e4 := congrArg (List.map wval) e
      rw [ev] at e4
      have := ha.ld h
      rw [← e4] at this
      exact this (by decide)
    unfold polyO
    rw [if_neg hn, e, if_pos ⟨hall, by rw [ev]; exact ha.ld h⟩, ev]
theorem pre_bar {l : List Nat} (h : TL.pre [32, 47, 32] l = true) : ∃ r, l = 32 :: 47 :: 32 :: r := by
  unfold TL.pre at h
  have h := eq_of_beq h
  match l, h with
  | a :: b :: c :: r, h =>
    simp at h
    exact ⟨r, by rw [h.1, h.2.1, h.2.2]⟩
theorem no_bar {p : List Nat} (h : 47 ∉ p) : ∀ i, i < p.length → TL.pre [32, 47, 32] (p.drop i) = false := fun i hi => by
  cases hb : TL.pre [32, 47, 32] (p.drop i) with
  | false => rfl
  | true =>
    obtain ⟨r, e⟩ := pre_bar hb
    exact absurd (List.mem_of_mem_drop (by rw [e]; simp : 47 ∈ p.drop i)) h
theorem no_bar2 {p rest : List Nat} (h : 47 ∉ p) : ∀ i, i < p.length → TL.pre [32, 47, 32] ((p ++ ([32, 47, 32] ++ rest)).drop i) = false := fun i hi => by
  cases hb : TL.pre [32, 47, 32] ((p ++ ([32, 47, 32] ++ rest)).drop i) with
  | false => rfl
  | true =>
    obtain ⟨r, e⟩ := pre_bar hb
    exfalso
    have h1 : (p ++ ([32, 47, 32] ++ rest))[i + 1]? = some 47 := by
      have := congrArg (fun z : List Nat => z[1]?) e
      simpa [List.getElem?_drop] using this
    by_cases hi2 : i + 1 < p.length
    · rw [List.getElem?_append_left hi2] at h1
      exact h (List.mem_of_getElem? h1)
    · rw [List.getElem?_append_right (by omega)] at h1
      have : i + 1 - p.length = 0 := by omega
      rw [this] at h1
      simp at h1
theorem parts_one {t : P} : parts2 (polyT t) = [polyT t] := by
  show spl _ 0 [] _ = _
  rw [TL.spl_last (no_bar fun h => by have := poly_mem h; omega), List.nil_append]
theorem parts_two {t b : P} : parts2 (polyT t ++ ([32, 47, 32] ++ polyT b)) = [polyT t, polyT b] := by
  show spl _ 0 [] _ = _
  have h1 : ∀ a : P, 47 ∉ polyT a := fun a h => by have := poly_mem h; omega
  rw [TL.spl_part (by simp) (no_bar2 (h1 t)), TL.spl_last (no_bar (h1 b)), List.nil_append, List.nil_append]
theorem quotO_T {t b : P} (ht : Tr t) (hb : Tr b) (h : IsQ t b) : quotO (quotT t b) = some (t, b) := by
  unfold quotT quotO
  by_cases h1 : b = [1]
  · rw [if_pos h1, parts_one]
    dsimp only
    rw [polyO_T ht]
    dsimp only
    rw [h1] at h
    rw [if_pos h, h1]
  · rw [if_neg h1, parts_two]
    dsimp only
    rw [polyO_T ht, polyO_T hb]
    dsimp only
    rw [if_pos ⟨h1, h⟩]
end K82
end

section
set_option Elab.async false
set_option linter.all false
set_option maxRecDepth 100000
set_option maxHeartbeats 1000000
open V3
local macro_rules | `(tactic| get_elem_tactic_extensible) => `(tactic| repeat' (first
  | with_reducible first
    | exact V3.skipS_go | exact V3.raiseS_go | exact V3.partN_go
    | apply V3.thenS_go | apply V3.asgS_go | apply V3.retS_go | apply V3.exprS_go | apply V3.op2_go | apply V3.op1_go | apply V3.vl_go | apply V3.consG_go | apply V3.consA_go | apply V3.opA_go | apply V3.op2g_go
    | apply V3.callN_go | apply V3.callL_gs | apply V3.callA_go | apply V3.tupE_go | apply V3.lstE_go | apply V3.dispF_go | apply V3.lsE_go | apply V3.tst_go | apply V3.blE_go | apply V3.m1_go | apply V3.partS_go | apply V3.slE_go
    | apply V3.parS_go | apply V3.retF_go | apply V3.repF_go | apply V3.lrgF_go | apply V3.tupS_go | apply V3.lstS_go | apply V3.strS_go | apply V3.rng1S_go | apply V3.forS_go | apply V3.augN_go | apply V3.setIx_gs | apply V3.asgO_go
  | ((with_reducible apply V3.ifS_gt); focus (get_elem_tactic_extensible; done)) | ((with_reducible apply V3.ifS_gf); focus (get_elem_tactic_extensible; done))
  | ((with_reducible apply V3.ifE_gt); focus (get_elem_tactic_extensible; done)) | ((with_reducible apply V3.ifE_gf); focus (get_elem_tactic_extensible; done))
  | ((with_reducible apply V3.andT_f); focus (get_elem_tactic_extensible; done)) | ((with_reducible apply V3.andT_t); focus (get_elem_tactic_extensible; done)) | with_reducible apply V3.andT_go
  | ((with_reducible apply V3.notT_f); focus (get_elem_tactic_extensible; done)) | ((with_reducible apply V3.notT_t); focus (get_elem_tactic_extensible; done)) | with_reducible apply V3.notT_go
  | ((with_reducible apply V3.orT_t); focus (get_elem_tactic_extensible; done)) | ((with_reducible apply V3.orT_f); focus (get_elem_tactic_extensible; done)) | with_reducible apply V3.orT_go
  | ((with_reducible apply V3.andE_f); focus (get_elem_tactic_extensible; done)) | ((with_reducible apply V3.andE_t); focus (get_elem_tactic_extensible; done)) | with_reducible apply V3.andE_go
  | ((with_reducible apply V3.orE_t); focus (get_elem_tactic_extensible; done)) | ((with_reducible apply V3.orE_f); focus (get_elem_tactic_extensible; done)) | with_reducible apply V3.orE_go
  | exact (rfl : V3.ret _ _ = _) | exact (rfl : V3.var _ _ = _) | exact (rfl : V3.own _ _ = _) | exact (rfl : V3.setI _ _ _ = _) | exact (rfl : List.set _ _ _ = _) | exact V3.setI_any rfl (by assumption) | exact (rfl : V3.resA _ _ = _) | exact (rfl : V3.slotL _ _ = _) | exact Eq.refl true
  | with_reducible assumption
  | exact V3.shb rfl
  | exact V3.cmp_t (decide_eq_true (by omega)) | exact V3.cmp_f (decide_eq_false (by omega)) | exact V3.eqI_t (by omega) | exact V3.eqI_f (by omega) | exact V3.neI_t (by omega) | exact V3.neI_f (by omega) | exact V3.modI (by decide)
  | exact (rfl : V3.addD _ _ = _) | exact (rfl : V3.subD _ _ = _) | exact (rfl : V3.negD _ = _) | exact (rfl : V3.notD _ = _) | exact (rfl : V3.cmpI _ _ _ = _) | exact (rfl : V3.lenD _ = _) | exact (rfl : V3.truD _ = _) | exact (rfl : V3.tupleD _ = _) | exact (rfl : V3.listD _ = _) | exact (rfl : V3.isiD _ _ = _) | exact (rfl : V3.isND _ _ = _) | exact (rfl : V3.isNotND _ _ = _)))
namespace K82
open PySem (Str sizeLine)
open V3 Pm
open L2 (ixN atI cutS)
open TL (tl spl numL joinL ext_tl tl_mk mk_tl len_tl tl_append tl_ofString)
open PySem.NumText (AllDigits digitsVal)
/-! Q27: what is written. -/
theorem ten_1900 {i : Int} (h : i.natAbs < 10 ^ 100) : i.natAbs < 2 ^ 1900 :=
  Nat.lt_of_lt_of_le h (Nat.le_trans (ten_two 100) (Nat.pow_le_pow_right (by decide) (by decide)))
theorem numBody {t b : Int} {ρ : Ev} (h0 : ρ[0]? = some (.im (.tup [.int t, .int b]))) (ht : t.natAbs < 10 ^ 100) (hb : b.natAbs < 10 ^ 100) :
    ifE (blE (op2 eqD (op2 ixD (var 0) (ret (.int 1))) (ret (.int 1)))) (opA strD (consG (vl (op2 ixD (var 0) (ret (.int 0)))) (ret []))) (op2 addD (op2 addD (opA strD (consG (vl (op2 ixD (var 0) (ret (.int 0)))) (ret []))) (ret (.str "/"))) (opA strD (consG (vl (op2 ixD (var 0) (ret (.int 1)))) (ret [])))) ρ = .ok (T (numT t b)) ρ := by
  have v0 : var 0 ρ = .ok (.tup [.int t, .int b]) ρ := by unfold var; rw [h0]
  have i0 : ixD (.tup [.int t, .int b]) (.int 0) = some (.int t) := rfl
  have i1 : ixD (.tup [.int t, .int b]) (.int 1) = some (.int b) := rfl
  have s0 := strT (ten_1900 ht)
  have s1 := strT (ten_1900 hb)
  have l0 := show_len (k := 100) (by decide) ht
  have l1 := show_len (k := 100) (by decide) hb
  have w0 : opA strD (consG (vl (op2 ixD (var 0) (ret (.int 0)))) (ret [])) ρ = .ok (T (showI t)) ρ := opA_go (consG_go (vl_go (op2_go v0 rfl i0)) rfl) rfl s0 rfl
  have w1 : opA strD (consG (vl (op2 ixD (var 0) (ret (.int 1)))) (ret [])) ρ = .ok (T (showI b)) ρ := opA_go (consG_go (vl_go (op2_go v0 rfl i1)) rfl) rfl s1 rfl
  unfold numT
  by_cases h : b = 1
  · rw [if_pos h]
    exact ifE_gt (blE_go (op2_go (op2_go v0 rfl i1) rfl (eqI_t h))) w0
  · rw [if_neg h]
    have a1 : addD (T (showI t)) (.str "/") = some (T (showI t ++ [47])) := by rw [lit_stroke]; exact addT (by simp; omega)
    have a2 : addD (T (showI t ++ [47])) (T (showI b)) = some (T (showI t ++ [47] ++ showI b)) := addT (by simp; omega)
    have e : showI t ++ (47 :: showI b) = showI t ++ [47] ++ showI b := by simp
    rw [e]
    exact ifE_gf (blE_go (op2_go (op2_go v0 rfl i1) rfl (eqI_f h))) (op2_go (op2_go w0 rfl a1) w1 a2)
theorem R_show_number_eq {t b : Int} (ht : t.natAbs < 10 ^ 100) (hb : b.natAbs < 10 ^ 100) : R_show_number [.tup [.int t, .int b]] = .ok (T (numT t b)) [] :=
  run_ok (np := 1) (N := 1) (m := m_show_number) (ds := [.tup [.int t, .int b]]) rfl (retS_go (numBody (ρ := [.im (.tup [.int t, .int b])]) rfl ht hb))
theorem R__law_number_text_eq {t b : Int} (ht : t.natAbs < 10 ^ 100) (hb : b.natAbs < 10 ^ 100) : R__law_number_text [.tup [.int t, .int b]] = .ok (T (numT t b)) [] :=
  run_ok (np := 1) (N := 1) (m := m__law_number_text) (ds := [.tup [.int t, .int b]]) rfl (retS_go (numBody (ρ := [.im (.tup [.int t, .int b])]) rfl ht hb))
/-- figures of texts -/
def Sm (a : P) : Prop := a.length ≤ 100 ∧ ∀ x ∈ a, x.natAbs < 10 ^ 100
theorem sum_show : ∀ {a : P}, (∀ x ∈ a, x.natAbs < 10 ^ 100) → ((a.map showI).map (·.length)).sum ≤ 101 * a.length
  | [], _ => by simp
  | x :: a, h => by
    have h1 := show_len (k := 100) (by decide) (h x (List.mem_cons_self ..))
    have h2 := sum_show (a := a) fun y hy => h y (List.mem_cons_of_mem _ hy)
    simp at h2 ⊢
    omega
theorem joinL_len {s : List Nat} : ∀ (ps : List (List Nat)), (joinL s ps).length + s.length = (ps.map (·.length)).sum + ps.length * s.length ∨ ps = []
  | [] => .inr rfl
  | [p] => .inl (by simp [joinL])
  | p :: q :: r => .inl (by
    have h := joinL_len (s := s) (q :: r)
    rcases h with h | h
    · have e : joinL s (p :: q :: r) = p ++ (s ++ joinL s (q :: r)) := rfl
      rw [e]
      simp [Nat.add_mul] at h ⊢
      omega
    · cases h)
theorem polyT_len {a : P} (h : Sm a) : (polyT a).length ≤ 102 * a.length + 1 := by
  unfold polyT
  split
  · simp
  · have h1 := sum_show h.2
    rcases joinL_len (s := [32]) (a.map showI) with h2 | h2
    · simp at h1 h2 ⊢
      omega
    · rw [h2]; simp [joinL]
theorem polyBody {a : P} (h : Sm a) {el : Cm D} (hel : el = opA strD (consG (vl (var 1)) (ret []))) :
    ifE (blE (op2 neD (var 0) (tupE (ret [])))) (m1 (fun s => joinD (.str s)) (ret (.str " ")) (lsE (lcE [1] (tupS (var 0)) (setI 1) (ret true) el))) (ret (.str "0")) [.im (dP a), .un] = .ok (T (polyT a)) [.im (dP a), .un] := by
  have ne : neD (dP a) (.tup []) = some (.bl (!decide (a = []))) := neD_dP a []
  unfold polyT
  by_cases h0 : a = []
  · rw [if_pos h0, ← lit_zero]
    rw [decide_eq_true h0] at ne
    exact ifE_gf (blE_go (op2_go rfl (tupE_go rfl (shb rfl)) ne)) rfl
  · rw [if_neg h0]
    rw [decide_eq_false h0] at ne
    have hl := h.1
    have z := lcT (k := 1) (ρ := [.im (dP a), .un]) (el := el) (f := fun d => match d with | .int i => T (showI i) | d => d) (ds := a.map .int) rfl (by simp) (fun ds z => by simp at z) (fun d hd => by
      obtain ⟨i, hi, rfl⟩ := List.mem_map.mp hd
      have s0 := strT (ten_1900 (h.2 i hi))
      rw [hel]
      exact opA_go (consG_go (vl_go (d := .int i) rfl) rfl) rfl s0 rfl) (by rw [List.length_map]; exact len_line (by omega))
    have em : (a.map D.int).map (fun d => match d with | .int i => T (showI i) | d => d) = (a.map showI).map T := by rw [List.map_map, List.map_map]; rfl
    rw [em] at z
    have j : joinD (.str " ") (.lst ((a.map showI).map T)) = some (T (joinL [32] (a.map showI))) := by
      rw [lit_blank]
      refine joinT ?_
      have := sum_show h.2
      simp at this ⊢
      omega
    exact ifE_gt (ρ1 := [.im (dP a), .un]) (blE_go (op2_go rfl (tupE_go rfl (shb rfl)) ne)) (m1_go (s := Str.ofString " ") rfl (lsE_go z) j)
theorem R_show_poly_eq {a : P} (h : Sm a) : R_show_poly [dP a] = .ok (T (polyT a)) [] :=
  run_ok (np := 1) (N := 2) (m := m_show_poly) (ds := [dP a]) rfl (retS_go (polyBody h (el := show_poly_l1e) rfl))
theorem R__law_poly_text_eq {a : P} (h : Sm a) : R__law_poly_text [dP a] = .ok (T (polyT a)) [] :=
  run_ok (np := 1) (N := 2) (m := m__law_poly_text) (ds := [dP a]) rfl (retS_go (polyBody h (el := _law_poly_text_l1e) rfl))
theorem quotBody {R : List D → Rs D} {t b : P} (ht : Sm t) (hb : Sm b) (k1 : Cok R [dP t] (T (polyT t))) (k2 : Cok R [dP b] (T (polyT b))) :
    (b = [1] → callA R (consG (vl (op2 ixD (var 0) (ret (.int 0)))) (ret [])) [.im (.tup [dP t, dP b])] = .ok (T (quotT t b)) [.im (.tup [dP t, dP b])]) ∧
    (b ≠ [1] → op2 addD (op2 addD (callA R (consG (vl (op2 ixD (var 0) (ret (.int 0)))) (ret []))) (ret (.str " / "))) (callA R (consG (vl (op2 ixD (var 0) (ret (.int 1)))) (ret []))) [.im (.tup [dP t, dP b])] = .ok (T (quotT t b)) [.im (.tup [dP t, dP b])]) := by
  have i0 : ixD (.tup [dP t, dP b]) (.int 0) = some (dP t) := rfl
  have i1 : ixD (.tup [dP t, dP b]) (.int 1) = some (dP b) := rfl
  have c0 : callA R (consG (vl (op2 ixD (var 0) (ret (.int 0)))) (ret [])) [.im (.tup [dP t, dP b])] = .ok (T (polyT t)) [.im (.tup [dP t, dP b])] := callA_go (consG_go (vl_go (op2_go rfl rfl i0)) rfl) rfl k1 rfl
  have c1 : callA R (consG (vl (op2 ixD (var 0) (ret (.int 1)))) (ret [])) [.im (.tup [dP t, dP b])] = .ok (T (polyT b)) [.im (.tup [dP t, dP b])] := callA_go (consG_go (vl_go (op2_go rfl rfl i1)) rfl) rfl k2 rfl
  have l0 := polyT_len ht
  have l1 := polyT_len hb
  have l2 := ht.1
  have l3 := hb.1
  unfold quotT
  constructor
  · intro h
    rw [if_pos h]
    exact c0
  · intro h
    rw [if_neg h]
    have a1 : addD (T (polyT t)) (.str " / ") = some (T (polyT t ++ [32, 47, 32])) := by rw [lit_bar]; exact addT (by simp; omega)
    have a2 : addD (T (polyT t ++ [32, 47, 32])) (T (polyT b)) = some (T (polyT t ++ [32, 47, 32] ++ polyT b)) := addT (by simp; omega)
    rw [List.append_assoc] at a2
    exact op2_go (op2_go c0 rfl a1) c1 a2
theorem quotTest {t b : P} : blE (op2 eqD (op2 ixD (var 0) (ret (.int 1))) (tupE (consA (ret (.int 1)) (ret [])))) [.im (.tup [dP t, dP b])] = .ok (decide (b = [1])) [.im (.tup [dP t, dP b])] :=
  blE_go (op2_go (op2_go (d := .tup [dP t, dP b]) rfl rfl (show _ = some (dP b) from rfl)) (tupE_go rfl (shb rfl)) (eqD_dP b [1]))
theorem R_show_quotient_eq {t b : P} (ht : Sm t) (hb : Sm b) : R_show_quotient [.tup [dP t, dP b]] = .ok (T (quotT t b)) [] := by
  have hc := quotTest (t := t) (b := b)
  obtain ⟨q1, q2⟩ := quotBody ht hb (cok (R_show_poly_eq ht)) (cok (R_show_poly_eq hb))
  refine run_ok (np := 1) (N := 1) (m := m_show_quotient) (ds := [.tup [dP t, dP b]]) (ρ' := [.im (.tup [dP t, dP b])]) rfl (retS_go ?_)
  by_cases h : b = [1]
  · rw [decide_eq_true h] at hc
    exact ifE_gt hc (q1 h)
  · rw [decide_eq_false h] at hc
    exact ifE_gf hc (q2 h)
theorem R__law_quotient_text_eq {t b : P} (ht : Sm t) (hb : Sm b) : R__law_quotient_text [.tup [dP t, dP b]] = .ok (T (quotT t b)) [] := by
  have hc := quotTest (t := t) (b := b)
  obtain ⟨q1, q2⟩ := quotBody ht hb (cok (R__law_poly_text_eq ht)) (cok (R__law_poly_text_eq hb))
  refine run_ok (np := 1) (N := 1) (m := m__law_quotient_text) (ds := [.tup [dP t, dP b]]) (ρ' := [.im (.tup [dP t, dP b])]) rfl ?_
  unfold m__law_quotient_text
  by_cases h : b = [1]
  · rw [decide_eq_true h] at hc
    exact thenS_r (ifS_gt hc (retS_go (q1 h)))
  · rw [decide_eq_false h] at hc
    exact thenS_go (ifS_gf hc rfl) (retS_go (q2 h))
end K82
end

section
set_option Elab.async false
set_option linter.all false
set_option maxRecDepth 100000
set_option maxHeartbeats 1000000
set_option exponentiation.threshold 100000
open V3
local macro_rules | `(tactic| get_elem_tactic_extensible) => `(tactic| repeat' (first
  | with_reducible first
    | exact V3.skipS_go | exact V3.raiseS_go | exact V3.partN_go
    | apply V3.thenS_go | apply V3.asgS_go | apply V3.retS_go | apply V3.exprS_go | apply V3.op2_go | apply V3.op1_go | apply V3.vl_go | apply V3.consG_go | apply V3.consA_go | apply V3.opA_go | apply V3.op2g_go
    | apply V3.callN_go | apply V3.callL_gs | apply V3.callA_go | apply V3.tupE_go | apply V3.lstE_go | apply V3.dispF_go | apply V3.lsE_go | apply V3.tst_go | apply V3.blE_go | apply V3.m1_go | apply V3.partS_go | apply V3.slE_go
    | apply V3.parS_go | apply V3.retF_go | apply V3.repF_go | apply V3.lrgF_go | apply V3.tupS_go | apply V3.lstS_go | apply V3.strS_go | apply V3.rng1S_go | apply V3.forS_go | apply V3.augN_go | apply V3.setIx_gs | apply V3.asgO_go
  | ((with_reducible apply V3.ifS_gt); focus (get_elem_tactic_extensible; done)) | ((with_reducible apply V3.ifS_gf); focus (get_elem_tactic_extensible; done))
  | ((with_reducible apply V3.ifE_gt); focus (get_elem_tactic_extensible; done)) | ((with_reducible apply V3.ifE_gf); focus (get_elem_tactic_extensible; done))
  | ((with_reducible apply V3.andT_f); focus (get_elem_tactic_extensible; done)) | ((with_reducible apply V3.andT_t); focus (get_elem_tactic_extensible; done)) | with_reducible apply V3.andT_go
  | ((with_reducible apply V3.notT_f); focus (get_elem_tactic_extensible; done)) | ((with_reducible apply V3.notT_t); focus (get_elem_tactic_extensible; done)) | with_reducible apply V3.notT_go
  | ((with_reducible apply V3.orT_t); focus (get_elem_tactic_extensible; done)) | ((with_reducible apply V3.orT_f); focus (get_elem_tactic_extensible; done)) | with_reducible apply V3.orT_go
  | ((with_reducible apply V3.andE_f); focus (get_elem_tactic_extensible; done)) | ((with_reducible apply V3.andE_t); focus (get_elem_tactic_extensible; done)) | with_reducible apply V3.andE_go
  | ((with_reducible apply V3.orE_t); focus (get_elem_tactic_extensible; done)) | ((with_reducible apply V3.orE_f); focus (get_elem_tactic_extensible; done)) | with_reducible apply V3.orE_go
  | exact (rfl : V3.ret _ _ = _) | exact (rfl : V3.var _ _ = _) | exact (rfl : V3.own _ _ = _) | exact (rfl : V3.setI _ _ _ = _) | exact (rfl : List.set _ _ _ = _) | exact V3.setI_any rfl (by assumption) | exact (rfl : V3.resA _ _ = _) | exact (rfl : V3.slotL _ _ = _) | exact Eq.refl true
  | with_reducible assumption
  | exact V3.shb rfl
  | exact V3.cmp_t (decide_eq_true (by omega)) | exact V3.cmp_f (decide_eq_false (by omega)) | exact V3.eqI_t (by omega) | exact V3.eqI_f (by omega) | exact V3.neI_t (by omega) | exact V3.neI_f (by omega) | exact V3.modI (by decide)
  | exact (rfl : V3.addD _ _ = _) | exact (rfl : V3.subD _ _ = _) | exact (rfl : V3.negD _ = _) | exact (rfl : V3.notD _ = _) | exact (rfl : V3.cmpI _ _ _ = _) | exact (rfl : V3.lenD _ = _) | exact (rfl : V3.truD _ = _) | exact (rfl : V3.tupleD _ = _) | exact (rfl : V3.listD _ = _) | exact (rfl : V3.isiD _ _ = _) | exact (rfl : V3.isND _ _ = _) | exact (rfl : V3.isNotND _ _ = _)))
namespace K82
open PySem (Str sizeLine)
open V3 Pm
open L2 (ixN atI cutS)
open TL (tl spl numL joinL ext_tl tl_mk mk_tl len_tl tl_append tl_ofString)
open PySem.NumText (AllDigits digitsVal)
/-! Q28: the purse and draws. -/
theorem runL_ok {np N : Nat} {m : Cm Fl} {es ds : List D} {ρ' : Ev} {d : D} {es' : List D} (hl : ds.length + 1 = np) (h : m (Sl.ow es :: ds.map Sl.im ++ List.replicate (N - np) .un) = .ok (.rt d) ρ') (hs : slotL ρ' 0 = some es') : CokL (runL np N m) es ds d es' := by
  refine ⟨[], ?_⟩
  unfold runL
  rw [if_pos hl, h]
  dsimp only
  rw [hs]
  rfl
abbrev puD (a b c : Int) : List D := [.int a, .int b, .int c]
/-- a purse as it should be -/
def Pur (es : List D) : Prop := ∃ a b c : Int, es = puD a b c ∧ 0 ≤ a ∧ 0 ≤ b ∧ b < 2147483629 ∧ 0 ≤ c ∧ c < 11
abbrev primes : List D := [.int 99991, .int 99989, .int 99971, .int 99961, .int 99929, .int 99923, .int 99907, .int 99901, .int 99881, .int 99877, .int 99871]
theorem prime_at {c : Int} (h0 : 0 ≤ c) (h1 : c < 11) : ∃ p : Int, ixD (.tup primes) (.int c) = some (.int p) ∧ 0 < p ∧ p < 100000 := by
  have : c = 0 ∨ c = 1 ∨ c = 2 ∨ c = 3 ∨ c = 4 ∨ c = 5 ∨ c = 6 ∨ c = 7 ∨ c = 8 ∨ c = 9 ∨ c = 10 := by omega
  rcases this with rfl | rfl | rfl | rfl | rfl | rfl | rfl | rfl | rfl | rfl | rfl <;> exact ⟨_, rfl, by decide, by decide⟩
theorem powI {a : Int} {k : Nat} (ha : a.natAbs < 2 ^ 64) (hk : k ≤ 1000000) : powD (.int a) (.int (k : Int)) = some (.int (a ^ k)) := by
  have e : powD (.int a) (.int (k : Int)) = if 0 ≤ (k : Int) ∧ (k : Int) ≤ 1000000 ∧ a.natAbs < 2 ^ 64 then some (.int (a ^ (k : Int).toNat)) else none := rfl
  rw [e, if_pos ⟨by omega, by omega, ha⟩, Int.toNat_natCast]
theorem fmod_lt {a b : Int} (h : 0 < b) : 0 ≤ a.fmod b ∧ a.fmod b < b := ⟨Int.fmod_nonneg_of_pos a h, Int.fmod_lt_of_pos a h⟩
theorem mulOk_s {a b : Int} (ha : a.natAbs < 2 ^ 1000) (hb : b.natAbs < 2 ^ 1000) : mulOk a b = true := mulOk_big ha hb (by decide)
theorem drawloop {n : Int} (hn : n.natAbs < 2 ^ 200) : ∀ (k i : Nat) (a b c f r : Int) (x : Sl), n * 100 ≤ r * 99000 ^ k → 0 ≤ b → b < 2147483629 → 0 ≤ c → c < 11 → 0 ≤ f → f < 100000 ^ i → 0 < r → r.natAbs < 100000 ^ (i + 1) → i + k ≤ 20 →
    ∃ b' c' f' r' : Int, 0 ≤ b' ∧ b' < 2147483629 ∧ 0 ≤ c' ∧ c' < 11 ∧ whl _law_draw_w1c _law_draw_w1b [.ow (puD a b c), .im (.int n), x, .im (.tup primes), .im (.int f), .im (.int r)] = .ok .nx [.ow (puD a b' c'), .im (.int n), x, .im (.tup primes), .im (.int f'), .im (.int r')] := by
  intro k
  have hm := mulI (a := n) (b := 100) (mulOk_s (Nat.lt_of_lt_of_le hn (Nat.pow_le_pow_right (by decide) (by decide))) (by decide))
  induction k with
  | zero =>
    intro i a b c f r x h1 hb0 hb1 hc0 hc1 hf0 hf1 hr0 hr1 hi
    refine ⟨b, c, f, r, hb0, hb1, hc0, hc1, whl_end ?_⟩
    have : ¬ r < n * 100 := by simp at h1; omega
    unfold _law_draw_w1c
    get_elem_tactic_extensible
  | succ k ih =>
    intro i a b c f r x h1 hb0 hb1 hc0 hc1 hf0 hf1 hr0 hr1 hi
    by_cases hlt : r < n * 100
    case neg =>
      refine ⟨b, c, f, r, hb0, hb1, hc0, hc1, whl_end ?_⟩
      unfold _law_draw_w1c
      get_elem_tactic_extensible
    have p100 : (100000 : Nat) ^ i ≤ 2 ^ 400 := Nat.le_trans (Nat.pow_le_pow_right (by decide) (show i ≤ 20 by omega)) (by decide)
    have p101 : (100000 : Nat) ^ (i + 1) ≤ 2 ^ 400 := Nat.le_trans (Nat.pow_le_pow_right (by decide) (show i + 1 ≤ 20 by omega)) (by decide)
    have big : (2 : Nat) ^ 400 < 2 ^ 1000 := Nat.pow_lt_pow_right (by decide) (by decide)
    have hfn : f.natAbs < 100000 ^ i := by
      have e : ((100000 ^ i : Nat) : Int) = (100000 : Int) ^ i := by simp
      omega
    have hc : _law_draw_w1c [.ow (puD a b c), .im (.int n), x, .im (.tup primes), .im (.int f), .im (.int r)] = .ok true [.ow (puD a b c), .im (.int n), x, .im (.tup primes), .im (.int f), .im (.int r)] := by
      unfold _law_draw_w1c
      get_elem_tactic_extensible
    obtain ⟨q1, q2⟩ := fmod_lt (a := b * 48271 + 12345) (b := 2147483629) (by decide)
    obtain ⟨q3, q4⟩ := fmod_lt (a := c + 1) (b := 11) (by decide)
    obtain ⟨p, p1, p2, p3⟩ := prime_at q3 q4
    obtain ⟨q5, q6⟩ := fmod_lt (a := ((b * 48271 + 12345).fmod 2147483629) ^ 5) p2
    have hpow : (100000 : Int) ^ (i + 1) = 100000 ^ i * 100000 := Int.pow_succ _ _
    have hpow2 : (100000 : Nat) ^ (i + 1 + 1) = 100000 ^ (i + 1) * 100000 := Nat.pow_succ _ _
    obtain ⟨b', c', f', r', w1, w2, w3, w4, w5⟩ := ih (i + 1) a ((b * 48271 + 12345).fmod 2147483629) ((c + 1).fmod 11) (f * 99000 + (((b * 48271 + 12345).fmod 2147483629) ^ 5).fmod p) (r * 99000) x
      (by rw [Int.pow_succ, Int.mul_comm (99000 ^ k), ← Int.mul_assoc] at h1; exact h1) q1 q2 q3 q4 (by omega) (by
        have h0 : (1 : Int) ≤ 100000 ^ i := by
          have e : ((100000 ^ i : Nat) : Int) = (100000 : Int) ^ i := by simp
          have := Nat.pow_pos (n := i) (show 0 < 100000 by decide)
          omega
        rw [hpow]; omega) (by omega) (by have : (99000 : Int).natAbs = 99000 := rfl; rw [hpow2, Int.natAbs_mul, this]; omega) (by omega)
    refine ⟨b', c', f', r', w1, w2, w3, w4, whl_go hc ?_ w5⟩
    have m1 := mulI (a := b) (b := 48271) (mulOk_s (Nat.lt_of_lt_of_le (show b.natAbs < 2 ^ 400 by have : (2147483629 : Nat) < 2 ^ 400 := (by decide); omega) (Nat.le_of_lt big)) (by decide))
    have m2 := mulI (a := f) (b := 99000) (mulOk_s (by omega) (by decide))
    have m3 := mulI (a := r) (b := 99000) (mulOk_s (by omega) (by decide))
    have m4 := modI (a := b * 48271 + 12345) (b := 2147483629) (by decide)
    have m5 := modI (a := c + 1) (b := 11) (by decide)
    have m6 : powD (.int ((b * 48271 + 12345).fmod 2147483629)) (.int 5) = some (.int (((b * 48271 + 12345).fmod 2147483629) ^ 5)) := powI (a := (b * 48271 + 12345).fmod 2147483629) (k := 5) (by have : (2147483629 : Nat) < 2 ^ 64 := (by decide); omega) (by decide)
    have m7 := modI (a := ((b * 48271 + 12345).fmod 2147483629) ^ 5) (b := p) (by omega)
    have o1 : ∀ a b c : Int, L2g ixD [.lst (puD a b c), .int 1] = some (.int b) := fun _ _ _ => rfl
    have o1' := o1 a b c
    have o2' : L2g ixD [.lst (puD a ((b * 48271 + 12345).fmod 2147483629) c), .int 2] = some (.int c) := rfl
    have o3' : L2g ixD [.lst (puD a ((b * 48271 + 12345).fmod 2147483629) ((c + 1).fmod 11)), .int 1] = some (.int ((b * 48271 + 12345).fmod 2147483629)) := rfl
    have o4' : L2g ixD [.lst (puD a ((b * 48271 + 12345).fmod 2147483629) ((c + 1).fmod 11)), .int 2] = some (.int ((c + 1).fmod 11)) := rfl
    have t1 : setIx 0 (op2 modD (op2 addD (op2 mulD (op2g ixD (V3.own 0) (vl (ret (.int 1)))) (ret (.int 48271))) (ret (.int 12345))) (ret (.int 2147483629))) (ret (.int 1)) [.ow (puD a b c), .im (.int n), x, .im (.tup primes), .im (.int f), .im (.int r)] = .ok .nx [.ow (puD a ((b * 48271 + 12345).fmod 2147483629) c), .im (.int n), x, .im (.tup primes), .im (.int f), .im (.int r)] := by
      refine setIx_go (k := 0) (i := 1) (j := 1) (ρ1 := [.ow (puD a b c), .im (.int n), x, .im (.tup primes), .im (.int f), .im (.int r)]) (ρ2 := [.ow (puD a b c), .im (.int n), x, .im (.tup primes), .im (.int f), .im (.int r)]) (es := puD a b c) (d := .int ((b * 48271 + 12345).fmod 2147483629)) ?_ rfl rfl rfl rfl
      get_elem_tactic_extensible
    have t2 : setIx 0 (op2 modD (op2 addD (op2g ixD (V3.own 0) (vl (ret (.int 2)))) (ret (.int 1))) (ret (.int 11))) (ret (.int 2)) [.ow (puD a ((b * 48271 + 12345).fmod 2147483629) c), .im (.int n), x, .im (.tup primes), .im (.int f), .im (.int r)] = .ok .nx [.ow (puD a ((b * 48271 + 12345).fmod 2147483629) ((c + 1).fmod 11)), .im (.int n), x, .im (.tup primes), .im (.int f), .im (.int r)] := by
      refine setIx_go (k := 0) (i := 2) (j := 2) (ρ1 := [.ow (puD a ((b * 48271 + 12345).fmod 2147483629) c), .im (.int n), x, .im (.tup primes), .im (.int f), .im (.int r)]) (ρ2 := [.ow (puD a ((b * 48271 + 12345).fmod 2147483629) c), .im (.int n), x, .im (.tup primes), .im (.int f), .im (.int r)]) (es := puD a ((b * 48271 + 12345).fmod 2147483629) c) (d := .int ((c + 1).fmod 11)) ?_ rfl rfl rfl rfl
      get_elem_tactic_extensible
    unfold _law_draw_w1b
    refine thenS_go t1 (thenS_go t2 ?_)
    get_elem_tactic_extensible
theorem G__law_draw_eq {es : List D} {n : Int} (h : Pur es) (h0 : 0 < n) (h1 : n < 10 ^ 16) : ∃ (r : Int) (es' : List D), CokL G__law_draw es [.int n] (.int r) es' ∧ 0 ≤ r ∧ r < n ∧ Pur es' := by
  obtain ⟨a, b, c, rfl, ha, hb0, hb1, hc0, hc1⟩ := h
  have o0 : L2g ixD [.lst (puD a b c), .int 0] = some (.int a) := rfl
  by_cases hp : 0 < a
  · obtain ⟨q1, q2⟩ := fmod_lt (a := a) h0
    have m1 := modI (a := a) (b := n) (by omega)
    have m2 := fdivI (a := a) (b := n) (fdivOk_of (by omega) (by have : (10 : Int) ^ 16 = 10000000000000000 := rfl
                                                                 have : (10000000000000000 : Nat) < 2 ^ 9000 := Nat.lt_of_lt_of_le (by decide : (10000000000000000 : Nat) < 2 ^ 60) (Nat.pow_le_pow_right (by decide) (by decide))
                                                                 omega))
    refine ⟨a.fmod n, puD (a.fdiv n) b c, ?_, q1, q2, _, _, _, rfl, Int.fdiv_nonneg ha (by omega), hb0, hb1, hc0, hc1⟩
    refine runL_ok (np := 2) (N := 6) (m := m__law_draw) (ρ' := [.ow (puD (a.fdiv n) b c), .im (.int n), .im (.int (a.fmod n)), .un, .un, .un]) rfl ?_ rfl
    rw [eq__law_draw]
    have t1 : setIx 0 (op2 fdivD (op2g ixD (V3.own 0) (vl (ret (.int 0)))) (var 1)) (ret (.int 0)) [.ow (puD a b c), .im (.int n), .im (.int (a.fmod n)), .un, .un, .un] = .ok .nx [.ow (puD (a.fdiv n) b c), .im (.int n), .im (.int (a.fmod n)), .un, .un, .un] := by
      refine setIx_go (k := 0) (i := 0) (j := 0) (ρ1 := [.ow (puD a b c), .im (.int n), .im (.int (a.fmod n)), .un, .un, .un]) (ρ2 := [.ow (puD a b c), .im (.int n), .im (.int (a.fmod n)), .un, .un, .un]) (es := puD a b c) (d := .int (a.fdiv n)) ?_ rfl rfl rfl rfl
      get_elem_tactic_extensible
    refine thenS_r (ifS_gt (ρ1 := [.ow (puD a b c), .im (.int n), .un, .un, .un, .un]) ?_ (thenS_go (ρ1 := [.ow (puD a b c), .im (.int n), .im (.int (a.fmod n)), .un, .un, .un]) ?_ (thenS_go t1 rfl)))
    · get_elem_tactic_extensible
    · get_elem_tactic_extensible
  · have ha0 : a = 0 := by omega
    have e16 : (10 : Int) ^ 16 = 10000000000000000 := rfl
    obtain ⟨b', c', f', r', w1, w2, w3, w4, w5⟩ := drawloop (n := n) (by have : (10000000000000000 : Nat) < 2 ^ 200 := (by decide); omega) 4 0 a b c 0 1 .un (by
      have : (99000 : Int) ^ 4 = 96059601000000000000 := rfl
      rw [this]; omega) hb0 hb1 hc0 hc1 (by decide) (by decide) (by decide) (by decide) (by decide)
    obtain ⟨q1, q2⟩ := fmod_lt (a := f') h0
    have m1 := modI (a := f') (b := n) (by omega)
    refine ⟨f'.fmod n, puD a b' c', ?_, q1, q2, _, _, _, rfl, ha, w1, w2, w3, w4⟩
    refine runL_ok (np := 2) (N := 6) (m := m__law_draw) (ρ' := [.ow (puD a b' c'), .im (.int n), .un, .im (.tup primes), .im (.int f'), .im (.int r')]) rfl ?_ rfl
    rw [eq__law_draw]
    refine thenS_go (ρ1 := [.ow (puD a b c), .im (.int n), .un, .un, .un, .un]) (ifS_gf (ρ1 := [.ow (puD a b c), .im (.int n), .un, .un, .un, .un]) (by get_elem_tactic_extensible) rfl) ?_
    refine thenS_go (ρ1 := [.ow (puD a b c), .im (.int n), .un, .im (.tup primes), .un, .un]) (asgS_go (tupE_go rfl (shb rfl)) rfl) ?_
    refine thenS_go (ρ1 := [.ow (puD a b c), .im (.int n), .un, .im (.tup primes), .im (.int 0), .un]) rfl ?_
    refine thenS_go (ρ1 := [.ow (puD a b c), .im (.int n), .un, .im (.tup primes), .im (.int 0), .im (.int 1)]) rfl ?_
    refine thenS_go w5 ?_
    get_elem_tactic_extensible
end K82
end

section
set_option Elab.async false
set_option linter.all false
set_option maxRecDepth 100000
set_option maxHeartbeats 1000000
set_option exponentiation.threshold 100000
open V3
local macro_rules | `(tactic| get_elem_tactic_extensible) => `(tactic| repeat' (first
  | with_reducible first
    | exact V3.skipS_go | exact V3.raiseS_go | exact V3.partN_go
    | apply V3.thenS_go | apply V3.asgS_go | apply V3.retS_go | apply V3.exprS_go | apply V3.op2_go | apply V3.op1_go | apply V3.vl_go | apply V3.consG_go | apply V3.consA_go | apply V3.opA_go | apply V3.op2g_go
    | apply V3.callN_go | apply V3.callL_gs | apply V3.callA_go | apply V3.tupE_go | apply V3.lstE_go | apply V3.dispF_go | apply V3.lsE_go | apply V3.tst_go | apply V3.blE_go | apply V3.m1_go | apply V3.partS_go | apply V3.slE_go
    | apply V3.parS_go | apply V3.retF_go | apply V3.repF_go | apply V3.lrgF_go | apply V3.tupS_go | apply V3.lstS_go | apply V3.strS_go | apply V3.rng1S_go | apply V3.forS_go | apply V3.augN_go | apply V3.setIx_gs | apply V3.asgO_go
  | ((with_reducible apply V3.ifS_gt); focus (get_elem_tactic_extensible; done)) | ((with_reducible apply V3.ifS_gf); focus (get_elem_tactic_extensible; done))
  | ((with_reducible apply V3.ifE_gt); focus (get_elem_tactic_extensible; done)) | ((with_reducible apply V3.ifE_gf); focus (get_elem_tactic_extensible; done))
  | ((with_reducible apply V3.andT_f); focus (get_elem_tactic_extensible; done)) | ((with_reducible apply V3.andT_t); focus (get_elem_tactic_extensible; done)) | with_reducible apply V3.andT_go
  | ((with_reducible apply V3.notT_f); focus (get_elem_tactic_extensible; done)) | ((with_reducible apply V3.notT_t); focus (get_elem_tactic_extensible; done)) | with_reducible apply V3.notT_go
  | ((with_reducible apply V3.orT_t); focus (get_elem_tactic_extensible; done)) | ((with_reducible apply V3.orT_f); focus (get_elem_tactic_extensible; done)) | with_reducible apply V3.orT_go
  | ((with_reducible apply V3.andE_f); focus (get_elem_tactic_extensible; done)) | ((with_reducible apply V3.andE_t); focus (get_elem_tactic_extensible; done)) | with_reducible apply V3.andE_go
  | ((with_reducible apply V3.orE_t); focus (get_elem_tactic_extensible; done)) | ((with_reducible apply V3.orE_f); focus (get_elem_tactic_extensible; done)) | with_reducible apply V3.orE_go
  | exact (rfl : V3.ret _ _ = _) | exact (rfl : V3.var _ _ = _) | exact (rfl : V3.own _ _ = _) | exact (rfl : V3.setI _ _ _ = _) | exact (rfl : List.set _ _ _ = _) | exact V3.setI_any rfl (by assumption) | exact (rfl : V3.resA _ _ = _) | exact (rfl : V3.slotL _ _ = _) | exact Eq.refl true
  | with_reducible assumption
  | exact V3.shb rfl
  | exact V3.cmp_t (decide_eq_true (by omega)) | exact V3.cmp_f (decide_eq_false (by omega)) | exact V3.eqI_t (by omega) | exact V3.eqI_f (by omega) | exact V3.neI_t (by omega) | exact V3.neI_f (by omega) | exact V3.modI (by decide)
  | exact (rfl : V3.addD _ _ = _) | exact (rfl : V3.subD _ _ = _) | exact (rfl : V3.negD _ = _) | exact (rfl : V3.notD _ = _) | exact (rfl : V3.cmpI _ _ _ = _) | exact (rfl : V3.lenD _ = _) | exact (rfl : V3.truD _ = _) | exact (rfl : V3.tupleD _ = _) | exact (rfl : V3.listD _ = _) | exact (rfl : V3.isiD _ _ = _) | exact (rfl : V3.isND _ _ = _) | exact (rfl : V3.isNotND _ _ = _)))
namespace K82
open PySem (Str sizeLine)
open V3 Pm
open L2 (ixN atI cutS)
open TL (tl spl numL joinL ext_tl tl_mk mk_tl len_tl tl_append tl_ofString)
open PySem.NumText (AllDigits digitsVal)
/-! Q29: purses, numbers and polynomials that are drawn. -/
theorem purseloop {ns : P} {at' : Int} {cell : Int} : ∀ (is : List Nat) (mix : Int) (s : Sl), (∀ i ∈ is, i < ns.length ∧ i < 1000) → (∀ es, s ≠ .ow es) → 0 ≤ mix → mix < 2147483629 →
    ∃ (mix' : Int) (s' : Sl), 0 ≤ mix' ∧ mix' < 2147483629 ∧ forL (setI 4) _law_purse_f1b (is.map fun i : Nat => .int ((0 : Int) + (i : Int))) [.im (.fz (ns.map .int)), .im (.int at'), .im (.int cell), .im (.int mix), s] = .ok .nx [.im (.fz (ns.map .int)), .im (.int at'), .im (.int cell), .im (.int mix'), s']
  | [], mix, s, _, _, h0, h1 => ⟨mix, s, h0, h1, rfl⟩
  | i :: is, mix, s, hi, hs, h0, h1 => by
    obtain ⟨q1, q2⟩ := fmod_lt (a := mix ^ 3 + (co ns i).fmod 1000000007 + (i : Int)) (b := 2147483629) (by decide)
    obtain ⟨mix', s', w1, w2, w3⟩ := purseloop (at' := at') (cell := cell) is ((mix ^ 3 + (co ns i).fmod 1000000007 + (i : Int)).fmod 2147483629) (.im (.int (i : Int))) (fun j hj => hi j (List.mem_cons_of_mem _ hj)) (fun _ z => by cases z) q1 q2
    refine ⟨mix', s', w1, w2, ?_⟩
    have hi0 := hi i (List.mem_cons_self ..)
    have e1 : setI 4 (.int ((0 : Int) + (i : Int))) [.im (.fz (ns.map .int)), .im (.int at'), .im (.int cell), .im (.int mix), s] = .ok () [.im (.fz (ns.map .int)), .im (.int at'), .im (.int cell), .im (.int mix), .im (.int (i : Int))] := by
      rw [Int.zero_add]
      exact setI_any rfl hs
    refine forL_go e1 ?_ w3
    have m1 : powD (.int mix) (.int 3) = some (.int (mix ^ 3)) := powI (k := 3) (by have : (2147483629 : Nat) < 2 ^ 64 := (by decide); omega) (by decide)
    have m2 : ixD (.fz (ns.map .int)) (.int (i : Int)) = some (.int (co ns i)) := atI_co hi0.1
    have m3 := modI (a := co ns i) (b := 1000000007) (by decide)
    have m4 := modI (a := mix ^ 3 + (co ns i).fmod 1000000007 + (i : Int)) (b := 2147483629) (by decide)
    unfold _law_purse_f1b
    get_elem_tactic_extensible
theorem R__law_purse_eq {ns : P} {k : Nat} (hl : ns.length ≤ 63) (hk : k ≤ 63) : ∃ es, R__law_purse [.fz (ns.map .int), .int (k : Int)] = .ok (.lst es) [] ∧ Pur es := by
  have h18 : powD (.int 10) (.int 18) = some (.int (10 ^ 18)) := powI (k := 18) (by decide) (by decide)
  have e18 : (10 : Int) ^ 18 = 1000000000000000000 := rfl
  have cl : lenD [.fz (ns.map .int)] = some (.int ((ns.length : Nat) : Int)) := by
    show some (D.int _) = _
    rw [List.length_map]
  obtain ⟨cell, hc, c1⟩ : ∃ cell : Int, 0 ≤ cell ∧ ifS (blE (op2 (cmpI fun i j => decide (i < j)) (var 1) (opA lenD (consG (vl (var 0)) (ret []))))) (asgS 2 (opA absD (consG (vl (op2 ixD (var 0) (var 1))) (ret [])))) skipS [.im (.fz (ns.map .int)), .im (.int (k : Int)), .im (.int 0), .un, .un] = .ok .nx [.im (.fz (ns.map .int)), .im (.int (k : Int)), .im (.int cell), .un, .un] := by
    by_cases h : k < ns.length
    · have m2 : ixD (.fz (ns.map .int)) (.int (k : Int)) = some (.int (co ns k)) := atI_co h
      have m3 : absD [.int (co ns k)] = some (.int (if co ns k < 0 then -(co ns k) else co ns k)) := rfl
      refine ⟨if co ns k < 0 then -(co ns k) else co ns k, by split <;> omega, ?_⟩
      get_elem_tactic_extensible
    · refine ⟨0, by omega, ?_⟩
      get_elem_tactic_extensible
  obtain ⟨cell2, hc2, c2⟩ : ∃ cell2 : Int, 10 ^ 18 ≤ cell2 ∧ ∀ {m : Int} {s : Sl}, ifS (blE (op2 (cmpI fun i j => decide (i < j)) (var 2) (op2 powD (ret (.int 10)) (ret (.int 18))))) (asgS 2 (op2 powD (ret (.int 10)) (ret (.int 18)))) skipS [.im (.fz (ns.map .int)), .im (.int (k : Int)), .im (.int cell), .im (.int m), s] = .ok .nx [.im (.fz (ns.map .int)), .im (.int (k : Int)), .im (.int cell2), .im (.int m), s] := by
    by_cases h : cell < 10 ^ 18
    · refine ⟨10 ^ 18, Int.le_refl _, fun {m s} => ?_⟩
      get_elem_tactic_extensible
    · refine ⟨cell, by omega, fun {m s} => ?_⟩
      get_elem_tactic_extensible
  obtain ⟨mix, s', w1, w2, w3⟩ := purseloop (ns := ns) (at' := (k : Int)) (cell := cell) (List.range (min ns.length 40)) (7919 + 31 * (k : Int)) .un (fun i hi => by
    have := List.mem_range.mp hi
    omega) (fun _ z => by cases z) (by omega) (by omega)
  obtain ⟨q1, q2⟩ := fmod_lt (a := (k : Int)) (b := 11) (by decide)
  refine ⟨puD (cell2 - 10 ^ 18) mix ((k : Int).fmod 11), ?_, _, _, _, rfl, by omega, w1, w2, q1, q2⟩
  refine run_ok (np := 2) (N := 5) (m := m__law_purse) (ds := [.fz (ns.map .int), .int (k : Int)]) (ρ' := [.im (.fz (ns.map .int)), .im (.int (k : Int)), .im (.int cell2), .im (.int mix), s']) rfl ?_
  rw [eq__law_purse]
  have m1 := mulI (a := 31) (b := (k : Int)) (mulOk_s (by decide) (by have : (64 : Nat) < 2 ^ 1000 := Nat.lt_of_lt_of_le (by decide : 64 < 2 ^ 7) (Nat.pow_le_pow_right (by decide) (by decide)); omega))
  have m2 := modI (a := (k : Int)) (b := 11) (by decide)
  have hmin : minD [.int ((ns.length : Nat) : Int), .int 40] = some (.int ((min ns.length 40 : Nat) : Int)) := by
    show some (D.int (if _ then _ else _)) = _
    congr 2
    split <;> omega
  refine thenS_go (ρ1 := [.im (.fz (ns.map .int)), .im (.int (k : Int)), .im (.int 0), .un, .un]) rfl ?_
  refine thenS_go c1 ?_
  refine thenS_go (ρ1 := [.im (.fz (ns.map .int)), .im (.int (k : Int)), .im (.int cell), .im (.int (7919 + 31 * (k : Int))), .un]) (by get_elem_tactic_extensible) ?_
  refine thenS_go (forS_go (rng1S_go (consA_go (opA_go (consG_go (vl_go (opA_go (consG_go (vl_go rfl) rfl) rfl cl rfl)) (consG_go (vl_go rfl) rfl)) rfl hmin rfl) rfl) (rng1D_nat (by omega))) w3) ?_
  refine thenS_go c2 ?_
  get_elem_tactic_extensible
end K82
end

section
set_option Elab.async false
set_option linter.all false
set_option maxRecDepth 100000
set_option maxHeartbeats 1000000
set_option exponentiation.threshold 100000
open V3
local macro_rules | `(tactic| get_elem_tactic_extensible) => `(tactic| repeat' (first
  | with_reducible first
    | exact V3.skipS_go | exact V3.raiseS_go | exact V3.partN_go
    | apply V3.thenS_go | apply V3.asgS_go | apply V3.retS_go | apply V3.exprS_go | apply V3.op2_go | apply V3.op1_go | apply V3.vl_go | apply V3.consG_go | apply V3.consA_go | apply V3.opA_go | apply V3.op2g_go
    | apply V3.callN_go | apply V3.callL_gs | apply V3.callA_go | apply V3.tupE_go | apply V3.lstE_go | apply V3.dispF_go | apply V3.lsE_go | apply V3.tst_go | apply V3.blE_go | apply V3.m1_go | apply V3.partS_go | apply V3.slE_go
    | apply V3.parS_go | apply V3.retF_go | apply V3.repF_go | apply V3.lrgF_go | apply V3.tupS_go | apply V3.lstS_go | apply V3.strS_go | apply V3.rng1S_go | apply V3.forS_go | apply V3.augN_go | apply V3.setIx_gs | apply V3.asgO_go
  | ((with_reducible apply V3.ifS_gt); focus (get_elem_tactic_extensible; done)) | ((with_reducible apply V3.ifS_gf); focus (get_elem_tactic_extensible; done))
  | ((with_reducible apply V3.ifE_gt); focus (get_elem_tactic_extensible; done)) | ((with_reducible apply V3.ifE_gf); focus (get_elem_tactic_extensible; done))
  | ((with_reducible apply V3.andT_f); focus (get_elem_tactic_extensible; done)) | ((with_reducible apply V3.andT_t); focus (get_elem_tactic_extensible; done)) | with_reducible apply V3.andT_go
  | ((with_reducible apply V3.notT_f); focus (get_elem_tactic_extensible; done)) | ((with_reducible apply V3.notT_t); focus (get_elem_tactic_extensible; done)) | with_reducible apply V3.notT_go
  | ((with_reducible apply V3.orT_t); focus (get_elem_tactic_extensible; done)) | ((with_reducible apply V3.orT_f); focus (get_elem_tactic_extensible; done)) | with_reducible apply V3.orT_go
  | ((with_reducible apply V3.andE_f); focus (get_elem_tactic_extensible; done)) | ((with_reducible apply V3.andE_t); focus (get_elem_tactic_extensible; done)) | with_reducible apply V3.andE_go
  | ((with_reducible apply V3.orE_t); focus (get_elem_tactic_extensible; done)) | ((with_reducible apply V3.orE_f); focus (get_elem_tactic_extensible; done)) | with_reducible apply V3.orE_go
  | exact (rfl : V3.ret _ _ = _) | exact (rfl : V3.var _ _ = _) | exact (rfl : V3.own _ _ = _) | exact (rfl : V3.setI _ _ _ = _) | exact (rfl : List.set _ _ _ = _) | exact V3.setI_any rfl (by assumption) | exact (rfl : V3.resA _ _ = _) | exact (rfl : V3.slotL _ _ = _) | exact Eq.refl true
  | with_reducible assumption
  | exact V3.shb rfl
  | exact V3.cmp_t (decide_eq_true (by omega)) | exact V3.cmp_f (decide_eq_false (by omega)) | exact V3.eqI_t (by omega) | exact V3.eqI_f (by omega) | exact V3.neI_t (by omega) | exact V3.neI_f (by omega) | exact V3.modI (by decide)
  | exact (rfl : V3.addD _ _ = _) | exact (rfl : V3.subD _ _ = _) | exact (rfl : V3.negD _ = _) | exact (rfl : V3.notD _ = _) | exact (rfl : V3.cmpI _ _ _ = _) | exact (rfl : V3.lenD _ = _) | exact (rfl : V3.truD _ = _) | exact (rfl : V3.tupleD _ = _) | exact (rfl : V3.listD _ = _) | exact (rfl : V3.isiD _ _ = _) | exact (rfl : V3.isND _ _ = _) | exact (rfl : V3.isNotND _ _ = _)))
namespace K82
open PySem (Str sizeLine)
open V3 Pm
open L2 (ixN atI cutS)
open TL (tl spl numL joinL ext_tl tl_mk mk_tl len_tl tl_append tl_ofString)
open PySem.NumText (AllDigits digitsVal)
/-! Q30: numbers and polynomials that are drawn. -/
abbrev M12 : Int := 10 ^ 12
theorem e12 : (10 : Int) ^ 12 = 1000000000000 := rfl
theorem G__law_whole_eq {es : List D} (h : Pur es) : ∃ (r : Int) (es' : List D), CokL G__law_whole es [.int (10 ^ 12)] (.int r) es' ∧ r.natAbs < 10 ^ 12 ∧ Pur es' := by
  have e16 : (10 : Int) ^ 16 = 10000000000000000 := rfl
  have e12 := e12
  have n12 : (10 : Nat) ^ 12 = 1000000000000 := rfl
  obtain ⟨w, es1, c1, w0, w1, P1⟩ := G__law_draw_eq h (n := 8) (by decide) (by decide)
  have s1 : asgS 2 (callL G__law_draw 0 (consA (ret (.int 8)) (ret []))) [.ow es, .im (.int (10 ^ 12)), .un] = .ok .nx [.ow es1, .im (.int (10 ^ 12)), .im (.int w)] := asgS_go (callL_go rfl rfl rfl c1) rfl
  by_cases hw0 : w = 0
  · refine ⟨0, es1, ?_, by decide, P1⟩
    refine runL_ok (np := 2) (N := 3) (m := m__law_whole) (ρ' := [.ow es1, .im (.int (10 ^ 12)), .im (.int w)]) rfl ?_ rfl
    unfold m__law_whole
    exact thenS_go s1 (thenS_r (ifS_gt (blE_go (op2_go rfl rfl (eqI_t hw0))) rfl))
  have s2 : ifS (blE (op2 eqD (var 2) (ret (.int 0)))) (retS (ret (.int 0))) skipS [.ow es1, .im (.int (10 ^ 12)), .im (.int w)] = .ok .nx [.ow es1, .im (.int (10 ^ 12)), .im (.int w)] := ifS_gf (blE_go (op2_go rfl rfl (eqI_f hw0))) rfl
  by_cases hw1 : w = 1
  · obtain ⟨r, es2, c2, r0, r1, P2⟩ := G__law_draw_eq P1 (n := 2 * 10 ^ 12 - 1) (by decide) (by decide)
    refine ⟨r - 10 ^ 12 + 1, es2, ?_, by omega, P2⟩
    refine runL_ok (np := 2) (N := 3) (m := m__law_whole) (ρ' := [.ow es2, .im (.int (10 ^ 12)), .im (.int w)]) rfl ?_ rfl
    unfold m__law_whole
    have m1 := mulI (a := 2) (b := 10 ^ 12) (mulOk_s (by decide) (Nat.lt_of_lt_of_le (by decide : (10 ^ 12 : Int).natAbs < 2 ^ 64) (Nat.pow_le_pow_right (by decide) (by decide))))
    refine thenS_go s1 (thenS_go s2 (thenS_r (ifS_gt (blE_go (op2_go rfl rfl (eqI_t hw1))) (retS_go ?_))))
    get_elem_tactic_extensible
  · obtain ⟨r, es2, c2, r0, r1, P2⟩ := G__law_draw_eq P1 (n := 19) (by decide) (by decide)
    refine ⟨r - 9, es2, ?_, by omega, P2⟩
    refine runL_ok (np := 2) (N := 3) (m := m__law_whole) (ρ' := [.ow es2, .im (.int (10 ^ 12)), .im (.int w)]) rfl ?_ rfl
    unfold m__law_whole
    have s3 : ifS (blE (op2 eqD (var 2) (ret (.int 1)))) (retS (op2 addD (op2 subD (callL G__law_draw 0 (consA (op2 subD (op2 mulD (ret (.int 2)) (var 1)) (ret (.int 1))) (ret []))) (var 1)) (ret (.int 1)))) skipS [.ow es1, .im (.int (10 ^ 12)), .im (.int w)] = .ok .nx [.ow es1, .im (.int (10 ^ 12)), .im (.int w)] := ifS_gf (blE_go (op2_go rfl rfl (eqI_f hw1))) rfl
    refine thenS_go s1 (thenS_go s2 (thenS_go s3 (retS_go ?_)))
    get_elem_tactic_extensible
theorem lowest {t b : Int} (hb : 0 < b) : ∃ t' b' : Int, t.fdiv (Int.gcd t b : Nat) = t' ∧ b.fdiv (Int.gcd t b : Nat) = b' ∧ 1 ≤ b' ∧ Int.gcd t' b' = 1 ∧ t'.natAbs ≤ t.natAbs ∧ b'.natAbs ≤ b.natAbs := by
  have g0 : Int.gcd t b ≠ 0 := fun e => by have := (Int.gcd_eq_zero_iff.mp e).2; omega
  have d1 := Int.gcd_dvd_left t b
  have d2 := Int.gcd_dvd_right t b
  have e1 := fdiv_exact d1 (by omega)
  have e2 := fdiv_exact d2 (by omega)
  refine ⟨_, _, rfl, rfl, ?_, ?_, fdiv_le d1 (by omega), fdiv_le d2 (by omega)⟩
  · have hg : (0 : Int) < (Int.gcd t b : Nat) := by omega
    have : 0 < b.fdiv (Int.gcd t b : Nat) := by
      refine Int.not_le.mp fun hle => ?_
      have h1 := Int.mul_nonneg (Int.le_of_lt hg) (show 0 ≤ -(b.fdiv (Int.gcd t b : Nat)) by omega)
      rw [Int.mul_neg, e2] at h1
      omega
    omega
  · have h := Int.gcd_mul_left (Int.gcd t b : Nat) (t.fdiv (Int.gcd t b : Nat)) (b.fdiv (Int.gcd t b : Nat))
    rw [e1, e2, Int.natAbs_natCast] at h
    have : Int.gcd t b * 1 = Int.gcd t b * Int.gcd (t.fdiv (Int.gcd t b : Nat)) (b.fdiv (Int.gcd t b : Nat)) := by omega
    exact (Nat.eq_of_mul_eq_mul_left (by omega) this).symm
theorem R__law_low_eq {t b : Int} (hb : 0 < b) (hs : b.natAbs < 2 ^ 9000) : ∃ t' b' : Int, R__law_low [.int t, .int b] = .ok (.tup [.int t', .int b']) [] ∧ 1 ≤ b' ∧ Int.gcd t' b' = 1 ∧ t'.natAbs ≤ t.natAbs ∧ b'.natAbs ≤ b.natAbs := by
  obtain ⟨t', b', h1, h2, h3, h4, h5, h6⟩ := lowest (t := t) hb
  refine ⟨t', b', ?_, h3, h4, h5, h6⟩
  have g1 : Int.gcd t b ∣ b.natAbs := Int.natAbs_dvd_natAbs.mpr (Int.gcd_dvd_right _ _)
  have g2 : Int.gcd t b ≤ b.natAbs := Nat.le_of_dvd (by omega) g1
  have g3 : Int.gcd t b ≠ 0 := fun e => by rw [e] at g1; have := Nat.eq_zero_of_zero_dvd g1; omega
  have ok : ∀ x : Int, fdivOk x ((Int.gcd t b : Nat) : Int) = true := fun x => fdivOk_of (by omega) (Nat.lt_of_le_of_lt (by rw [Int.natAbs_natCast]; exact g2) hs)
  have f1 := fdivI (ok t)
  have f2 := fdivI (ok b)
  rw [h1] at f1
  rw [h2] at f2
  have d1 := cok (R__law_divisor_eq t b)
  apply run_ok (np := 2) (N := 3) (m := m__law_low) (ds := [.int t, .int b]) rfl
  unfold m__law_low
  get_elem_tactic_extensible
/-- a number that is drawn -/
def GoodN (t b : Int) : Prop := 1 ≤ b ∧ Int.gcd t b = 1 ∧ t.natAbs < 10 ^ 12 ∧ b.natAbs < 10 ^ 12
theorem G__law_number_eq {es : List D} (h : Pur es) : ∃ (t b : Int) (es' : List D), CokL G__law_number es [.int (10 ^ 12)] (.tup [.int t, .int b]) es' ∧ GoodN t b ∧ Pur es' := by
  have e12 := e12
  have n12 : (10 : Nat) ^ 12 = 1000000000000 := rfl
  obtain ⟨w, es1, c1, w0, w1, P1⟩ := G__law_draw_eq h (n := 9) (by decide) (by decide)
  obtain ⟨x, es2, c2, x0, x1, P2⟩ := G__law_draw_eq P1 (n := 8) (by decide) (by decide)
  have s1 : asgS 2 (op2 addD (ret (.int 1)) (callL G__law_draw 0 (consA (ret (.int 9)) (ret [])))) [.ow es, .im (.int (10 ^ 12)), .un] = .ok .nx [.ow es1, .im (.int (10 ^ 12)), .im (.int (1 + w))] := asgS_go (op2_go rfl (callL_go rfl rfl rfl c1) rfl) rfl
  obtain ⟨b, es3, b0, b1, P3, s2⟩ : ∃ (b : Int) (es3 : List D), 1 ≤ b ∧ b < 10 ^ 12 ∧ Pur es3 ∧ ifS (blE (op2 eqD (callL G__law_draw 0 (consA (ret (.int 8)) (ret []))) (ret (.int 3)))) (asgS 2 (op2 addD (ret (.int 1)) (callL G__law_draw 0 (consA (op2 subD (var 1) (ret (.int 1))) (ret []))))) skipS [.ow es1, .im (.int (10 ^ 12)), .im (.int (1 + w))] = .ok .nx [.ow es3, .im (.int (10 ^ 12)), .im (.int b)] := by
    by_cases hx : x = 3
    · obtain ⟨y, es3, c3, y0, y1, P3⟩ := G__law_draw_eq P2 (n := 10 ^ 12 - 1) (by decide) (by decide)
      refine ⟨1 + y, es3, by omega, by omega, P3, ?_⟩
      exact ifS_gt (blE_go (op2_go (callL_go rfl rfl rfl c2) rfl (eqI_t hx))) (asgS_go (op2_go rfl (callL_go rfl (consA_go (op2_go rfl rfl rfl) rfl) rfl c3) rfl) rfl)
    · refine ⟨1 + w, es2, by omega, by omega, P2, ?_⟩
      exact ifS_gf (blE_go (op2_go (callL_go rfl rfl rfl c2) rfl (eqI_f hx))) rfl
  obtain ⟨t, es4, c4, t1, P4⟩ := G__law_whole_eq P3
  obtain ⟨t', b', q1, q2, q3, q4, q5⟩ := R__law_low_eq (t := t) (b := b) (by omega) (Nat.lt_of_lt_of_le (show b.natAbs < 2 ^ 64 by have : (10 ^ 12 : Nat) < 2 ^ 64 := (by decide); omega) (Nat.pow_le_pow_right (by decide) (by decide)))
  refine ⟨t', b', es4, ?_, ⟨q2, q3, by omega, by omega⟩, P4⟩
  refine runL_ok (np := 2) (N := 3) (m := m__law_number) (ρ' := [.ow es4, .im (.int (10 ^ 12)), .im (.int b)]) rfl ?_ rfl
  unfold m__law_number
  refine thenS_go s1 (thenS_go s2 (retS_go (callA_go (consG_go (vl_go (callL_go rfl rfl rfl c4)) (consG_go (vl_go rfl) rfl)) rfl (cok q1) rfl)))
theorem polydraws {A B C : Sl} {k : Int} : ∀ (ds acc : List D) (es : List D) (s : Sl), Pur es → (∀ es, s ≠ .ow es) → acc.length + ds.length ≤ sizeLine →
    ∃ (vs : P) (es' : List D) (s' : Sl), Pur es' ∧ (∀ es, s' ≠ Sl.ow es) ∧ vs.length = ds.length ∧ (∀ x ∈ vs, x.natAbs < 10 ^ 12) ∧ lcL [4] (setI 4) (ret true) _law_poly_l1e ds acc [.ow es, A, .im (.int (10 ^ 12)), C, s] = .ok (acc ++ vs.map .int) [.ow es', A, .im (.int (10 ^ 12)), C, s']
  | [], acc, es, s, P, hs, _ => ⟨[], es, s, P, hs, rfl, (fun x hx => by cases hx), by simp [lcL]⟩
  | d :: ds, acc, es, s, P, hs, hl => by
    obtain ⟨v, es1, c1, v1, P1⟩ := G__law_whole_eq P
    obtain ⟨vs, es', s', P', hs', h1, h2, h3⟩ := polydraws (A := A) (B := B) (C := C) (k := k) ds (acc ++ [.int v]) es1 (.im d) P1 (fun _ z => by cases z) (by simp at hl ⊢; omega)
    refine ⟨v :: vs, es', s', P', hs', by simp [h1], fun x hx => ?_, ?_⟩
    · rcases List.mem_cons.mp hx with rfl | hx
      · exact v1
      · exact h2 x hx
    · have e1 : setI 4 d (wipeE [4] [.ow es, A, .im (.int (10 ^ 12)), C, s]) = .ok () [.ow es, A, .im (.int (10 ^ 12)), C, .im d] := rfl
      have e2 : _law_poly_l1e [.ow es, A, .im (.int (10 ^ 12)), C, .im d] = .ok (.int v) [.ow es1, A, .im (.int (10 ^ 12)), C, .im d] := by
        unfold _law_poly_l1e
        get_elem_tactic_extensible
      show aft (setI 4 d) (bnd (nox (ret true)) fun b => if b = true then bnd _law_poly_l1e fun y => if acc.length < sizeLine then lcL [4] (setI 4) (ret true) _law_poly_l1e ds (acc ++ [y]) else (fun _ => .bad) else lcL [4] (setI 4) (ret true) _law_poly_l1e ds acc) (wipeE [4] [.ow es, A, .im (.int (10 ^ 12)), C, s]) = _
      unfold aft
      rw [e1]
      dsimp only
      have e3 : nox (ret true) [.ow es, A, .im (.int (10 ^ 12)), C, .im d] = .ok true [.ow es, A, .im (.int (10 ^ 12)), C, .im d] := rfl
      rw [b_ok e3, if_pos rfl, b_ok e2, if_pos (by simp at hl; omega), h3]
      simp
/-- a polynomial that is drawn -/
def GoodP (n : Nat) (a : P) : Prop := Tr a ∧ a.length ≤ n ∧ ∀ x ∈ a, x.natAbs < 10 ^ 12
theorem G__law_poly_eq {es : List D} {n : Nat} (hn : n ≤ 10) (h : Pur es) : ∃ (a : P) (es' : List D), CokL G__law_poly es [.int (n : Int), .int (10 ^ 12)] (dP a) es' ∧ GoodP n a ∧ Pur es' := by
  obtain ⟨w, es1, c1, w0, w1, P1⟩ := G__law_draw_eq h (n := (n : Int) + 1) (by omega) (by omega)
  obtain ⟨j, rfl⟩ : ∃ j : Nat, w = j := ⟨w.toNat, by omega⟩
  obtain ⟨vs, es', s', P', hs', h1, h2, h3⟩ := polydraws (A := .im (.int (n : Int))) (B := .un) (C := .un) (k := 0) (intsD 0 j) [] es1 .un P1 (fun _ z => by cases z) (by simp [intsD]; have := line_big; omega)
  have hvl : vs.length = j := by rw [h1]; simp [intsD]
  have hs1 : rng1S (consA (callL G__law_draw 0 (consA (op2 addD (var 1) (ret (.int 1))) (ret []))) (ret [])) [.ow es, .im (.int (n : Int)), .im (.int (10 ^ 12)), .un, .un] = .ok (intsD 0 j) [.ow es1, .im (.int (n : Int)), .im (.int (10 ^ 12)), .un, .un] :=
    rng1S_go (consA_go (callL_go rfl (consA_go (op2_go rfl rfl rfl) rfl) rfl c1) rfl) (rng1D_nat (by omega))
  have hl1 : _law_poly_l1 [.ow es, .im (.int (n : Int)), .im (.int (10 ^ 12)), .un, .un] = .ok (vs.map .int) [.ow es', .im (.int (n : Int)), .im (.int (10 ^ 12)), .un, .un] := by
    unfold _law_poly_l1
    rw [lcE_ap, b_ok hs1]
    have hno : noOw [4] [.ow es1, .im (.int (n : Int)), .im (.int (10 ^ 12)), .un, .un] = true := rfl
    rw [if_pos hno, h3]
    rfl
  refine ⟨trim vs, es', ?_, ⟨trim_tr vs, Nat.le_trans (trim_len vs) (by omega), fun x hx => ?_⟩, P'⟩
  · refine runL_ok (np := 3) (N := 5) (m := m__law_poly) (ρ' := [.ow es', .im (.int (n : Int)), .im (.int (10 ^ 12)), .im (dL vs), .un]) rfl ?_ rfl
    rw [eq__law_poly]
    exact thenS_go (asgS_go (lsE_go hl1) rfl) (retS_go (callA_go (consG_go (vl_go rfl) rfl) rfl (cok (R__law_cut_eq vs)) rfl))
  · have : x ∈ vs := by
      rw [← trim_take] at hx
      exact List.mem_of_mem_take hx
    exact h2 x this
end K82
end

section
set_option Elab.async false
set_option linter.all false
set_option maxRecDepth 100000
set_option maxHeartbeats 1000000
set_option exponentiation.threshold 100000
open V3
local macro_rules | `(tactic| get_elem_tactic_extensible) => `(tactic| repeat' (first
  | with_reducible first
    | exact V3.skipS_go | exact V3.raiseS_go | exact V3.partN_go
    | apply V3.thenS_go | apply V3.asgS_go | apply V3.retS_go | apply V3.exprS_go | apply V3.op2_go | apply V3.op1_go | apply V3.vl_go | apply V3.consG_go | apply V3.consA_go | apply V3.opA_go | apply V3.op2g_go
    | apply V3.callN_go | apply V3.callL_gs | apply V3.callA_go | apply V3.tupE_go | apply V3.lstE_go | apply V3.dispF_go | apply V3.lsE_go | apply V3.tst_go | apply V3.blE_go | apply V3.m1_go | apply V3.partS_go | apply V3.slE_go
    | apply V3.parS_go | apply V3.retF_go | apply V3.repF_go | apply V3.lrgF_go | apply V3.tupS_go | apply V3.lstS_go | apply V3.strS_go | apply V3.rng1S_go | apply V3.forS_go | apply V3.augN_go | apply V3.setIx_gs | apply V3.asgO_go
  | ((with_reducible apply V3.ifS_gt); focus (get_elem_tactic_extensible; done)) | ((with_reducible apply V3.ifS_gf); focus (get_elem_tactic_extensible; done))
  | ((with_reducible apply V3.ifE_gt); focus (get_elem_tactic_extensible; done)) | ((with_reducible apply V3.ifE_gf); focus (get_elem_tactic_extensible; done))
  | ((with_reducible apply V3.andT_f); focus (get_elem_tactic_extensible; done)) | ((with_reducible apply V3.andT_t); focus (get_elem_tactic_extensible; done)) | with_reducible apply V3.andT_go
  | ((with_reducible apply V3.notT_f); focus (get_elem_tactic_extensible; done)) | ((with_reducible apply V3.notT_t); focus (get_elem_tactic_extensible; done)) | with_reducible apply V3.notT_go
  | ((with_reducible apply V3.orT_t); focus (get_elem_tactic_extensible; done)) | ((with_reducible apply V3.orT_f); focus (get_elem_tactic_extensible; done)) | with_reducible apply V3.orT_go
  | ((with_reducible apply V3.andE_f); focus (get_elem_tactic_extensible; done)) | ((with_reducible apply V3.andE_t); focus (get_elem_tactic_extensible; done)) | with_reducible apply V3.andE_go
  | ((with_reducible apply V3.orE_t); focus (get_elem_tactic_extensible; done)) | ((with_reducible apply V3.orE_f); focus (get_elem_tactic_extensible; done)) | with_reducible apply V3.orE_go
  | exact (rfl : V3.ret _ _ = _) | exact (rfl : V3.var _ _ = _) | exact (rfl : V3.own _ _ = _) | exact (rfl : V3.setI _ _ _ = _) | exact (rfl : List.set _ _ _ = _) | exact V3.setI_any rfl (by assumption) | exact (rfl : V3.resA _ _ = _) | exact (rfl : V3.slotL _ _ = _) | exact Eq.refl true
  | with_reducible assumption
  | exact V3.shb rfl
  | exact V3.cmp_t (decide_eq_true (by omega)) | exact V3.cmp_f (decide_eq_false (by omega)) | exact V3.eqI_t (by omega) | exact V3.eqI_f (by omega) | exact V3.neI_t (by omega) | exact V3.neI_f (by omega) | exact V3.modI (by decide)
  | exact (rfl : V3.addD _ _ = _) | exact (rfl : V3.subD _ _ = _) | exact (rfl : V3.negD _ = _) | exact (rfl : V3.notD _ = _) | exact (rfl : V3.cmpI _ _ _ = _) | exact (rfl : V3.lenD _ = _) | exact (rfl : V3.truD _ = _) | exact (rfl : V3.tupleD _ = _) | exact (rfl : V3.listD _ = _) | exact (rfl : V3.isiD _ _ = _) | exact (rfl : V3.isND _ _ = _) | exact (rfl : V3.isNotND _ _ = _)))
namespace K82
open PySem (Str sizeLine)
open V3 Pm
open L2 (ixN atI cutS)
open TL (tl spl numL joinL ext_tl tl_mk mk_tl len_tl tl_append tl_ofString)
open PySem.NumText (AllDigits digitsVal)
/-! Q31: the quotient that is drawn. -/
theorem le_of_mul {a b : Int} {M : Nat} (ha : a ≠ 0) (h : (a * b).natAbs < M) : b.natAbs < M := by
  rw [Int.natAbs_mul] at h
  have : 1 * b.natAbs ≤ a.natAbs * b.natAbs := Nat.mul_le_mul_right _ (by omega)
  omega
theorem cof_bound {p u : P} {M : Nat} (hp : Tr p) (np : p ≠ []) (hu : Tr u) (nu : u ≠ []) (h2 : 2 ≤ p.length) (hl : p.length + u.length ≤ 5) (hM : ∀ k, (co (mul p u) k).natAbs < M) : u.length ≤ 3 ∧ ∀ x ∈ u, x.natAbs < M + M * M := by
  have hul := len_pos nu
  refine ⟨by omega, ?_⟩
  have hMM : M ≤ M + M * M := Nat.le_add_right _ _
  have k0 := hM 0
  have k1 := hM 1
  have k2 := hM 2
  have k3 := hM 3
  have hpn := hp.ld np
  match p, u, h2, hl, nu with
  | [p0, p1], [u0], _, _, _ =>
    simp [mul, add, co, ld] at k0 k1 k2 k3 hpn
    have := le_of_mul hpn k1
    simp; omega
  | [p0, p1, p2], [u0], _, _, _ =>
    simp [mul, add, co, ld] at k0 k1 k2 k3 hpn
    have := le_of_mul hpn k2
    simp; omega
  | [p0, p1, p2, p3], [u0], _, _, _ =>
    simp [mul, add, co, ld] at k0 k1 k2 k3 hpn
    have := le_of_mul hpn k3
    simp; omega
  | [p0, p1], [u0, u1], _, _, _ =>
    simp [mul, add, co, ld] at k0 k1 k2 k3 hpn
    have a1 := le_of_mul hpn k2
    have a0 : u0.natAbs < M := by
      by_cases h : p0 = 0
      · rw [h] at k1
        exact le_of_mul hpn (by simpa using k1)
      · exact le_of_mul h k0
    simp; omega
  | [p0, p1, p2], [u0, u1], _, _, _ =>
    simp [mul, add, co, ld] at k0 k1 k2 k3 hpn
    have a1 := le_of_mul hpn k3
    have a0 : u0.natAbs < M := by
      by_cases h : p0 = 0
      · by_cases h1 : p1 = 0
        · rw [h1] at k2
          exact le_of_mul hpn (by simpa using k2)
        · rw [h] at k1
          exact le_of_mul h1 (by simpa using k1)
      · exact le_of_mul h k0
    simp; omega
  | [p0, p1], [u0, u1, u2], _, _, _ =>
    simp [mul, add, co, ld] at k0 k1 k2 k3 hpn
    have a2 := le_of_mul hpn k3
    by_cases h : p0 = 0
    · rw [h] at k1 k2
      have a0 := le_of_mul hpn (show (p1 * u0).natAbs < M by simpa using k1)
      have a1 := le_of_mul hpn (show (p1 * u1).natAbs < M by simpa using k2)
      simp; omega
    · have a0 := le_of_mul h k0
      have a1 : u1.natAbs < M + M * M := by
        by_cases h0 : u0 = 0
        · rw [h0] at k1
          have := le_of_mul h (show (p0 * u1).natAbs < M by simpa using k1)
          omega
        · have b0 : p0.natAbs < M := le_of_mul h0 (by rw [Int.mul_comm]; exact k0)
          have b1 : (p0 * u2).natAbs ≤ M * M := by
            rw [Int.natAbs_mul]
            exact Nat.mul_le_mul (Nat.le_of_lt b0) (Nat.le_of_lt a2)
          have b2 : (p1 * u1).natAbs < M + M * M := by omega
          exact le_of_mul hpn b2
      simp; omega
  | [], _, h2, _, _ => simp at h2
  | [_], _, h2, _, _ => simp at h2
  | _ :: _ :: _, [], _, _, nu => exact absurd rfl nu
  | [p0, p1], u0 :: u1 :: u2 :: u3 :: r, _, hl, _ => simp at hl; omega
  | [p0, p1, p2], u0 :: u1 :: u2 :: r, _, hl, _ => simp at hl; omega
  | [p0, p1, p2, p3], u0 :: u1 :: r, _, hl, _ => simp at hl; omega
  | p0 :: p1 :: p2 :: p3 :: p4 :: r, u0 :: q, _, hl, _ => simp at hl; omega
theorem divP_tr {u : P} {w : Int} (hu : Tr u) (hw : ∀ x ∈ u, w ∣ x) (h0 : w ≠ 0) : Tr (divP u w) := by
  by_cases nu : u = []
  · subst nu; exact tr_nil
  · refine .inr ?_
    unfold divP
    rw [List.length_map, co_map (f := fun x => Int.fdiv x w) (Int.zero_fdiv _)]
    intro e
    have h1 := fdiv_exact (hw _ (ld_mem nu)) h0
    have : ld u = 0 := by
      rw [← h1]
      show w * (co u (u.length - 1)).fdiv w = 0
      rw [e, Int.mul_zero]
    exact hu.ld nu this
theorem divP_sim {u : P} {w : Int} (hw : ∀ x ∈ u, w ∣ x) (h0 : w ≠ 0) : Sim (divP u w) u := ⟨w, 1, h0, by decide, fun k => by
  unfold divP
  rw [co_map (f := fun x => Int.fdiv x w) (Int.zero_fdiv _)]
  by_cases hk : k < u.length
  · rw [fdiv_exact (hw _ (co_mem hk)) h0]; omega
  · rw [co_ge (by omega)]; simp⟩
theorem divP_len (u : P) (w : Int) : (divP u w).length = u.length := by unfold divP; simp
theorem divP_le {u : P} {w : Int} (hw : ∀ x ∈ u, w ∣ x) (h0 : w ≠ 0) {M : Nat} (h : ∀ x ∈ u, x.natAbs < M) : ∀ x ∈ divP u w, x.natAbs < M := fun x hx => by
  obtain ⟨y, hy, rfl⟩ := List.mem_map.mp hx
  exact Nat.lt_of_le_of_lt (fdiv_le (hw y hy) h0) (h y hy)
theorem cont_div {u : P} {w : Int} (hw : ∀ x ∈ u, w ∣ x) (h0 : w ≠ 0) : w.natAbs * contentP (divP u w) = contentP u := by
  apply Nat.dvd_antisymm
  · refine content_max u 0 _ (Nat.dvd_zero _) fun x hx => ?_
    have h1 : (contentP (divP u w) : Int) ∣ x.fdiv w := content_mem (List.mem_map.mpr ⟨x, hx, rfl⟩)
    have h2 := fdiv_exact (hw x hx) h0
    rw [← h2, Int.natCast_mul]
    exact Int.mul_dvd_mul (Int.natAbs_dvd.mpr (Int.dvd_refl w)) h1
  · have hd : (w.natAbs : Int) ∣ (contentP u : Int) := Int.natCast_dvd_natCast.mpr (content_max u 0 _ (Nat.dvd_zero _) fun x hx => Int.natAbs_dvd.mpr (hw x hx))
    obtain ⟨q, hq⟩ := Int.natCast_dvd_natCast.mp hd
    rw [hq]
    refine Nat.mul_dvd_mul_left _ ?_
    refine content_max (divP u w) 0 q (Nat.dvd_zero _) fun x hx => ?_
    obtain ⟨y, hy, rfl⟩ := List.mem_map.mp hx
    have h1 : (contentP u : Int) ∣ y := content_mem hy
    rw [hq, Int.natCast_mul, ← fdiv_exact (hw y hy) h0] at h1
    have h3 : w * (q : Int) ∣ w * y.fdiv w := Int.dvd_trans (Int.mul_dvd_mul (Int.dvd_natAbs.mpr (Int.dvd_refl w)) (Int.dvd_refl _)) h1
    exact Int.dvd_of_mul_dvd_mul_left h0 h3
end K82
end

section
set_option Elab.async false
set_option linter.all false
set_option maxRecDepth 100000
set_option maxHeartbeats 1000000
set_option exponentiation.threshold 100000
open V3
local macro_rules | `(tactic| get_elem_tactic_extensible) => `(tactic| repeat' (first
  | with_reducible first
    | exact V3.skipS_go | exact V3.raiseS_go | exact V3.partN_go
    | apply V3.thenS_go | apply V3.asgS_go | apply V3.retS_go | apply V3.exprS_go | apply V3.op2_go | apply V3.op1_go | apply V3.vl_go | apply V3.consG_go | apply V3.consA_go | apply V3.opA_go | apply V3.op2g_go
    | apply V3.callN_go | apply V3.callL_gs | apply V3.callA_go | apply V3.tupE_go | apply V3.lstE_go | apply V3.dispF_go | apply V3.lsE_go | apply V3.tst_go | apply V3.blE_go | apply V3.m1_go | apply V3.partS_go | apply V3.slE_go
    | apply V3.parS_go | apply V3.retF_go | apply V3.repF_go | apply V3.lrgF_go | apply V3.tupS_go | apply V3.lstS_go | apply V3.strS_go | apply V3.rng1S_go | apply V3.forS_go | apply V3.augN_go | apply V3.setIx_gs | apply V3.asgO_go
  | ((with_reducible apply V3.ifS_gt); focus (get_elem_tactic_extensible; done)) | ((with_reducible apply V3.ifS_gf); focus (get_elem_tactic_extensible; done))
  | ((with_reducible apply V3.ifE_gt); focus (get_elem_tactic_extensible; done)) | ((with_reducible apply V3.ifE_gf); focus (get_elem_tactic_extensible; done))
  | ((with_reducible apply V3.andT_f); focus (get_elem_tactic_extensible; done)) | ((with_reducible apply V3.andT_t); focus (get_elem_tactic_extensible; done)) | with_reducible apply V3.andT_go
  | ((with_reducible apply V3.notT_f); focus (get_elem_tactic_extensible; done)) | ((with_reducible apply V3.notT_t); focus (get_elem_tactic_extensible; done)) | with_reducible apply V3.notT_go
  | ((with_reducible apply V3.orT_t); focus (get_elem_tactic_extensible; done)) | ((with_reducible apply V3.orT_f); focus (get_elem_tactic_extensible; done)) | with_reducible apply V3.orT_go
  | ((with_reducible apply V3.andE_f); focus (get_elem_tactic_extensible; done)) | ((with_reducible apply V3.andE_t); focus (get_elem_tactic_extensible; done)) | with_reducible apply V3.andE_go
  | ((with_reducible apply V3.orE_t); focus (get_elem_tactic_extensible; done)) | ((with_reducible apply V3.orE_f); focus (get_elem_tactic_extensible; done)) | with_reducible apply V3.orE_go
  | exact (rfl : V3.ret _ _ = _) | exact (rfl : V3.var _ _ = _) | exact (rfl : V3.own _ _ = _) | exact (rfl : V3.setI _ _ _ = _) | exact (rfl : List.set _ _ _ = _) | exact V3.setI_any rfl (by assumption) | exact (rfl : V3.resA _ _ = _) | exact (rfl : V3.slotL _ _ = _) | exact Eq.refl true
  | with_reducible assumption
  | exact V3.shb rfl
  | exact V3.cmp_t (decide_eq_true (by omega)) | exact V3.cmp_f (decide_eq_false (by omega)) | exact V3.eqI_t (by omega) | exact V3.eqI_f (by omega) | exact V3.neI_t (by omega) | exact V3.neI_f (by omega) | exact V3.modI (by decide)
  | exact (rfl : V3.addD _ _ = _) | exact (rfl : V3.subD _ _ = _) | exact (rfl : V3.negD _ = _) | exact (rfl : V3.notD _ = _) | exact (rfl : V3.cmpI _ _ _ = _) | exact (rfl : V3.lenD _ = _) | exact (rfl : V3.truD _ = _) | exact (rfl : V3.tupleD _ = _) | exact (rfl : V3.listD _ = _) | exact (rfl : V3.isiD _ _ = _) | exact (rfl : V3.isND _ _ = _) | exact (rfl : V3.isNotND _ _ = _)))
namespace K82
open PySem (Str sizeLine)
open V3 Pm
open L2 (ixN atI cutS)
open TL (tl spl numL joinL ext_tl tl_mk mk_tl len_tl tl_append tl_ofString)
open PySem.NumText (AllDigits digitsVal)
/-! Q32: the quotient that is drawn. -/
def SmK (n k : Nat) (a : P) : Prop := a.length ≤ n ∧ ∀ x ∈ a, x.natAbs < 10 ^ k
def GreatQ (t b : P) : Prop := Tr t ∧ Tr b ∧ IsQ t b ∧ ((SmK 4 12 t ∧ SmK 4 12 b) ∨ (SmK 3 25 t ∧ SmK 3 25 b))
theorem bn_ten {a : P} {k n : Nat} (h : ∀ x ∈ a, x.natAbs < 10 ^ k) (hn : 4 * k ≤ n) : Bn n a := fun x hx =>
  Nat.lt_of_lt_of_le (h x hx) (Nat.le_trans (ten_two k) (Nat.pow_le_pow_right (by decide) hn))
theorem form_great {t b : P} (ht : GoodP 4 t) (hb : GoodP 4 b) (nb : b ≠ []) : ∃ t' b', R__law_form [dP t, dP b] = .ok (.tup [dP t', dP b']) [] ∧ GreatQ t' b' := by
  by_cases nt : t = []
  · subst nt
    refine ⟨[], [1], R__law_form_nil, tr_nil, tr1, (form_nil tr1 (by decide)).mp rfl, .inl ⟨⟨by decide, fun x hx => by cases hx⟩, by decide, fun x hx => ?_⟩⟩
    rw [List.mem_singleton.mp hx]; decide
  obtain ⟨tt, tl', tm⟩ := ht
  obtain ⟨bt, bl', bm⟩ := hb
  obtain ⟨p, u, v, g, pr, hp, np, pos, hu, hv, nu, nv, et, eb, q1, ep, q2⟩ := R__law_form_eq tt bt nt nb (n := 48) (by decide) (by decide) (bn_ten tm (by decide)) (bn_ten bm (by decide)) (.inr ⟨5, by decide, by omega, by omega, by decide⟩)
  have lt := mulT_len hp hu np nu
  have lb := mulT_len hp hv np nv
  have hul := len_pos nu
  have hvl := len_pos nv
  have hpl := len_pos np
  rw [← et] at lt
  rw [← eb] at lb
  have wd : ∀ x ∈ u, fw u v ∣ x := fun x hx => fw_dvd (.inl hx)
  have wd2 : ∀ x ∈ v, fw u v ∣ x := fun x hx => fw_dvd (.inr hx)
  have w0 := fw_ne (u := u) hv nv
  have tu := divP_tr hu wd w0
  have tv := divP_tr hv wd2 w0
  have nv' : divP v (fw u v) ≠ [] := fun e => by
    have := divP_len v (fw u v)
    rw [e] at this
    exact nv (List.length_eq_zero_iff.mp this.symm)
  refine ⟨_, _, q2, tu, tv, ?_, ?_⟩
  · refine ⟨nv', ?_, ?_, ?_⟩
    · -- the sign
      have h1 : fw u v * ld (divP v (fw u v)) = ld v := by
        unfold divP ld
        rw [List.length_map, co_map (f := fun x => Int.fdiv x (fw u v)) (Int.zero_fdiv _)]
        exact fdiv_exact (wd2 _ (ld_mem nv)) w0
      have hlv := hv.ld nv
      have hc : (0 : Int) ≤ (contentP (u ++ v) : Int) := Int.natCast_nonneg _
      have sgn : (ld v < 0 ∧ fw u v ≤ 0) ∨ (0 < ld v ∧ 0 ≤ fw u v) := by
        unfold fw
        by_cases h : ld v < 0
        · rw [if_pos h]; exact .inl ⟨h, by omega⟩
        · rw [if_neg h]; exact .inr ⟨by omega, hc⟩
      refine Int.not_le.mp fun hle => ?_
      rcases sgn with ⟨s1, s2⟩ | ⟨s1, s2⟩
      · have := Int.mul_nonneg (show 0 ≤ -(fw u v) by omega) (show 0 ≤ -(ld (divP v (fw u v))) by omega)
        rw [Int.neg_mul_neg] at this
        omega
      · have := Int.mul_nonneg s2 (show 0 ≤ -(ld (divP v (fw u v))) by omega)
        rw [Int.mul_neg] at this
        omega
    · -- the contents
      rw [← cont_append]
      have e1 : divP u (fw u v) ++ divP v (fw u v) = divP (u ++ v) (fw u v) := by unfold divP; rw [List.map_append]
      have h1 := cont_div (u := u ++ v) (w := fw u v) (fun x hx => fw_dvd (List.mem_append.mp hx)) w0
      have h2 : (fw u v).natAbs = contentP (u ++ v) := by
        unfold fw
        split <;> simp
      rw [e1]
      rw [h2] at h1
      have h3 : contentP (u ++ v) ≠ 0 := by
        intro e
        rw [e] at h2
        exact w0 (Int.natAbs_eq_zero.mp h2)
      have : contentP (u ++ v) * contentP (divP (u ++ v) (fw u v)) = contentP (u ++ v) * 1 := by omega
      exact Nat.eq_of_mul_eq_mul_left (by omega) this
    · obtain ⟨g1, hg1⟩ := Euc_ex _ (plainP (divP u (fw u v))) (plainP (divP v (fw u v))) (Nat.le_refl _) (plain_tr tu) (plain_tr tv)
      refine ⟨g1, hg1, ?_⟩
      obtain ⟨g2, hg2⟩ := Euc_ex _ u v (Nat.le_refl _) hu hv
      have c := coprime hp np hu hv nv (g0 := g) (g1 := g2) (by rw [← et, ← eb]; exact q1) (by rw [ep]; exact (plain_sim (q1.tr tt bt)).symm) hg2
      have s := Euc_sim hg1 (plain_tr tu) (plain_tr tv) hg2 hu hv ((plain_sim tu).trans (divP_sim wd w0)) ((plain_sim tv).trans (divP_sim wd2 w0))
      rw [s.len (hg1.tr (plain_tr tu) (plain_tr tv)) (hg2.tr hu hv), c]
  · by_cases h1 : p.length = 1
    · have e1 := one_of_prim pr h1 pos
      have eu : t = u := by rw [et, e1, mulT_one hu]
      have ev : b = v := by rw [eb, e1, mulT_one hv]
      rw [eu] at tl' tm
      rw [ev] at bl' bm
      exact .inl ⟨⟨by rw [divP_len]; exact tl', divP_le wd w0 tm⟩, by rw [divP_len]; exact bl', divP_le wd2 w0 bm⟩
    · have key : ∀ {z y : P}, Tr z → z ≠ [] → y = mulT p z → y.length ≤ 4 → (∀ x ∈ y, x.natAbs < 10 ^ 12) → z.length ≤ 3 ∧ ∀ x ∈ z, x.natAbs < 10 ^ 25 := fun {z y} hz nz ez hl hm => by
        have lz := mulT_len hp hz np nz
        rw [← ez] at lz
        have hzl := len_pos nz
        obtain ⟨h1, h2⟩ := cof_bound (M := 10 ^ 12) hp np hz nz (by omega) (by omega) fun k => by
          rw [← co_mulT, ← ez]
          by_cases hk : k < y.length
          · exact hm _ (co_mem hk)
          · rw [co_ge (by omega)]; decide
        exact ⟨h1, fun x hx => Nat.lt_of_lt_of_le (h2 x hx) (by decide)⟩
      obtain ⟨a1, a2⟩ := key hu nu et tl' tm
      obtain ⟨b1, b2⟩ := key hv nv eb bl' bm
      exact .inr ⟨⟨by rw [divP_len]; exact a1, divP_le wd w0 a2⟩, by rw [divP_len]; exact b1, divP_le wd2 w0 b2⟩
theorem G__law_quotient_eq {es : List D} (h : Pur es) : ∃ (t b : P) (es' : List D), CokL G__law_quotient es [.int 4, .int (10 ^ 12)] (.tup [dP t, dP b]) es' ∧ GreatQ t b ∧ Pur es' := by
  obtain ⟨t, es1, c1, ht, P1⟩ := G__law_poly_eq (n := 4) (by decide) h
  obtain ⟨b, es2, c2, hb, P2⟩ := G__law_poly_eq (n := 4) (by decide) P1
  have c1' : CokL G__law_poly es [.int 4, .int (10 ^ 12)] (dP t) es1 := c1
  have c2' : CokL G__law_poly es1 [.int 4, .int (10 ^ 12)] (dP b) es2 := c2
  have s1 : parS 3 4 (consA (callL G__law_poly 0 (consA (var 1) (consA (var 2) (ret [])))) (consA (callL G__law_poly 0 (consA (var 1) (consA (var 2) (ret [])))) (ret []))) [.ow es, .im (.int 4), .im (.int (10 ^ 12)), .un, .un] = .ok .nx [.ow es2, .im (.int 4), .im (.int (10 ^ 12)), .im (dP t), .im (dP b)] := by
    get_elem_tactic_extensible
  have e0 : eqD (dP b) (.tup []) = some (.bl (decide (b = []))) := eqD_dP b []
  obtain ⟨b', es3, hb', nb', P3, s2⟩ : ∃ (b' : P) (es3 : List D), GoodP 4 b' ∧ b' ≠ [] ∧ Pur es3 ∧ ifS (blE (op2 eqD (var 4) (tupE (ret [])))) (asgS 4 (tupE (consA (op2 addD (ret (.int 1)) (callL G__law_draw 0 (consA (ret (.int 9)) (ret [])))) (ret [])))) skipS [.ow es2, .im (.int 4), .im (.int (10 ^ 12)), .im (dP t), .im (dP b)] = .ok .nx [.ow es3, .im (.int 4), .im (.int (10 ^ 12)), .im (dP t), .im (dP b')] := by
    by_cases hbn : b = []
    · obtain ⟨w, es3, c3, w0, w1, P3⟩ := G__law_draw_eq P2 (n := 9) (by decide) (by decide)
      rw [decide_eq_true hbn] at e0
      refine ⟨[1 + w], es3, ⟨tr_one (by omega), by simp, fun x hx => ?_⟩, by simp, P3, ?_⟩
      · rw [List.mem_singleton.mp hx]
        have : (10 : Nat) ^ 12 = 1000000000000 := rfl
        omega
      · exact ifS_gt (blE_go (op2_go rfl (tupE_go rfl (shb rfl)) e0)) (asgS_go (tupE_go (consA_go (op2_go rfl (callL_go rfl rfl rfl c3) rfl) rfl) (shb rfl)) rfl)
    · rw [decide_eq_false hbn] at e0
      exact ⟨b, es2, hb, hbn, P2, ifS_gf (blE_go (op2_go rfl (tupE_go rfl (shb rfl)) e0)) rfl⟩
  obtain ⟨t', b'', q1, q2⟩ := form_great ht hb' nb'
  refine ⟨t', b'', es3, ?_, q2, P3⟩
  refine runL_ok (np := 3) (N := 5) (m := m__law_quotient) (ρ' := [.ow es3, .im (.int 4), .im (.int (10 ^ 12)), .im (dP t), .im (dP b')]) rfl ?_ rfl
  unfold m__law_quotient
  exact thenS_go s1 (thenS_go s2 (retS_go (callA_go (consG_go (vl_go rfl) (consG_go (vl_go rfl) rfl)) rfl (cok q1) rfl)))
end K82
end

section
set_option Elab.async false
set_option linter.all false
set_option maxRecDepth 100000
set_option maxHeartbeats 1000000
set_option exponentiation.threshold 100000
open V3
local macro_rules | `(tactic| get_elem_tactic_extensible) => `(tactic| repeat' (first
  | with_reducible first
    | exact V3.skipS_go | exact V3.raiseS_go | exact V3.partN_go
    | apply V3.thenS_go | apply V3.asgS_go | apply V3.retS_go | apply V3.exprS_go | apply V3.op2_go | apply V3.op1_go | apply V3.vl_go | apply V3.consG_go | apply V3.consA_go | apply V3.opA_go | apply V3.op2g_go
    | apply V3.callN_go | apply V3.callL_gs | apply V3.callA_go | apply V3.tupE_go | apply V3.lstE_go | apply V3.dispF_go | apply V3.lsE_go | apply V3.tst_go | apply V3.blE_go | apply V3.m1_go | apply V3.partS_go | apply V3.slE_go
    | apply V3.parS_go | apply V3.retF_go | apply V3.repF_go | apply V3.lrgF_go | apply V3.tupS_go | apply V3.lstS_go | apply V3.strS_go | apply V3.rng1S_go | apply V3.forS_go | apply V3.augN_go | apply V3.setIx_gs | apply V3.asgO_go
  | ((with_reducible apply V3.ifS_gt); focus (get_elem_tactic_extensible; done)) | ((with_reducible apply V3.ifS_gf); focus (get_elem_tactic_extensible; done))
  | ((with_reducible apply V3.ifE_gt); focus (get_elem_tactic_extensible; done)) | ((with_reducible apply V3.ifE_gf); focus (get_elem_tactic_extensible; done))
  | ((with_reducible apply V3.andT_f); focus (get_elem_tactic_extensible; done)) | ((with_reducible apply V3.andT_t); focus (get_elem_tactic_extensible; done)) | with_reducible apply V3.andT_go
  | ((with_reducible apply V3.notT_f); focus (get_elem_tactic_extensible; done)) | ((with_reducible apply V3.notT_t); focus (get_elem_tactic_extensible; done)) | with_reducible apply V3.notT_go
  | ((with_reducible apply V3.orT_t); focus (get_elem_tactic_extensible; done)) | ((with_reducible apply V3.orT_f); focus (get_elem_tactic_extensible; done)) | with_reducible apply V3.orT_go
  | ((with_reducible apply V3.andE_f); focus (get_elem_tactic_extensible; done)) | ((with_reducible apply V3.andE_t); focus (get_elem_tactic_extensible; done)) | with_reducible apply V3.andE_go
  | ((with_reducible apply V3.orE_t); focus (get_elem_tactic_extensible; done)) | ((with_reducible apply V3.orE_f); focus (get_elem_tactic_extensible; done)) | with_reducible apply V3.orE_go
  | exact (rfl : V3.ret _ _ = _) | exact (rfl : V3.var _ _ = _) | exact (rfl : V3.own _ _ = _) | exact (rfl : V3.setI _ _ _ = _) | exact (rfl : List.set _ _ _ = _) | exact V3.setI_any rfl (by assumption) | exact (rfl : V3.resA _ _ = _) | exact (rfl : V3.slotL _ _ = _) | exact Eq.refl true
  | with_reducible assumption
  | exact V3.shb rfl
  | exact V3.cmp_t (decide_eq_true (by omega)) | exact V3.cmp_f (decide_eq_false (by omega)) | exact V3.eqI_t (by omega) | exact V3.eqI_f (by omega) | exact V3.neI_t (by omega) | exact V3.neI_f (by omega) | exact V3.modI (by decide)
  | exact (rfl : V3.addD _ _ = _) | exact (rfl : V3.subD _ _ = _) | exact (rfl : V3.negD _ = _) | exact (rfl : V3.notD _ = _) | exact (rfl : V3.cmpI _ _ _ = _) | exact (rfl : V3.lenD _ = _) | exact (rfl : V3.truD _ = _) | exact (rfl : V3.tupleD _ = _) | exact (rfl : V3.listD _ = _) | exact (rfl : V3.isiD _ _ = _) | exact (rfl : V3.isND _ _ = _) | exact (rfl : V3.isNotND _ _ = _)))
namespace K82
open PySem (Str sizeLine)
open V3 Pm
open L2 (ixN atI cutS)
open TL (tl spl numL joinL ext_tl tl_mk mk_tl len_tl tl_append tl_ofString)
open PySem.NumText (AllDigits digitsVal)
/-! Q33: short texts leave room for Euclid. -/
def Sz (l : List Nat) : Prop := Pl l ∧ ((l.length ≤ 115 ∧ l.count 32 ≤ 10) ∨ (l.length ≤ 165 ∧ l.count 32 ≤ 8))
theorem joinL_count {s : List Nat} : ∀ (ps : List (List Nat)), ps.length ≤ (joinL s ps).count 32 + 1 ∨ s.count 32 = 0
  | [] => .inl (by simp)
  | [p] => .inl (by simp [joinL])
  | p :: q :: r => by
    rcases joinL_count (s := s) (q :: r) with h | h
    · by_cases h0 : s.count 32 = 0
      · exact .inr h0
      · have e : joinL s (p :: q :: r) = p ++ (s ++ joinL s (q :: r)) := rfl
        rw [e, List.count_append, List.count_append]
        refine .inl ?_
        simp at h ⊢
        omega
    · exact .inr h
theorem joinL_word {s : List Nat} {ps : List (List Nat)} {p : List Nat} (h : p ∈ ps) : p.length + (ps.length - 1) * s.length ≤ (joinL s ps).length := by
  rcases joinL_len (s := s) ps with h1 | h1
  · have h2 : p.length ≤ (ps.map (·.length)).sum := by
      have : ∀ (l : List (List Nat)), p ∈ l → p.length ≤ (l.map (·.length)).sum := by
        intro l
        induction l with
        | nil => intro h; cases h
        | cons a r ih =>
          intro h
          rcases List.mem_cons.mp h with rfl | h
          · simp
          · have := ih h
            simp; omega
      exact this ps h
    have hp : 0 < ps.length := List.length_pos_iff.mpr (List.ne_nil_of_mem h)
    have h3 : ps.length * s.length = (ps.length - 1) * s.length + s.length := by
      obtain ⟨q, hq⟩ : ∃ q, ps.length = q + 1 := ⟨ps.length - 1, by omega⟩
      rw [hq, Nat.add_mul, Nat.one_mul, Nat.add_sub_cancel]
    omega
  · rw [h1] at h; cases h
theorem words_len (l : List Nat) : (words l).length ≤ l.count 32 + 1 ∧ ∀ w ∈ words l, w.length + ((words l).length - 1) ≤ l.length := by
  have e := join_spl (s := [32]) (l := l) (by simp) k32
  constructor
  · rcases joinL_count (s := [32]) (words l) with h | h
    · rw [e] at h; exact h
    · simp at h
  · intro w hw
    have := joinL_word (s := [32]) hw
    rw [e] at this
    simpa using this
/-- the figures of a polynomial that a text writes -/
theorem polyO_sz {a : List Nat} {t : P} (h : polyO a = some t) : t.length ≤ (words a).length ∧ ∀ x ∈ t, x.natAbs < 10 ^ (a.length - ((words a).length - 1)) := by
  unfold polyO at h
  split at h
  · cases h
    exact ⟨by simp, fun x hx => by cases hx⟩
  · split at h
    · rename_i h2
      cases h
      refine ⟨by simp, fun x hx => ?_⟩
      obtain ⟨w, hw, rfl⟩ := List.mem_map.mp hx
      have h1 := (words_len a).2 w hw
      exact Nat.lt_of_lt_of_le (wval_lt (List.all_eq_true.mp h2.1 w hw)) (Nat.pow_le_pow_right (by decide) (by omega))
    · cases h
theorem bn_k {t : P} {k n : Nat} (h : ∀ x ∈ t, x.natAbs < 10 ^ k) {K : Nat} (hk : k ≤ K) (hK : 10 ^ K ≤ 2 ^ n) : Bn n t := fun x hx =>
  Nat.lt_of_lt_of_le (h x hx) (Nat.le_trans (Nat.pow_le_pow_right (by decide) hk) hK)
theorem fit_of {l : List Nat} (h : Sz l) : FitT l := by
  obtain ⟨hp, hs⟩ := h
  unfold FitT
  have hj := join_spl (s := [32, 47, 32]) (l := l) (by simp) kbar
  have hn : parts2 l ≠ [] := spl_ne _ _ _
  have ej : joinL [32, 47, 32] (parts2 l) = l := hj
  clear hj
  generalize parts2 l = ws at *
  match ws with
  | [] => exact absurd rfl hn
  | [a] =>
    have e : a = l := ej
    subst e
    dsimp only
    intro t ht
    obtain ⟨h1, h2⟩ := polyO_sz ht
    have h3 := (words_len a).1
    have b1 : ∀ n, 1 ≤ n → Bn n [1] := fun n hn x hx => by
      rw [List.mem_singleton.mp hx]
      exact Nat.lt_of_lt_of_le (by decide : (1 : Int).natAbs < 2 ^ 1) (Nat.pow_le_pow_right (by decide) hn)
    rcases hs with ⟨s1, s2⟩ | ⟨s1, s2⟩
    · refine ⟨383, by decide, by decide, bn_k h2 (K := 115) (by omega) (by decide), b1 _ (by decide), .inl ⟨by simp, by omega, ?_⟩⟩
      have : (1 + t.length) * (383 + 1) ≤ 12 * (383 + 1) := Nat.mul_le_mul_right _ (by omega)
      omega
    · refine ⟨549, by decide, by decide, bn_k h2 (K := 165) (by omega) (by decide), b1 _ (by decide), .inl ⟨by simp, by omega, ?_⟩⟩
      have : (1 + t.length) * (549 + 1) ≤ 10 * (549 + 1) := Nat.mul_le_mul_right _ (by omega)
      omega
  | [a, b] =>
    have e : a ++ ([32, 47, 32] ++ b) = l := ej
    dsimp only
    intro t v ht hv
    obtain ⟨t1, t2⟩ := polyO_sz ht
    obtain ⟨v1, v2⟩ := polyO_sz hv
    have a3 := (words_len a).1
    have b3 := (words_len b).1
    have ha0 : words a ≠ [] := spl_ne _ _ _
    have hb0 : words b ≠ [] := spl_ne _ _ _
    have ha1 := List.length_pos_iff.mpr ha0
    have hb1 := List.length_pos_iff.mpr hb0
    have la : (words a).length - 1 ≤ a.length := by
      obtain ⟨w, hw⟩ := List.exists_mem_of_ne_nil _ ha0
      have := (words_len a).2 w hw
      omega
    have lb : (words b).length - 1 ≤ b.length := by
      obtain ⟨w, hw⟩ := List.exists_mem_of_ne_nil _ hb0
      have := (words_len b).2 w hw
      omega
    have el : a.length + 3 + b.length = l.length := by rw [← e]; simp; omega
    have ec : a.count 32 + 2 + b.count 32 = l.count 32 := by
      rw [← e, List.count_append, List.count_append]
      have : List.count 32 [32, 47, 32] = 2 := by decide
      omega
    rcases hs with ⟨s1, s2⟩ | ⟨s1, s2⟩
    · by_cases hW : (words a).length + (words b).length = 10
      · exact ⟨346, by decide, by decide, bn_k t2 (K := 104) (by omega) (by decide), bn_k v2 (K := 104) (by omega) (by decide), .inr ⟨7, by decide, by omega, by omega, by decide⟩⟩
      · exact ⟨383, by decide, by decide, bn_k t2 (K := 115) (by omega) (by decide), bn_k v2 (K := 115) (by omega) (by decide), .inr ⟨6, by decide, by omega, by omega, by decide⟩⟩
    · exact ⟨549, by decide, by decide, bn_k t2 (K := 165) (by omega) (by decide), bn_k v2 (K := 165) (by omega) (by decide), .inr ⟨5, by decide, by omega, by omega, by decide⟩⟩
  | a :: b :: c :: r => trivial
/-- texts that are written -/
def Wr (l : List Nat) : Prop := Pl l ∧ ((l.length ≤ 113 ∧ l.count 32 ≤ 8) ∨ (l.length ≤ 163 ∧ l.count 32 ≤ 6))
theorem Wr.sz {l : List Nat} (h : Wr l) : Sz l := ⟨h.1, h.2.imp (fun h => ⟨by omega, by omega⟩) (fun h => ⟨by omega, by omega⟩)⟩
end K82
end

section
set_option Elab.async false
set_option linter.all false
set_option maxRecDepth 100000
set_option maxHeartbeats 1000000
set_option exponentiation.threshold 100000
open V3
local macro_rules | `(tactic| get_elem_tactic_extensible) => `(tactic| repeat' (first
  | with_reducible first
    | exact V3.skipS_go | exact V3.raiseS_go | exact V3.partN_go
    | apply V3.thenS_go | apply V3.asgS_go | apply V3.retS_go | apply V3.exprS_go | apply V3.op2_go | apply V3.op1_go | apply V3.vl_go | apply V3.consG_go | apply V3.consA_go | apply V3.opA_go | apply V3.op2g_go
    | apply V3.callN_go | apply V3.callL_gs | apply V3.callA_go | apply V3.tupE_go | apply V3.lstE_go | apply V3.dispF_go | apply V3.lsE_go | apply V3.tst_go | apply V3.blE_go | apply V3.m1_go | apply V3.partS_go | apply V3.slE_go
    | apply V3.parS_go | apply V3.retF_go | apply V3.repF_go | apply V3.lrgF_go | apply V3.tupS_go | apply V3.lstS_go | apply V3.strS_go | apply V3.rng1S_go | apply V3.forS_go | apply V3.augN_go | apply V3.setIx_gs | apply V3.asgO_go
  | ((with_reducible apply V3.ifS_gt); focus (get_elem_tactic_extensible; done)) | ((with_reducible apply V3.ifS_gf); focus (get_elem_tactic_extensible; done))
  | ((with_reducible apply V3.ifE_gt); focus (get_elem_tactic_extensible; done)) | ((with_reducible apply V3.ifE_gf); focus (get_elem_tactic_extensible; done))
  | ((with_reducible apply V3.andT_f); focus (get_elem_tactic_extensible; done)) | ((with_reducible apply V3.andT_t); focus (get_elem_tactic_extensible; done)) | with_reducible apply V3.andT_go
  | ((with_reducible apply V3.notT_f); focus (get_elem_tactic_extensible; done)) | ((with_reducible apply V3.notT_t); focus (get_elem_tactic_extensible; done)) | with_reducible apply V3.notT_go
  | ((with_reducible apply V3.orT_t); focus (get_elem_tactic_extensible; done)) | ((with_reducible apply V3.orT_f); focus (get_elem_tactic_extensible; done)) | with_reducible apply V3.orT_go
  | ((with_reducible apply V3.andE_f); focus (get_elem_tactic_extensible; done)) | ((with_reducible apply V3.andE_t); focus (get_elem_tactic_extensible; done)) | with_reducible apply V3.andE_go
  | ((with_reducible apply V3.orE_t); focus (get_elem_tactic_extensible; done)) | ((with_reducible apply V3.orE_f); focus (get_elem_tactic_extensible; done)) | with_reducible apply V3.orE_go
  | exact (rfl : V3.ret _ _ = _) | exact (rfl : V3.var _ _ = _) | exact (rfl : V3.own _ _ = _) | exact (rfl : V3.setI _ _ _ = _) | exact (rfl : List.set _ _ _ = _) | exact V3.setI_any rfl (by assumption) | exact (rfl : V3.resA _ _ = _) | exact (rfl : V3.slotL _ _ = _) | exact Eq.refl true
  | with_reducible assumption
  | exact V3.shb rfl
  | exact V3.cmp_t (decide_eq_true (by omega)) | exact V3.cmp_f (decide_eq_false (by omega)) | exact V3.eqI_t (by omega) | exact V3.eqI_f (by omega) | exact V3.neI_t (by omega) | exact V3.neI_f (by omega) | exact V3.modI (by decide)
  | exact (rfl : V3.addD _ _ = _) | exact (rfl : V3.subD _ _ = _) | exact (rfl : V3.negD _ = _) | exact (rfl : V3.notD _ = _) | exact (rfl : V3.cmpI _ _ _ = _) | exact (rfl : V3.lenD _ = _) | exact (rfl : V3.truD _ = _) | exact (rfl : V3.tupleD _ = _) | exact (rfl : V3.listD _ = _) | exact (rfl : V3.isiD _ _ = _) | exact (rfl : V3.isND _ _ = _) | exact (rfl : V3.isNotND _ _ = _)))
namespace K82
open PySem (Str sizeLine)
open V3 Pm
open L2 (ixN atI cutS)
open TL (tl spl numL joinL ext_tl tl_mk mk_tl len_tl tl_append tl_ofString)
open PySem.NumText (AllDigits digitsVal)
/-! Q34: written texts are short; bent texts. -/
theorem joinL_cnt : ∀ {ps : List (List Nat)}, (∀ p ∈ ps, 32 ∉ p) → (joinL [32] ps).count 32 ≤ ps.length - 1
  | [], _ => by simp [joinL]
  | [p], h => by
    show p.count 32 ≤ _
    rw [List.count_eq_zero_of_not_mem (h p (by simp))]
    simp
  | p :: q :: r, h => by
    have ih := joinL_cnt (ps := q :: r) fun z hz => h z (List.mem_cons_of_mem _ hz)
    have e : joinL [32] (p :: q :: r) = p ++ ([32] ++ joinL [32] (q :: r)) := rfl
    rw [e, List.count_append, List.count_append, List.count_eq_zero_of_not_mem (h p (by simp))]
    have : List.count 32 [32] = 1 := by decide
    simp at ih ⊢
    omega
theorem sum_k {k : Nat} (hk : 0 < k) : ∀ {a : P}, (∀ x ∈ a, x.natAbs < 10 ^ k) → ((a.map showI).map (·.length)).sum ≤ (k + 1) * a.length
  | [], _ => by simp
  | x :: a, h => by
    have h1 := show_len (k := k) hk (h x (List.mem_cons_self ..))
    have h2 := sum_k hk (a := a) fun y hy => h y (List.mem_cons_of_mem _ hy)
    simp only [List.map_cons, List.sum_cons, List.length_cons, Nat.mul_add]
    omega
theorem polyT_sz {n k : Nat} {a : P} (hk : 0 < k) (hn : 0 < n) (h : SmK n k a) : (polyT a).length + 1 ≤ (k + 2) * n ∧ (polyT a).count 32 ≤ n - 1 := by
  unfold polyT
  have hkn : 2 * 1 ≤ (k + 2) * n := Nat.mul_le_mul (by omega) hn
  split
  · refine ⟨by simp; omega, ?_⟩
    have : List.count 32 [48] = 0 := by decide
    omega
  · rename_i h0
    have h1 := sum_k hk h.2
    have h2 : (k + 2) * a.length ≤ (k + 2) * n := Nat.mul_le_mul_left _ h.1
    have h3 : (k + 2) * a.length = (k + 1) * a.length + a.length := by rw [show k + 2 = (k + 1) + 1 from rfl, Nat.add_mul, Nat.one_mul]
    constructor
    · rcases joinL_len (s := [32]) (a.map showI) with h4 | h4
      · simp at h1 h4 ⊢
        omega
      · exact absurd (List.map_eq_nil_iff.mp h4) h0
    · have h5 := joinL_cnt (ps := a.map showI) fun p hp => by
        obtain ⟨i, _, rfl⟩ := List.mem_map.mp hp
        exact show_free (by decide)
      have := h.1
      simp at h5
      omega
theorem numT_wr {t b : Int} (h : GoodN t b) : Wr (numT t b) := by
  have h1 := show_len (k := 12) (by decide) h.2.2.1
  have h2 := show_len (k := 12) (by decide) h.2.2.2
  have f : ∀ i : Int, (showI i).count 32 = 0 := fun i => List.count_eq_zero_of_not_mem (show_free (by decide))
  refine ⟨numT_pl t b, .inl ?_⟩
  unfold numT
  split
  · exact ⟨by omega, by rw [f]; omega⟩
  · refine ⟨by simp; omega, ?_⟩
    rw [List.count_append, f, List.count_cons, f]
    decide
theorem polyT_wr {a : P} (h : GoodP 5 a) : Wr (polyT a) := by
  obtain ⟨h1, h2⟩ := polyT_sz (n := 5) (k := 12) (by decide) (by decide) ⟨h.2.1, h.2.2⟩
  exact ⟨polyT_pl a, .inl ⟨by omega, by omega⟩⟩
theorem quotT_wr {t b : P} (h : GreatQ t b) : Wr (quotT t b) := by
  refine ⟨quotT_pl t b, ?_⟩
  have e : List.count 32 [32, 47, 32] = 2 := by decide
  rcases h.2.2.2 with ⟨a1, a2⟩ | ⟨a1, a2⟩
  · obtain ⟨h1, h2⟩ := polyT_sz (by decide) (by decide) a1
    obtain ⟨h3, h4⟩ := polyT_sz (by decide) (by decide) a2
    unfold quotT
    split
    · exact .inl ⟨by omega, by omega⟩
    · exact .inl ⟨by simp; omega, by rw [List.count_append, List.count_append, e]; omega⟩
  · obtain ⟨h1, h2⟩ := polyT_sz (by decide) (by decide) a1
    obtain ⟨h3, h4⟩ := polyT_sz (by decide) (by decide) a2
    unfold quotT
    split
    · exact .inr ⟨by omega, by omega⟩
    · exact .inr ⟨by simp; omega, by rw [List.count_append, List.count_append, e]; omega⟩
theorem lit_signs : (D.str (Str.ofString "0123456789- /[]-x .+0 /1")) = T [48, 49, 50, 51, 52, 53, 54, 55, 56, 57, 45, 32, 47, 91, 93, 45, 120, 32, 46, 43, 48, 32, 47, 49] := lit _ (by decide)
theorem mulT1 {c : Nat} {k : Int} (h : k = 0 ∨ k = 1) : mulD (T [c]) (.int k) = some (T (if k = 1 then [c] else [])) := by
  rcases h with rfl | rfl <;> rfl
theorem count_take_drop (l : List Nat) (i j : Nat) (h : i ≤ j) : (l.take i).count 32 + (l.drop j).count 32 ≤ l.count 32 := by
  have h1 : l.count 32 = (l.take i).count 32 + (l.drop i).count 32 := by
    rw [← List.count_append, List.take_append_drop]
  have h2 : (l.drop j).count 32 ≤ (l.drop i).count 32 := by
    have : l.drop j = (l.drop i).drop (j - i) := by rw [List.drop_drop]; congr 1; omega
    rw [this]
    exact List.Sublist.count_le (a := 32) (List.drop_sublist _ _)
  omega
theorem bentstep {es : List D} {l : List Nat} {a b c d : Sl} (h : Pur es) (hp : Pl l) (hl : l.length ≤ 1000) (hb : ∀ es, b ≠ .ow es) (hc : ∀ es, c ≠ .ow es) (hd : ∀ es, d ≠ .ow es) :
    ∃ (es' : List D) (l' : List Nat) (b' c' d' : Sl), Pur es' ∧ Pl l' ∧ l'.length ≤ l.length + 1 ∧ l'.count 32 ≤ l.count 32 + 1 ∧ (∀ es, b' ≠ Sl.ow es) ∧ (∀ es, c' ≠ Sl.ow es) ∧ (∀ es, d' ≠ Sl.ow es) ∧
      _law_bent_text_f1b [.ow es, .im (T l), a, b, c, d] = .ok .nx [.ow es', .im (T l'), a, b', c', d'] := by
  obtain ⟨w, es1, c1, w0, w1, P1⟩ := G__law_draw_eq h (n := (l.length : Int) + 1) (by omega) (by have : (10 : Int) ^ 16 = 10000000000000000 := rfl; omega)
  obtain ⟨x, es2, c2, x0, x1, P2⟩ := G__law_draw_eq P1 (n := 24) (by decide) (by decide)
  obtain ⟨y, es3, c3, y0, y1, P3⟩ := G__law_draw_eq P2 (n := 3) (by decide) (by decide)
  obtain ⟨i, rfl⟩ : ∃ i : Nat, w = i := ⟨w.toNat, by omega⟩
  obtain ⟨sg, hsg, sgl⟩ : ∃ sg : Nat, ixD (.str "0123456789- /[]-x .+0 /1") (.int x) = some (T [sg]) ∧ sg < 256 := by
    obtain ⟨j, rfl⟩ : ∃ j : Nat, x = j := ⟨x.toNat, by omega⟩
    rw [lit_signs]
    have hj : j < [48, 49, 50, 51, 52, 53, 54, 55, 56, 57, 45, 32, 47, 91, 93, 45, 120, 32, 46, 43, 48, 32, 47, 49].length := by
      show j < 24
      omega
    refine ⟨_, ixT hj (by decide), ?_⟩
    have : Pl [48, 49, 50, 51, 52, 53, 54, 55, 56, 57, 45, 32, 47, 91, 93, 45, 120, 32, 46, 43, 48, 32, 47, 49] := pl_lit (by decide)
    exact this _ (List.getElem_mem hj)
  have ln := lenD_T (l := l) (by omega)
  have k1 : ∃ k : Int, (k = 0 ∨ k = 1) ∧ intD [.bl (decide (y < 2))] = some (.int k) := by
    by_cases h : y < 2
    · exact ⟨1, .inr rfl, by rw [decide_eq_true h]; rfl⟩
    · exact ⟨0, .inl rfl, by rw [decide_eq_false h]; rfl⟩
  have k2 : ∃ k : Nat, k ≤ 1 ∧ intD [.bl (decide (0 < y))] = some (.int (k : Int)) := by
    by_cases h : 0 < y
    · exact ⟨1, by omega, by rw [decide_eq_true h]; rfl⟩
    · exact ⟨0, by omega, by rw [decide_eq_false h]; rfl⟩
  obtain ⟨k, hk, k1⟩ := k1
  obtain ⟨q, hq, k2⟩ := k2
  have g1 : sl1 none (some (i : Int)) [T l] = some (T (l.take i)) := slT_to (by omega)
  have g2 : sl1 (some (((i + q : Nat)) : Int)) none [T l] = some (T (l.drop (i + q))) := slT_from (by omega)
  have g2' : addD (.int (i : Int)) (.int (q : Int)) = some (.int (((i + q : Nat)) : Int)) := by
    show some (D.int _) = _
    congr 2
  have g3 := mulT1 (c := sg) hk
  have hcl : (if k = 1 then [sg] else []).length ≤ 1 := by split <;> simp
  have g4 : addD (T (l.take i)) (T (if k = 1 then [sg] else [])) = some (T (l.take i ++ (if k = 1 then [sg] else []))) := addT (by simp only [List.length_take]; omega)
  have g5 : addD (T (l.take i ++ (if k = 1 then [sg] else []))) (T (l.drop (i + q))) = some (T (l.take i ++ (if k = 1 then [sg] else []) ++ l.drop (i + q))) := addT (by simp only [List.length_append, List.length_take, List.length_drop]; omega)
  refine ⟨es3, l.take i ++ (if k = 1 then [sg] else []) ++ l.drop (i + q), .im (.int (i : Int)), .im (T [sg]), .im (.int y), P3, ?_, ?_, ?_, (fun _ z => by cases z), (fun _ z => by cases z), (fun _ z => by cases z), ?_⟩
  · intro c hc
    rcases List.mem_append.mp hc with hc | hc
    · rcases List.mem_append.mp hc with hc | hc
      · exact hp.take i c hc
      · split at hc
        · rw [List.mem_singleton.mp hc]; exact sgl
        · cases hc
    · exact hp.drop _ c hc
  · simp only [List.length_append, List.length_take, List.length_drop]
    omega
  · rw [List.count_append, List.count_append]
    have h1 := count_take_drop l i (i + q) (by omega)
    have h2 : List.count 32 (if k = 1 then [sg] else []) ≤ 1 := Nat.le_trans List.count_le_length hcl
    omega
  · unfold _law_bent_text_f1b
    refine thenS_go (ρ1 := [.ow es1, .im (T l), a, .im (.int (i : Int)), c, d]) (asgS_go (callL_go rfl (consA_go (op2_go (opA_go (consG_go (vl_go rfl) rfl) rfl ln rfl) rfl rfl) rfl) rfl c1) (setI_any rfl hb)) ?_
    refine thenS_go (ρ1 := [.ow es2, .im (T l), a, .im (.int (i : Int)), .im (T [sg]), d]) (asgS_go (op2_go rfl (callL_go rfl rfl rfl c2) hsg) (setI_any rfl hc)) ?_
    refine thenS_go (ρ1 := [.ow es3, .im (T l), a, .im (.int (i : Int)), .im (T [sg]), .im (.int y)]) (asgS_go (callL_go rfl rfl rfl c3) (setI_any rfl hd)) ?_
    have u1 : op2 mulD (var 4) (opA intD (consG (vl (op2 (cmpI fun i j => decide (i < j)) (var 5) (ret (.int 2)))) (ret []))) [.ow es3, .im (T l), a, .im (.int (i : Int)), .im (T [sg]), .im (.int y)] = .ok (T (if k = 1 then [sg] else [])) [.ow es3, .im (T l), a, .im (.int (i : Int)), .im (T [sg]), .im (.int y)] :=
      op2_go rfl (opA_go (consG_go (vl_go (op2_go rfl rfl rfl)) rfl) rfl k1 rfl) g3
    have u2 : slE (vl (var 1)) (partS (op2 addD (var 3) (opA intD (consG (vl (op2 (cmpI fun i j => decide (j < i)) (var 5) (ret (.int 0)))) (ret []))))) partN [.ow es3, .im (T l), a, .im (.int (i : Int)), .im (T [sg]), .im (.int y)] = .ok (T (l.drop (i + q))) [.ow es3, .im (T l), a, .im (.int (i : Int)), .im (T [sg]), .im (.int y)] :=
      slE_go rfl (partS_go (op2_go rfl (opA_go (consG_go (vl_go (op2_go rfl rfl rfl)) rfl) rfl k2 rfl) g2')) rfl rfl g2 rfl
    have u3 : slE (vl (var 1)) partN (partS (var 3)) [.ow es3, .im (T l), a, .im (.int (i : Int)), .im (T [sg]), .im (.int y)] = .ok (T (l.take i)) [.ow es3, .im (T l), a, .im (.int (i : Int)), .im (T [sg]), .im (.int y)] :=
      slE_go rfl rfl (partS_go rfl) rfl g1 rfl
    exact asgS_go (op2_go (op2_go u3 u1 g4) u2 g5) rfl
end K82
end

section
set_option Elab.async false
set_option linter.all false
set_option maxRecDepth 100000
set_option maxHeartbeats 1000000
set_option exponentiation.threshold 100000
open V3
local macro_rules | `(tactic| get_elem_tactic_extensible) => `(tactic| repeat' (first
  | with_reducible first
    | exact V3.skipS_go | exact V3.raiseS_go | exact V3.partN_go
    | apply V3.thenS_go | apply V3.asgS_go | apply V3.retS_go | apply V3.exprS_go | apply V3.op2_go | apply V3.op1_go | apply V3.vl_go | apply V3.consG_go | apply V3.consA_go | apply V3.opA_go | apply V3.op2g_go
    | apply V3.callN_go | apply V3.callL_gs | apply V3.callA_go | apply V3.tupE_go | apply V3.lstE_go | apply V3.dispF_go | apply V3.lsE_go | apply V3.tst_go | apply V3.blE_go | apply V3.m1_go | apply V3.partS_go | apply V3.slE_go
    | apply V3.parS_go | apply V3.retF_go | apply V3.repF_go | apply V3.lrgF_go | apply V3.tupS_go | apply V3.lstS_go | apply V3.strS_go | apply V3.rng1S_go | apply V3.forS_go | apply V3.augN_go | apply V3.setIx_gs | apply V3.asgO_go
  | ((with_reducible apply V3.ifS_gt); focus (get_elem_tactic_extensible; done)) | ((with_reducible apply V3.ifS_gf); focus (get_elem_tactic_extensible; done))
  | ((with_reducible apply V3.ifE_gt); focus (get_elem_tactic_extensible; done)) | ((with_reducible apply V3.ifE_gf); focus (get_elem_tactic_extensible; done))
  | ((with_reducible apply V3.andT_f); focus (get_elem_tactic_extensible; done)) | ((with_reducible apply V3.andT_t); focus (get_elem_tactic_extensible; done)) | with_reducible apply V3.andT_go
  | ((with_reducible apply V3.notT_f); focus (get_elem_tactic_extensible; done)) | ((with_reducible apply V3.notT_t); focus (get_elem_tactic_extensible; done)) | with_reducible apply V3.notT_go
  | ((with_reducible apply V3.orT_t); focus (get_elem_tactic_extensible; done)) | ((with_reducible apply V3.orT_f); focus (get_elem_tactic_extensible; done)) | with_reducible apply V3.orT_go
  | ((with_reducible apply V3.andE_f); focus (get_elem_tactic_extensible; done)) | ((with_reducible apply V3.andE_t); focus (get_elem_tactic_extensible; done)) | with_reducible apply V3.andE_go
  | ((with_reducible apply V3.orE_t); focus (get_elem_tactic_extensible; done)) | ((with_reducible apply V3.orE_f); focus (get_elem_tactic_extensible; done)) | with_reducible apply V3.orE_go
  | exact (rfl : V3.ret _ _ = _) | exact (rfl : V3.var _ _ = _) | exact (rfl : V3.own _ _ = _) | exact (rfl : V3.setI _ _ _ = _) | exact (rfl : List.set _ _ _ = _) | exact V3.setI_any rfl (by assumption) | exact (rfl : V3.resA _ _ = _) | exact (rfl : V3.slotL _ _ = _) | exact Eq.refl true
  | with_reducible assumption
  | exact V3.shb rfl
  | exact V3.cmp_t (decide_eq_true (by omega)) | exact V3.cmp_f (decide_eq_false (by omega)) | exact V3.eqI_t (by omega) | exact V3.eqI_f (by omega) | exact V3.neI_t (by omega) | exact V3.neI_f (by omega) | exact V3.modI (by decide)
  | exact (rfl : V3.addD _ _ = _) | exact (rfl : V3.subD _ _ = _) | exact (rfl : V3.negD _ = _) | exact (rfl : V3.notD _ = _) | exact (rfl : V3.cmpI _ _ _ = _) | exact (rfl : V3.lenD _ = _) | exact (rfl : V3.truD _ = _) | exact (rfl : V3.tupleD _ = _) | exact (rfl : V3.listD _ = _) | exact (rfl : V3.isiD _ _ = _) | exact (rfl : V3.isND _ _ = _) | exact (rfl : V3.isNotND _ _ = _)))
namespace K82
open PySem (Str sizeLine)
open V3 Pm
open L2 (ixN atI cutS)
open TL (tl spl numL joinL ext_tl tl_mk mk_tl len_tl tl_append tl_ofString)
open PySem.NumText (AllDigits digitsVal)
/-! Q35: bent texts and texts of any signs. -/
def NO (s : Sl) : Prop := ∀ es, s ≠ .ow es
theorem no_im {d : D} : NO (.im d) := fun _ z => by cases z
theorem no_un : NO .un := fun _ z => by cases z
theorem bentloop {m : Nat} : ∀ (is : List Nat) (es : List D) (l : List Nat) (a b c d : Sl), Pur es → Pl l → l.length + is.length ≤ 1000 → NO a → NO b → NO c → NO d →
    ∃ (es' : List D) (l' : List Nat) (a' b' c' d' : Sl), Pur es' ∧ Pl l' ∧ l'.length ≤ l.length + is.length ∧ l'.count 32 ≤ l.count 32 + is.length ∧
      forL (setI 2) _law_bent_text_f1b (is.map fun i : Nat => .int ((0 : Int) + (i : Int))) [.ow es, .im (T l), a, b, c, d] = .ok .nx [.ow es', .im (T l'), a', b', c', d']
  | [], es, l, a, b, c, d, h, hp, _, _, _, _, _ => ⟨es, l, a, b, c, d, h, hp, by simp, by simp, rfl⟩
  | i :: is, es, l, a, b, c, d, h, hp, hl, ha, hb, hc, hd => by
    obtain ⟨es1, l1, b1, c1, d1, P1, p1, e1, e2, hb1, hc1, hd1, q1⟩ := bentstep (a := .im (.int ((0 : Int) + (i : Int)))) (b := b) (c := c) (d := d) h hp (by simp at hl; omega) hb hc hd
    obtain ⟨es', l', a', b', c', d', P', p', e1', e2', q'⟩ := bentloop (m := m) is es1 l1 (.im (.int ((0 : Int) + (i : Int)))) b1 c1 d1 P1 p1 (by simp at hl; omega) no_im hb1 hc1 hd1
    exact ⟨es', l', a', b', c', d', P', p', by simp; omega, by simp; omega, forL_go (setI_any rfl ha) q1 q'⟩
theorem G__law_bent_text_eq {es : List D} {l : List Nat} (h : Pur es) (hw : Wr l) : ∃ (es' : List D) (l' : List Nat), CokL G__law_bent_text es [T l] (T l') es' ∧ Pur es' ∧ Sz l' := by
  obtain ⟨w, es1, c1, w0, w1, P1⟩ := G__law_draw_eq h (n := 3) (by decide) (by decide)
  obtain ⟨j, rfl⟩ : ∃ j : Nat, w = j := ⟨w.toNat, by omega⟩
  obtain ⟨es', l', a', b', c', d', P', p', e1, e2, q⟩ := bentloop (m := 0) (List.range j) es1 l .un .un .un .un P1 hw.1 (by have := hw.2; simp; omega) no_un no_un no_un no_un
  refine ⟨es', l', ?_, P', p', ?_⟩
  · refine runL_ok (np := 2) (N := 6) (m := m__law_bent_text) (ρ' := [.ow es', .im (T l'), a', b', c', d']) rfl ?_ rfl
    rw [eq__law_bent_text]
    exact thenS_go (forS_go (rng1S_go (consA_go (callL_go rfl rfl rfl c1) rfl) (rng1D_nat (by omega))) q) rfl
  · simp at e1 e2
    exact hw.2.imp (fun h => ⟨by omega, by omega⟩) (fun h => ⟨by omega, by omega⟩)
theorem lit_thirteen : (D.str (Str.ofString "0123456789- /")) = T [48, 49, 50, 51, 52, 53, 54, 55, 56, 57, 45, 32, 47] := lit _ (by decide)
section
variable {s0 s1 s3 s4 s5 s6 s7 s8 s9 s10 : Sl}
theorem chardraws : ∀ (ds : List D) (acc : List (List Nat)) (es : List D) (s : Sl), Pur es → acc.length + ds.length ≤ 1000 → (∀ p ∈ acc, Pl p ∧ p.length = 1) →
    ∃ (ps : List (List Nat)) (es' : List D) (s' : Sl), Pur es' ∧ NO s' ∧ ps.length = acc.length + ds.length ∧ (∀ p ∈ ps, Pl p ∧ p.length = 1) ∧
      (NO s → lcL [11] (setI 11) (ret true) law_l2e ds (acc.map T) [s0, s1, .ow es, s3, s4, s5, s6, s7, s8, s9, s10, s] = .ok (ps.map T) [s0, s1, .ow es', s3, s4, s5, s6, s7, s8, s9, s10, s'])
  | [], acc, es, s, P, hl, ha => by
    by_cases hs : NO s
    · exact ⟨acc, es, s, P, hs, by simp, ha, fun _ => rfl⟩
    · exact ⟨acc, es, .un, P, no_un, by simp, ha, fun h => absurd h hs⟩
  | d :: ds, acc, es, s, P, hl, ha => by
    obtain ⟨v, es1, c1, v0, v1, P1⟩ := G__law_draw_eq P (n := 13) (by decide) (by decide)
    obtain ⟨sg, hsg, sgl⟩ : ∃ sg : Nat, ixD (.str "0123456789- /") (.int v) = some (T [sg]) ∧ sg < 256 := by
      obtain ⟨j, rfl⟩ : ∃ j : Nat, v = j := ⟨v.toNat, by omega⟩
      rw [lit_thirteen]
      have hj : j < [48, 49, 50, 51, 52, 53, 54, 55, 56, 57, 45, 32, 47].length := by
        show j < 13
        omega
      refine ⟨_, ixT hj (by decide), ?_⟩
      have : Pl [48, 49, 50, 51, 52, 53, 54, 55, 56, 57, 45, 32, 47] := pl_lit (by decide)
      exact this _ (List.getElem_mem hj)
    obtain ⟨ps, es', s', P', hs', h1, h2, h3⟩ := chardraws ds (acc ++ [[sg]]) es1 (.im d) P1 (by simp at hl ⊢; omega) (fun p hp => by
      rcases List.mem_append.mp hp with hp | hp
      · exact ha p hp
      · rw [List.mem_singleton.mp hp]; exact ⟨fun c hc => by rw [List.mem_singleton.mp hc]; exact sgl, rfl⟩)
    refine ⟨ps, es', s', P', hs', by simp at h1 ⊢; omega, h2, fun hs => ?_⟩
    have h3 := h3 no_im
    have e1 : setI 11 d (wipeE [11] [s0, s1, .ow es, s3, s4, s5, s6, s7, s8, s9, s10, s]) = .ok () [s0, s1, .ow es, s3, s4, s5, s6, s7, s8, s9, s10, .im d] := rfl
    have e2 : law_l2e [s0, s1, .ow es, s3, s4, s5, s6, s7, s8, s9, s10, .im d] = .ok (T [sg]) [s0, s1, .ow es1, s3, s4, s5, s6, s7, s8, s9, s10, .im d] := op2_go rfl (callL_gs rfl rfl rfl c1 rfl) hsg
    show aft (setI 11 d) (bnd (nox (ret true)) fun b => if b = true then bnd law_l2e fun y => if (acc.map T).length < sizeLine then lcL [11] (setI 11) (ret true) law_l2e ds (acc.map T ++ [y]) else (fun _ => .bad) else lcL [11] (setI 11) (ret true) law_l2e ds (acc.map T)) (wipeE [11] [s0, s1, .ow es, s3, s4, s5, s6, s7, s8, s9, s10, s]) = _
    unfold aft
    rw [e1]
    dsimp only
    have e3 : nox (ret true) [s0, s1, .ow es, s3, s4, s5, s6, s7, s8, s9, s10, .im d] = .ok true [s0, s1, .ow es, s3, s4, s5, s6, s7, s8, s9, s10, .im d] := rfl
    have e4 : acc.map T ++ [T [sg]] = (acc ++ [[sg]]).map T := by simp
    rw [b_ok e3, if_pos rfl, b_ok e2, if_pos (by simp at hl ⊢; have := sizeLine_big; omega), e4, h3]
theorem joinL_nil : ∀ (ps : List (List Nat)), (∀ p ∈ ps, Pl p ∧ p.length = 1) → Pl (joinL [] ps) ∧ (joinL [] ps).length = ps.length
  | [], _ => ⟨plN, rfl⟩
  | [p], h => ⟨(h p (by simp)).1, (h p (by simp)).2⟩
  | p :: q :: r, h => by
    have ih := joinL_nil (q :: r) fun z hz => h z (List.mem_cons_of_mem _ hz)
    have e : joinL [] (p :: q :: r) = p ++ ([] ++ joinL [] (q :: r)) := rfl
    have hp := h p (by simp)
    rw [e, List.nil_append]
    refine ⟨fun c hc => ?_, by rw [List.length_append, ih.2, hp.2]; simp; omega⟩
    rcases List.mem_append.mp hc with hc | hc
    · exact hp.1 c hc
    · exact ih.1 c hc
theorem anytext {es : List D} {s11 : Sl} (h : Pur es) (hs : NO s11) : ∃ (es' : List D) (l : List Nat), Pur es' ∧ Sz l ∧ m1 (fun s => joinD (.str s)) (ret (.str "")) (lsE law_l2) [s0, s1, .ow es, s3, s4, s5, s6, s7, s8, s9, s10, s11] = .ok (T l) [s0, s1, .ow es', s3, s4, s5, s6, s7, s8, s9, s10, .un] := by
  obtain ⟨w, es1, c1, w0, w1, P1⟩ := G__law_draw_eq h (n := 4) (by decide) (by decide)
  obtain ⟨j, rfl⟩ : ∃ j : Nat, w = j := ⟨w.toNat, by omega⟩
  obtain ⟨ps, es', s', P', hs', h1, h2, h3⟩ := chardraws (s0 := s0) (s1 := s1) (s3 := s3) (s4 := s4) (s5 := s5) (s6 := s6) (s7 := s7) (s8 := s8) (s9 := s9) (s10 := s10) (intsD 0 j) [] es1 s11 P1 (by simp [intsD]; omega) (fun p hp => by cases hp)
  have h3 := h3 hs
  have hl : ps.length = j := by rw [h1]; simp [intsD]
  obtain ⟨q1, q2⟩ := joinL_nil ps h2
  refine ⟨es', joinL [] ps, P', ⟨q1, .inl ⟨by omega, Nat.le_trans List.count_le_length (by omega)⟩⟩, ?_⟩
  have hs1 : rng1S (consA (callL G__law_draw 2 (consA (ret (.int 4)) (ret []))) (ret [])) [s0, s1, .ow es, s3, s4, s5, s6, s7, s8, s9, s10, s11] = .ok (intsD 0 j) [s0, s1, .ow es1, s3, s4, s5, s6, s7, s8, s9, s10, s11] :=
    rng1S_go (consA_go (callL_gs rfl rfl rfl c1 rfl) rfl) (rng1D_nat (by omega))
  have hno : noOw [11] [s0, s1, .ow es1, s3, s4, s5, s6, s7, s8, s9, s10, s11] = true := by
    unfold noOw
    cases s11 with
    | ow es => exact absurd rfl (hs es)
    | un => rfl
    | im d => rfl
  have hl2 : law_l2 [s0, s1, .ow es, s3, s4, s5, s6, s7, s8, s9, s10, s11] = .ok (ps.map T) [s0, s1, .ow es', s3, s4, s5, s6, s7, s8, s9, s10, .un] := by
    unfold law_l2
    rw [lcE_ap, b_ok hs1, if_pos hno]
    have h3' : lcL [11] (setI 11) (ret true) law_l2e (intsD 0 j) [] [s0, s1, .ow es1, s3, s4, s5, s6, s7, s8, s9, s10, s11] = .ok (ps.map T) [s0, s1, .ow es', s3, s4, s5, s6, s7, s8, s9, s10, s'] := h3
    rw [h3']
    rfl
  have hj : joinD (.str "") (.lst (ps.map T)) = some (T (joinL [] ps)) := by
    rw [lit_nil]
    refine joinT ?_
    have : (ps.map (·.length)).sum ≤ ps.length := by
      have : ∀ qs : List (List Nat), (∀ p ∈ qs, Pl p ∧ p.length = 1) → (qs.map (·.length)).sum ≤ qs.length := by
        intro qs
        induction qs with
        | nil => intro _; simp
        | cons a r ih =>
          intro h
          have h1 := ih fun z hz => h z (List.mem_cons_of_mem _ hz)
          have h2 := (h a (by simp)).2
          simp; omega
      exact this ps h2
    simp
    omega
  exact m1_go (s := Str.ofString "") rfl (lsE_go hl2) hj
end
end K82
end

section
set_option Elab.async false
set_option linter.all false
set_option maxRecDepth 100000
set_option maxHeartbeats 1000000
set_option exponentiation.threshold 100000
open V3
local macro_rules | `(tactic| get_elem_tactic_extensible) => `(tactic| repeat' (first
  | with_reducible first
    | exact V3.skipS_go | exact V3.raiseS_go | exact V3.partN_go
    | apply V3.thenS_go | apply V3.asgS_go | apply V3.retS_go | apply V3.exprS_go | apply V3.op2_go | apply V3.op1_go | apply V3.vl_go | apply V3.consG_go | apply V3.consA_go | apply V3.opA_go | apply V3.op2g_go
    | apply V3.callN_go | apply V3.callL_gs | apply V3.callA_go | apply V3.tupE_go | apply V3.lstE_go | apply V3.dispF_go | apply V3.lsE_go | apply V3.tst_go | apply V3.blE_go | apply V3.m1_go | apply V3.partS_go | apply V3.slE_go
    | apply V3.parS_go | apply V3.retF_go | apply V3.repF_go | apply V3.lrgF_go | apply V3.tupS_go | apply V3.lstS_go | apply V3.strS_go | apply V3.rng1S_go | apply V3.forS_go | apply V3.augN_go | apply V3.setIx_gs | apply V3.asgO_go
  | ((with_reducible apply V3.ifS_gt); focus (get_elem_tactic_extensible; done)) | ((with_reducible apply V3.ifS_gf); focus (get_elem_tactic_extensible; done))
  | ((with_reducible apply V3.ifE_gt); focus (get_elem_tactic_extensible; done)) | ((with_reducible apply V3.ifE_gf); focus (get_elem_tactic_extensible; done))
  | ((with_reducible apply V3.andT_f); focus (get_elem_tactic_extensible; done)) | ((with_reducible apply V3.andT_t); focus (get_elem_tactic_extensible; done)) | with_reducible apply V3.andT_go
  | ((with_reducible apply V3.notT_f); focus (get_elem_tactic_extensible; done)) | ((with_reducible apply V3.notT_t); focus (get_elem_tactic_extensible; done)) | with_reducible apply V3.notT_go
  | ((with_reducible apply V3.orT_t); focus (get_elem_tactic_extensible; done)) | ((with_reducible apply V3.orT_f); focus (get_elem_tactic_extensible; done)) | with_reducible apply V3.orT_go
  | ((with_reducible apply V3.andE_f); focus (get_elem_tactic_extensible; done)) | ((with_reducible apply V3.andE_t); focus (get_elem_tactic_extensible; done)) | with_reducible apply V3.andE_go
  | ((with_reducible apply V3.orE_t); focus (get_elem_tactic_extensible; done)) | ((with_reducible apply V3.orE_f); focus (get_elem_tactic_extensible; done)) | with_reducible apply V3.orE_go
  | exact (rfl : V3.ret _ _ = _) | exact (rfl : V3.var _ _ = _) | exact (rfl : V3.own _ _ = _) | exact (rfl : V3.setI _ _ _ = _) | exact (rfl : List.set _ _ _ = _) | exact V3.setI_any rfl (by assumption) | exact (rfl : V3.resA _ _ = _) | exact (rfl : V3.slotL _ _ = _) | exact Eq.refl true
  | with_reducible assumption
  | exact V3.shb rfl
  | exact V3.cmp_t (decide_eq_true (by omega)) | exact V3.cmp_f (decide_eq_false (by omega)) | exact V3.eqI_t (by omega) | exact V3.eqI_f (by omega) | exact V3.neI_t (by omega) | exact V3.neI_f (by omega) | exact V3.modI (by decide)
  | exact (rfl : V3.addD _ _ = _) | exact (rfl : V3.subD _ _ = _) | exact (rfl : V3.negD _ = _) | exact (rfl : V3.notD _ = _) | exact (rfl : V3.cmpI _ _ _ = _) | exact (rfl : V3.lenD _ = _) | exact (rfl : V3.truD _ = _) | exact (rfl : V3.tupleD _ = _) | exact (rfl : V3.listD _ = _) | exact (rfl : V3.isiD _ _ = _) | exact (rfl : V3.isND _ _ = _) | exact (rfl : V3.isNotND _ _ = _)))
namespace K82
open PySem (Str sizeLine)
open V3 Pm
open L2 (ixN atI cutS)
open TL (tl spl numL joinL ext_tl tl_mk mk_tl len_tl tl_append tl_ofString)
open PySem.NumText (AllDigits digitsVal)
/-! Q36: the law. -/
theorem due_nb (k : Nat) (l : List Nat) : D.nb 2 (due k l) := by
  have hno : D.nb 2 noD := by
    have e : noD = T [78, 111, 84, 101, 120, 116] := lit _ (by decide)
    rw [e]
    exact strOk_S (pl_lit (by decide))
  unfold due
  split
  · split
    · exact tupI_nb (n := 1) _ _
    · exact hno
  · split
    · exact dP_nb _ 1
    · exact hno
  · split
    · intro d hd
      rcases List.mem_cons.mp hd with rfl | hd
      · exact dP_nb _ 0
      · rw [List.mem_singleton.mp hd]; exact dP_nb _ 0
    · exact hno
section
variable {s0 s1 s3 s4 s5 s6 s7 s8 s9 s10 s11 : Sl} {es : List D}
theorem kindloop {l : List Nat} (hz : Sz l) : ∀ (is : List Nat) (x : Sl), NO x → (∀ i ∈ is, i < 3) → ∃ x', NO x' ∧ forL (setI 9) law_f1b (is.map fun i : Nat => .int ((0 : Int) + (i : Int))) [s0, s1, .ow es, s3, s4, s5, s6, s7, .im (T l), x, s10, s11] = .ok .nx [s0, s1, .ow es, s3, s4, s5, s6, s7, .im (T l), x', s10, s11]
  | [], x, hx, _ => ⟨x, hx, rfl⟩
  | i :: is, x, hx, hi => by
    obtain ⟨x', hx', q⟩ := kindloop hz is (.im (.int (i : Int))) no_im fun j hj => hi j (List.mem_cons_of_mem _ hj)
    refine ⟨x', hx', ?_⟩
    have hi0 := hi i (List.mem_cons_self ..)
    have hl : l.length ≤ 600 := by have := hz.2; omega
    have r1 := cok (R__law_read_eq hi0 hz.1 hl (fit_of hz))
    have r2 := cok (R__law_due_eq hi0 hz.1 hl (fit_of hz))
    have ne : neD (due i l) (due i l) = some (.bl false) := neD_f (due_nb i l) (due_nb i l) (by decide) rfl
    have e1 : setI 9 (.int ((0 : Int) + (i : Int))) [s0, s1, .ow es, s3, s4, s5, s6, s7, .im (T l), x, s10, s11] = .ok () [s0, s1, .ow es, s3, s4, s5, s6, s7, .im (T l), .im (.int (i : Int)), s10, s11] := by
      rw [Int.zero_add]
      exact setI_any rfl hx
    refine forL_go e1 ?_ q
    unfold law_f1b
    exact ifS_gf (blE_go (op2_go (callA_go (consG_go (vl_go rfl) (consG_go (vl_go rfl) rfl)) rfl r1 rfl) (callA_go (consG_go (vl_go rfl) (consG_go (vl_go rfl) rfl)) rfl r2 rfl) ne)) rfl
/-- one of the six texts -/
theorem textstep {w0 w1 w2 : List Nat} (h0 : Wr w0) (h1 : Wr w1) (h2 : Wr w2) {i : Nat} (hP : Pur es) (h8 : NO s8) (h9 : NO s9) (h11 : NO s11) :
    ∃ (es' : List D) (a b c : Sl), Pur es' ∧ NO a ∧ NO b ∧ NO c ∧ law_f2b [s0, s1, .ow es, s3, s4, s5, .im (.lst [T w0, T w1, T w2]), .im (.int (i : Int)), s8, s9, s10, s11] = .ok .nx [s0, s1, .ow es', s3, s4, s5, .im (.lst [T w0, T w1, T w2]), .im (.int (i : Int)), a, b, s10, c] := by
  obtain ⟨v, es1, c1, v0, v1, P1⟩ := G__law_draw_eq hP (n := 3) (by decide) (by decide)
  obtain ⟨w, hw, hix⟩ : ∃ w, Wr w ∧ ixD (.lst [T w0, T w1, T w2]) (.int v) = some (T w) := by
    have : v = 0 ∨ v = 1 ∨ v = 2 := by omega
    rcases this with rfl | rfl | rfl
    · exact ⟨w0, h0, rfl⟩
    · exact ⟨w1, h1, rfl⟩
    · exact ⟨w2, h2, rfl⟩
  obtain ⟨es2, l, c2, P2, hz⟩ := G__law_bent_text_eq P1 hw
  have t1 : asgS 8 (callL G__law_bent_text 2 (consA (op2 ixD (var 6) (callL G__law_draw 2 (consA (ret (.int 3)) (ret [])))) (ret []))) [s0, s1, .ow es, s3, s4, s5, .im (.lst [T w0, T w1, T w2]), .im (.int (i : Int)), s8, s9, s10, s11] = .ok .nx [s0, s1, .ow es2, s3, s4, s5, .im (.lst [T w0, T w1, T w2]), .im (.int (i : Int)), .im (T l), s9, s10, s11] :=
    asgS_go (callL_gs rfl (consA_go (op2_go rfl (callL_gs rfl rfl rfl c1 rfl) hix) rfl) rfl c2 rfl) (setI_any rfl h8)
  obtain ⟨es3, l', c, P3, hz', hc, t2⟩ : ∃ (es3 : List D) (l' : List Nat) (c : Sl), Pur es3 ∧ Sz l' ∧ NO c ∧ ifS (blE (op2 eqD (var 7) (ret (.int 5)))) (asgS 8 (m1 (fun s => joinD (.str s)) (ret (.str "")) (lsE law_l2))) skipS [s0, s1, .ow es2, s3, s4, s5, .im (.lst [T w0, T w1, T w2]), .im (.int (i : Int)), .im (T l), s9, s10, s11] = .ok .nx [s0, s1, .ow es3, s3, s4, s5, .im (.lst [T w0, T w1, T w2]), .im (.int (i : Int)), .im (T l'), s9, s10, c] := by
    by_cases hi : (i : Int) = 5
    · obtain ⟨es3, l', P3, hz', q⟩ := anytext (s0 := s0) (s1 := s1) (s3 := s3) (s4 := s4) (s5 := s5) (s6 := .im (.lst [T w0, T w1, T w2])) (s7 := .im (.int (i : Int))) (s8 := .im (T l)) (s9 := s9) (s10 := s10) P2 h11
      exact ⟨es3, l', .un, P3, hz', no_un, ifS_gt (blE_go (op2_go rfl rfl (eqI_t hi))) (asgS_go q rfl)⟩
    · exact ⟨es2, l, s11, P2, hz, h11, ifS_gf (blE_go (op2_go rfl rfl (eqI_f hi))) rfl⟩
  obtain ⟨b, hb, t3⟩ := kindloop (s0 := s0) (s1 := s1) (s3 := s3) (s4 := s4) (s5 := s5) (s6 := .im (.lst [T w0, T w1, T w2])) (s7 := .im (.int (i : Int))) (s10 := s10) (s11 := c) (es := es3) hz' (List.range 3) s9 h9 fun i hi => List.mem_range.mp hi
  refine ⟨es3, .im (T l'), b, c, P3, no_im, hb, hc, ?_⟩
  unfold law_f2b
  exact thenS_go t1 (thenS_go t2 (forS_go (rng1S_go (ρ1 := [s0, s1, .ow es3, s3, s4, s5, .im (.lst [T w0, T w1, T w2]), .im (.int (i : Int)), .im (T l'), s9, s10, c]) rfl (rng1D_nat (n := 3) (by decide))) t3))
theorem textloop {w0 w1 w2 : List Nat} (h0 : Wr w0) (h1 : Wr w1) (h2 : Wr w2) : ∀ (is : List Nat) (es : List D) (s7 s8 s9 s11 : Sl), Pur es → NO s7 → NO s8 → NO s9 → NO s11 →
    ∃ (es' : List D) (a b c d : Sl), Pur es' ∧ NO a ∧ NO b ∧ NO c ∧ NO d ∧ forL (setI 7) law_f2b (is.map fun i : Nat => .int ((0 : Int) + (i : Int))) [s0, s1, .ow es, s3, s4, s5, .im (.lst [T w0, T w1, T w2]), s7, s8, s9, s10, s11] = .ok .nx [s0, s1, .ow es', s3, s4, s5, .im (.lst [T w0, T w1, T w2]), a, b, c, s10, d]
  | [], es, s7, s8, s9, s11, hP, h7, h8, h9, h11 => ⟨es, s7, s8, s9, s11, hP, h7, h8, h9, h11, rfl⟩
  | i :: is, es, s7, s8, s9, s11, hP, h7, h8, h9, h11 => by
    obtain ⟨es1, a, b, c, P1, ha, hb, hc, q1⟩ := textstep (s0 := s0) (s1 := s1) (s3 := s3) (s4 := s4) (s5 := s5) (s10 := s10) h0 h1 h2 (i := i) hP h8 h9 h11
    obtain ⟨es', a', b', c', d', P', ha', hb', hc', hd', q'⟩ := textloop h0 h1 h2 is es1 (.im (.int (i : Int))) a b c P1 no_im ha hb hc
    refine ⟨es', a', b', c', d', P', ha', hb', hc', hd', forL_go (ρ1 := [s0, s1, .ow es, s3, s4, s5, .im (.lst [T w0, T w1, T w2]), .im (.int (i : Int)), s8, s9, s10, s11]) ?_ q1 q'⟩
    show setI 7 (.int ((0 : Int) + (i : Int))) _ = _
    rw [Int.zero_add]
    exact setI_any rfl h7
end
theorem noD_nb (n : Nat) : D.nb n noD := by
  have e : noD = T [78, 111, 84, 101, 120, 116] := lit _ (by decide)
  rw [e]
  have := strOk_S (pl_lit (l := [78, 111, 84, 101, 120, 116]) (by decide))
  cases n <;> exact this
/-- three readings -/
theorem readsL {el : Cm D} {x0 x1 x2 : D} {ρ : Ev} (hk : 9 < ρ.length) (hn : ∀ ds, ρ[9]? ≠ some (.ow ds)) (h0 : el (ρ.set 9 (.im (.int 0))) = .ok x0 (ρ.set 9 (.im (.int 0)))) (h1 : el (ρ.set 9 (.im (.int 1))) = .ok x1 (ρ.set 9 (.im (.int 1)))) (h2 : el (ρ.set 9 (.im (.int 2))) = .ok x2 (ρ.set 9 (.im (.int 2)))) :
    lcE [9] (rng1S (consA (ret (.int 3)) (ret []))) (setI 9) (ret true) el ρ = .ok [x0, x1, x2] (ρ.set 9 .un) := by
  have z := lcE_pure (k := 9) (el := el) (f := fun d => match d with | .int i => (if i = 0 then x0 else if i = 1 then x1 else x2) | d => d) (src := rng1S (consA (ret (.int 3)) (ret []))) (ρ := ρ) (ρ1 := ρ) (ds := intsD 0 3) (rng1S_go (ρ1 := ρ) rfl (rng1D_nat (n := 3) (by decide))) hk hn (fun d hd => by
    have hd2 : d ∈ [D.int 0, .int 1, .int 2] := hd
    rcases List.mem_cons.mp hd2 with rfl | hd2
    · exact h0
    · rcases List.mem_cons.mp hd2 with rfl | hd2
      · exact h1
      · rw [List.mem_singleton.mp hd2]; exact h2) (shb rfl)
  exact z
abbrev odds : List D := [.non, .int 7, .bl true, .tup [.str "1"], .lst [.str "1"], .tup [.int 1]]
theorem lawstep {ns : P} {k : Nat} {s2 s3 s4 s5 s6 s7 s8 s9 s10 s11 : Sl} (hns : ns.length ≤ 63) (hk : k ≤ 63) (h3 : NO s3) (h4 : NO s4) (h5 : NO s5) (h6 : NO s6) (h7 : NO s7) (h8 : NO s8) (h9 : NO s9) (h10 : NO s10) (h11 : NO s11) :
    ∃ t2 t3 t4 t5 t6 t7 t8 t9 t10 t11 : Sl, NO t3 ∧ NO t4 ∧ NO t5 ∧ NO t6 ∧ NO t7 ∧ NO t8 ∧ NO t9 ∧ NO t10 ∧ NO t11 ∧
      law_f3b [.im (.fz (ns.map .int)), .im (.int (k : Int)), s2, s3, s4, s5, s6, s7, s8, s9, s10, s11] = .ok .nx [.im (.fz (ns.map .int)), .im (.int (k : Int)), t2, t3, t4, t5, t6, t7, t8, t9, t10, t11] := by
  obtain ⟨es0, r0, P0⟩ := R__law_purse_eq (k := k) hns hk
  have r0' := cok r0
  have at0 : es0.all D.atom = true := by
    obtain ⟨a, b, c, rfl, _⟩ := P0
    rfl
  obtain ⟨t, b, es1, c1, gn, P1⟩ := G__law_number_eq P0
  obtain ⟨a, es2, c2, gp, P2⟩ := G__law_poly_eq (n := 5) (by decide) P1
  have c2' : CokL G__law_poly es1 [.int 5, .int (10 ^ 12)] (dP a) es2 := c2
  obtain ⟨u, v, es3, c3, gq, P3⟩ := G__law_quotient_eq P2
  have h12 : powD (.int 10) (.int 12) = some (.int (10 ^ 12)) := powI (k := 12) (by decide) (by decide)
  have w0 := numT_wr gn
  have w1 := polyT_wr gp
  have w2 := quotT_wr gq
  have big : ∀ {x : Int} {j : Nat}, x.natAbs < 10 ^ j → j ≤ 100 → x.natAbs < 10 ^ 100 := fun h hj => Nat.lt_of_lt_of_le h (Nat.pow_le_pow_right (by decide) hj)
  have sm1 : Sm a := ⟨by have := gp.2.1; omega, fun x hx => big (gp.2.2 x hx) (by decide)⟩
  have sm2 : Sm u ∧ Sm v := by
    rcases gq.2.2.2 with ⟨x1, x2⟩ | ⟨x1, x2⟩
    · exact ⟨⟨by have := x1.1; omega, fun x hx => big (x1.2 x hx) (by decide)⟩, by have := x2.1; omega, fun x hx => big (x2.2 x hx) (by decide)⟩
    · exact ⟨⟨by have := x1.1; omega, fun x hx => big (x1.2 x hx) (by decide)⟩, by have := x2.1; omega, fun x hx => big (x2.2 x hx) (by decide)⟩
  have x1 := cok (R__law_number_text_eq (big gn.2.2.1 (by decide)) (big gn.2.2.2 (by decide)))
  have x2 := cok (R__law_poly_text_eq sm1)
  have x3 := cok (R__law_quotient_text_eq sm2.1 sm2.2)
  have y1 := cok (R_show_number_eq (big gn.2.2.1 (by decide)) (big gn.2.2.2 (by decide)))
  have y2 := cok (R_show_poly_eq sm1)
  have y3 := cok (R_show_quotient_eq sm2.1 sm2.2)
  generalize hst : [Sl.im (.fz (ns.map .int)), .im (.int (k : Int)), .ow es3, .im (.tup [.int t, .int b]), .im (dP a), .im (.tup [dP u, dP v])] = st
  have q1 : asgO 2 1 (callN R__law_purse (consA (var 0) (consA (var 1) (ret [])))) [.im (.fz (ns.map .int)), .im (.int (k : Int)), s2, s3, s4, s5, s6, s7, s8, s9, s10, s11] = .ok .nx [.im (.fz (ns.map .int)), .im (.int (k : Int)), .ow es0, s3, s4, s5, s6, s7, s8, s9, s10, s11] :=
    asgO_go (callN_go rfl r0' at0) ⟨by decide, by simp⟩
  have q2 : parS 3 4 (consA (callL G__law_number 2 (consA (op2 powD (ret (.int 10)) (ret (.int 12))) (ret []))) (consA (callL G__law_poly 2 (consA (ret (.int 5)) (consA (op2 powD (ret (.int 10)) (ret (.int 12))) (ret [])))) (ret []))) [.im (.fz (ns.map .int)), .im (.int (k : Int)), .ow es0, s3, s4, s5, s6, s7, s8, s9, s10, s11] = .ok .nx [.im (.fz (ns.map .int)), .im (.int (k : Int)), .ow es2, .im (.tup [.int t, .int b]), .im (dP a), s5, s6, s7, s8, s9, s10, s11] :=
    parS_go (consA_go (callL_gs rfl (consA_go (op2_go rfl rfl h12) rfl) rfl c1 rfl) (consA_go (callL_gs rfl (consA_go rfl (consA_go (op2_go rfl rfl h12) rfl)) rfl c2' rfl) rfl)) (setI_any rfl h3) (setI_any rfl h4)
  have q3 : asgS 5 (callL G__law_quotient 2 (consA (ret (.int 4)) (consA (op2 powD (ret (.int 10)) (ret (.int 12))) (ret [])))) [.im (.fz (ns.map .int)), .im (.int (k : Int)), .ow es2, .im (.tup [.int t, .int b]), .im (dP a), s5, s6, s7, s8, s9, s10, s11] = .ok .nx [.im (.fz (ns.map .int)), .im (.int (k : Int)), .ow es3, .im (.tup [.int t, .int b]), .im (dP a), .im (.tup [dP u, dP v]), s6, s7, s8, s9, s10, s11] :=
    asgS_go (callL_gs rfl (consA_go rfl (consA_go (op2_go rfl rfl h12) rfl)) rfl c3 rfl) (setI_any rfl h5)
  have q4 : asgS 6 (lstE (consA (callA R__law_number_text (consG (vl (var 3)) (ret []))) (consA (callA R__law_poly_text (consG (vl (var 4)) (ret []))) (consA (callA R__law_quotient_text (consG (vl (var 5)) (ret []))) (ret []))))) [.im (.fz (ns.map .int)), .im (.int (k : Int)), .ow es3, .im (.tup [.int t, .int b]), .im (dP a), .im (.tup [dP u, dP v]), s6, s7, s8, s9, s10, s11] = .ok .nx [.im (.fz (ns.map .int)), .im (.int (k : Int)), .ow es3, .im (.tup [.int t, .int b]), .im (dP a), .im (.tup [dP u, dP v]), .im (.lst [T (numT t b), T (polyT a), T (quotT u v)]), s7, s8, s9, s10, s11] :=
    asgS_go (lstE_go (consA_go (callA_go (consG_go (vl_go rfl) rfl) rfl x1 rfl) (consA_go (callA_go (consG_go (vl_go rfl) rfl) rfl x2 rfl) (consA_go (callA_go (consG_go (vl_go rfl) rfl) rfl x3 rfl) rfl))) (shb rfl)) (setI_any rfl h6)
  have nbT : ∀ {l : List Nat}, Pl l → ∀ n, D.nb n (T l) := fun {l} hp n => by
    have := strOk_S hp
    cases n <;> exact this
  have nbW : D.nb 1 (.lst [T (numT t b), T (polyT a), T (quotT u v)]) := fun d hd => by
    rcases List.mem_cons.mp hd with rfl | hd
    · exact nbT w0.1 0
    · rcases List.mem_cons.mp hd with rfl | hd
      · exact nbT w1.1 0
      · rw [List.mem_singleton.mp hd]; exact nbT w2.1 0
  have n5 : neD (.lst [T (numT t b), T (polyT a), T (quotT u v)]) (.lst [T (numT t b), T (polyT a), T (quotT u v)]) = some (.bl false) := neD_f nbW nbW (by decide) rfl
  have q5 : ifS (blE (op2 neD (lstE (consA (callA R_show_number (consG (vl (var 3)) (ret []))) (consA (callA R_show_poly (consG (vl (var 4)) (ret []))) (consA (callA R_show_quotient (consG (vl (var 5)) (ret []))) (ret []))))) (var 6))) (retS (ret (.bl false))) skipS [.im (.fz (ns.map .int)), .im (.int (k : Int)), .ow es3, .im (.tup [.int t, .int b]), .im (dP a), .im (.tup [dP u, dP v]), .im (.lst [T (numT t b), T (polyT a), T (quotT u v)]), s7, s8, s9, s10, s11] = .ok .nx [.im (.fz (ns.map .int)), .im (.int (k : Int)), .ow es3, .im (.tup [.int t, .int b]), .im (dP a), .im (.tup [dP u, dP v]), .im (.lst [T (numT t b), T (polyT a), T (quotT u v)]), s7, s8, s9, s10, s11] :=
    ifS_gf (blE_go (op2_go (lstE_go (consA_go (callA_go (consG_go (vl_go rfl) rfl) rfl y1 rfl) (consA_go (callA_go (consG_go (vl_go rfl) rfl) rfl y2 rfl) (consA_go (callA_go (consG_go (vl_go rfl) rfl) rfl y3 rfl) rfl))) (shb rfl)) rfl n5)) rfl
  have len : ∀ {l : List Nat}, Wr l → l.length ≤ 600 := fun h => by have := h.2; omega
  have d0 : due 0 (numT t b) = .tup [.int t, .int b] := by unfold due; rw [numO_T gn.1 gn.2.1]; rfl
  have d1 : due 1 (polyT a) = dP a := by unfold due; rw [polyO_T gp.1]; rfl
  have d2 : due 2 (quotT u v) = .tup [dP u, dP v] := by unfold due; rw [quotO_T gq.1 gq.2.1 gq.2.2.1]; rfl
  have z0 := R__law_read_eq (k := 0) (by decide) w0.1 (len w0) (fit_of w0.sz)
  have z1 := R__law_read_eq (k := 1) (by decide) w1.1 (len w1) (fit_of w1.sz)
  have z2 := R__law_read_eq (k := 2) (by decide) w2.1 (len w2) (fit_of w2.sz)
  have hn9 : ∀ {l : Ev}, l[9]? = some s9 → ∀ ds, l[9]? ≠ some (.ow ds) := fun h ds e => by
    rw [h] at e
    exact h9 ds (by injection e)
  have el1 : ∀ {i : Int} {w x : D}, Cok R__law_read [.int i, w] x → ixD (.lst [T (numT t b), T (polyT a), T (quotT u v)]) (.int i) = some w → law_l1e [.im (.fz (ns.map .int)), .im (.int (k : Int)), .ow es3, .im (.tup [.int t, .int b]), .im (dP a), .im (.tup [dP u, dP v]), .im (.lst [T (numT t b), T (polyT a), T (quotT u v)]), s7, s8, .im (.int i), s10, s11] = .ok x [.im (.fz (ns.map .int)), .im (.int (k : Int)), .ow es3, .im (.tup [.int t, .int b]), .im (dP a), .im (.tup [dP u, dP v]), .im (.lst [T (numT t b), T (polyT a), T (quotT u v)]), s7, s8, .im (.int i), s10, s11] :=
    fun hc hi => callA_go (consG_go (vl_go rfl) (consG_go (vl_go (op2_go rfl rfl hi)) rfl)) rfl hc rfl
  have l1 : law_l1 [.im (.fz (ns.map .int)), .im (.int (k : Int)), .ow es3, .im (.tup [.int t, .int b]), .im (dP a), .im (.tup [dP u, dP v]), .im (.lst [T (numT t b), T (polyT a), T (quotT u v)]), s7, s8, s9, s10, s11] = .ok [due 0 (numT t b), due 1 (polyT a), due 2 (quotT u v)] [.im (.fz (ns.map .int)), .im (.int (k : Int)), .ow es3, .im (.tup [.int t, .int b]), .im (dP a), .im (.tup [dP u, dP v]), .im (.lst [T (numT t b), T (polyT a), T (quotT u v)]), s7, s8, .un, s10, s11] :=
    readsL (ρ := [.im (.fz (ns.map .int)), .im (.int (k : Int)), .ow es3, .im (.tup [.int t, .int b]), .im (dP a), .im (.tup [dP u, dP v]), .im (.lst [T (numT t b), T (polyT a), T (quotT u v)]), s7, s8, s9, s10, s11]) (by simp) (hn9 rfl) (el1 (cok z0) rfl) (el1 (cok z1) rfl) (el1 (cok z2) rfl)
  have nbD : D.nb 3 (.lst [due 0 (numT t b), due 1 (polyT a), due 2 (quotT u v)]) := fun d hd => by
    rcases List.mem_cons.mp hd with rfl | hd
    · exact due_nb _ _
    · rcases List.mem_cons.mp hd with rfl | hd
      · exact due_nb _ _
      · rw [List.mem_singleton.mp hd]; exact due_nb _ _
  have n6 : neD (.lst [due 0 (numT t b), due 1 (polyT a), due 2 (quotT u v)]) (.lst [.tup [.int t, .int b], dP a, .tup [dP u, dP v]]) = some (.bl false) := by
    have e : D.lst [.tup [.int t, .int b], dP a, .tup [dP u, dP v]] = .lst [due 0 (numT t b), due 1 (polyT a), due 2 (quotT u v)] := by rw [d0, d1, d2]
    rw [e]
    exact neD_f nbD nbD (by decide) rfl
  have q6 : ifS (blE (op2 neD (lsE law_l1) (lstE (consA (var 3) (consA (var 4) (consA (var 5) (ret []))))))) (retS (ret (.bl false))) skipS [.im (.fz (ns.map .int)), .im (.int (k : Int)), .ow es3, .im (.tup [.int t, .int b]), .im (dP a), .im (.tup [dP u, dP v]), .im (.lst [T (numT t b), T (polyT a), T (quotT u v)]), s7, s8, s9, s10, s11] = .ok .nx [.im (.fz (ns.map .int)), .im (.int (k : Int)), .ow es3, .im (.tup [.int t, .int b]), .im (dP a), .im (.tup [dP u, dP v]), .im (.lst [T (numT t b), T (polyT a), T (quotT u v)]), s7, s8, .un, s10, s11] :=
    ifS_gf (blE_go (op2_go (lsE_go l1) (lstE_go rfl (shb rfl)) n6)) rfl
  obtain ⟨es4, e7, e8, e9, e11, P4, he7, he8, he9, he11, q7⟩ := textloop (s0 := .im (.fz (ns.map .int))) (s1 := .im (.int (k : Int))) (s3 := .im (.tup [.int t, .int b])) (s4 := .im (dP a)) (s5 := .im (.tup [dP u, dP v])) (s10 := s10) w0 w1 w2 (List.range 6) es3 s7 s8 .un s11 P3 h7 h8 no_un h11
  have q7' : forS (rng1S (consA (ret (.int 6)) (ret []))) (setI 7) law_f2b [.im (.fz (ns.map .int)), .im (.int (k : Int)), .ow es3, .im (.tup [.int t, .int b]), .im (dP a), .im (.tup [dP u, dP v]), .im (.lst [T (numT t b), T (polyT a), T (quotT u v)]), s7, s8, .un, s10, s11] = .ok .nx [.im (.fz (ns.map .int)), .im (.int (k : Int)), .ow es4, .im (.tup [.int t, .int b]), .im (dP a), .im (.tup [dP u, dP v]), .im (.lst [T (numT t b), T (polyT a), T (quotT u v)]), e7, e8, e9, s10, e11] :=
    forS_go (rng1S_go (ρ1 := [.im (.fz (ns.map .int)), .im (.int (k : Int)), .ow es3, .im (.tup [.int t, .int b]), .im (dP a), .im (.tup [dP u, dP v]), .im (.lst [T (numT t b), T (polyT a), T (quotT u v)]), s7, s8, .un, s10, s11]) rfl (rng1D_nat (n := 6) (by decide))) q7
  obtain ⟨r, es5, c5, r0, r1, P5⟩ := G__law_draw_eq P4 (n := 6) (by decide) (by decide)
  obtain ⟨od, hod, hodd⟩ : ∃ od, ixD (.lst odds) (.int r) = some od ∧ isiD "str" od = some (.bl false) := by
    have : r = 0 ∨ r = 1 ∨ r = 2 ∨ r = 3 ∨ r = 4 ∨ r = 5 := by omega
    rcases this with rfl | rfl | rfl | rfl | rfl | rfl <;> exact ⟨_, rfl, rfl⟩
  have q8 : asgS 10 (op2 ixD (lstE (consA (ret .non) (consA (ret (.int 7)) (consA (ret (.bl true)) (consA (tupE (consA (ret (.str "1")) (ret []))) (consA (lstE (consA (ret (.str "1")) (ret []))) (consA (tupE (consA (ret (.int 1)) (ret []))) (ret [])))))))) (callL G__law_draw 2 (consA (ret (.int 6)) (ret [])))) [.im (.fz (ns.map .int)), .im (.int (k : Int)), .ow es4, .im (.tup [.int t, .int b]), .im (dP a), .im (.tup [dP u, dP v]), .im (.lst [T (numT t b), T (polyT a), T (quotT u v)]), e7, e8, e9, s10, e11] = .ok .nx [.im (.fz (ns.map .int)), .im (.int (k : Int)), .ow es5, .im (.tup [.int t, .int b]), .im (dP a), .im (.tup [dP u, dP v]), .im (.lst [T (numT t b), T (polyT a), T (quotT u v)]), e7, e8, e9, .im od, e11] :=
    asgS_go (op2_go (d := .lst odds) (lstE_go (consA_go rfl (consA_go rfl (consA_go rfl (consA_go (tupE_go rfl (shb rfl)) (consA_go (lstE_go rfl (shb rfl)) (consA_go (tupE_go rfl (shb rfl)) rfl)))))) (shb rfl)) (callL_gs rfl rfl rfl c5 rfl) hod) (setI_any rfl h10)
  have el3 : ∀ {i : Nat}, i < 3 → law_l3e [.im (.fz (ns.map .int)), .im (.int (k : Int)), .ow es5, .im (.tup [.int t, .int b]), .im (dP a), .im (.tup [dP u, dP v]), .im (.lst [T (numT t b), T (polyT a), T (quotT u v)]), e7, e8, .im (.int (i : Int)), .im od, e11] = .ok noD [.im (.fz (ns.map .int)), .im (.int (k : Int)), .ow es5, .im (.tup [.int t, .int b]), .im (dP a), .im (.tup [dP u, dP v]), .im (.lst [T (numT t b), T (polyT a), T (quotT u v)]), e7, e8, .im (.int (i : Int)), .im od, e11] :=
    fun {i} hi => callA_go (consG_go (vl_go rfl) (consG_go (vl_go rfl) rfl)) rfl (cok (R__law_read_odd hi hodd)) rfl
  have l3 : law_l3 [.im (.fz (ns.map .int)), .im (.int (k : Int)), .ow es5, .im (.tup [.int t, .int b]), .im (dP a), .im (.tup [dP u, dP v]), .im (.lst [T (numT t b), T (polyT a), T (quotT u v)]), e7, e8, e9, .im od, e11] = .ok [noD, noD, noD] [.im (.fz (ns.map .int)), .im (.int (k : Int)), .ow es5, .im (.tup [.int t, .int b]), .im (dP a), .im (.tup [dP u, dP v]), .im (.lst [T (numT t b), T (polyT a), T (quotT u v)]), e7, e8, .un, .im od, e11] :=
    readsL (ρ := [.im (.fz (ns.map .int)), .im (.int (k : Int)), .ow es5, .im (.tup [.int t, .int b]), .im (dP a), .im (.tup [dP u, dP v]), .im (.lst [T (numT t b), T (polyT a), T (quotT u v)]), e7, e8, e9, .im od, e11]) (by simp) (fun ds e => he9 ds (by simpa using e)) (el3 (i := 0) (by decide)) (el3 (i := 1) (by decide)) (el3 (i := 2) (by decide))
  have m3 : mulD (.lst [noD]) (.int 3) = some (.lst [noD, noD, noD]) := by
    have e : mulD (.lst [noD]) (.int 3) = if -1000000 ≤ (3 : Int) ∧ (3 : Int) ≤ 1000000 ∧ [noD].length * (3 : Int).toNat ≤ sizeLine then some (.lst (List.replicate (3 : Int).toNat [noD]).flatten) else none := rfl
    rw [e, if_pos ⟨by decide, by decide, shb rfl⟩]
    rfl
  have nb3 : D.nb 1 (.lst [noD, noD, noD]) := fun d hd => by
    rcases List.mem_cons.mp hd with rfl | hd
    · exact noD_nb 0
    · rcases List.mem_cons.mp hd with rfl | hd
      · exact noD_nb 0
      · rw [List.mem_singleton.mp hd]; exact noD_nb 0
  have n9 : neD (.lst [noD, noD, noD]) (.lst [noD, noD, noD]) = some (.bl false) := neD_f nb3 nb3 (by decide) rfl
  have q9 : ifS (blE (op2 neD (lsE law_l3) (op2 mulD (lstE (consA (ret (.str "NoText")) (ret []))) (ret (.int 3))))) (retS (ret (.bl false))) skipS [.im (.fz (ns.map .int)), .im (.int (k : Int)), .ow es5, .im (.tup [.int t, .int b]), .im (dP a), .im (.tup [dP u, dP v]), .im (.lst [T (numT t b), T (polyT a), T (quotT u v)]), e7, e8, e9, .im od, e11] = .ok .nx [.im (.fz (ns.map .int)), .im (.int (k : Int)), .ow es5, .im (.tup [.int t, .int b]), .im (dP a), .im (.tup [dP u, dP v]), .im (.lst [T (numT t b), T (polyT a), T (quotT u v)]), e7, e8, .un, .im od, e11] :=
    ifS_gf (blE_go (op2_go (lsE_go l3) (op2_go (lstE_go rfl (shb rfl)) rfl m3) n9)) rfl
  refine ⟨.ow es5, .im (.tup [.int t, .int b]), .im (dP a), .im (.tup [dP u, dP v]), .im (.lst [T (numT t b), T (polyT a), T (quotT u v)]), e7, e8, .un, .im od, e11, no_im, no_im, no_im, no_im, he7, he8, no_un, no_im, he11, ?_⟩
  unfold law_f3b
  exact thenS_go q1 (thenS_go q2 (thenS_go q3 (thenS_go q4 (thenS_go q5 (thenS_go q6 (thenS_go q7' (thenS_go q8 q9)))))))
theorem lawloop {ns : P} (hns : ns.length ≤ 63) : ∀ (is : List Nat) (s1 s2 s3 s4 s5 s6 s7 s8 s9 s10 s11 : Sl), (∀ i ∈ is, i ≤ 63) → NO s1 → NO s3 → NO s4 → NO s5 → NO s6 → NO s7 → NO s8 → NO s9 → NO s10 → NO s11 →
    ∃ ρ, forL (setI 1) law_f3b (is.map fun i : Nat => .int ((0 : Int) + (i : Int))) [.im (.fz (ns.map .int)), s1, s2, s3, s4, s5, s6, s7, s8, s9, s10, s11] = .ok .nx ρ
  | [], s1, s2, s3, s4, s5, s6, s7, s8, s9, s10, s11, _, _, _, _, _, _, _, _, _, _, _ => ⟨_, rfl⟩
  | i :: is, s1, s2, s3, s4, s5, s6, s7, s8, s9, s10, s11, hi, h1, h3, h4, h5, h6, h7, h8, h9, h10, h11 => by
    obtain ⟨t2, t3, t4, t5, t6, t7, t8, t9, t10, t11, g3, g4, g5, g6, g7, g8, g9, g10, g11, q⟩ := lawstep (s2 := s2) (k := i) hns (hi i (by simp)) h3 h4 h5 h6 h7 h8 h9 h10 h11
    obtain ⟨ρ, q'⟩ := lawloop hns is (.im (.int (i : Int))) t2 t3 t4 t5 t6 t7 t8 t9 t10 t11 (fun j hj => hi j (List.mem_cons_of_mem _ hj)) no_im g3 g4 g5 g6 g7 g8 g9 g10 g11
    refine ⟨ρ, forL_go (ρ1 := [.im (.fz (ns.map .int)), .im (.int (i : Int)), s2, s3, s4, s5, s6, s7, s8, s9, s10, s11]) ?_ q q'⟩
    show setI 1 (.int ((0 : Int) + (i : Int))) _ = _
    rw [Int.zero_add]
    exact setI_any rfl h1
theorem R__law_many_eq {ns : P} (hns : ns.length ≤ 63) : ∃ j : Nat, j ≤ 4 ∧ R__law_many [.fz (ns.map .int), .int 4] = .ok (.lst (intsD 0 j)) [] := by
  have cl : lenD [.fz (ns.map .int)] = some (.int ((ns.length : Nat) : Int)) := by
    show some (D.int _) = _
    rw [List.length_map]
  have m1 : minD [.int 4, .int ((ns.length : Nat) : Int)] = some (.int ((min 4 ns.length : Nat) : Int)) := by
    show some (D.int (if _ then _ else _)) = _
    congr 2
    split <;> omega
  have hq4 : min 4 ns.length ≤ 4 := Nat.min_le_left _ _
  generalize min 4 ns.length = q4 at *
  have m2 : maxD [.int 1, .int ((q4 : Nat) : Int)] = some (.int ((max 1 q4 : Nat) : Int)) := by
    show some (D.int (if _ then _ else _)) = _
    congr 2
    split <;> omega
  have m3 : lrgD (.int ((max 1 q4 : Nat) : Int)) = some (intsD 0 (max 1 q4)) := by
    have e : lrgD (.int ((max 1 q4 : Nat) : Int)) = if -(2 ^ 62) ≤ ((max 1 q4 : Nat) : Int) ∧ ((max 1 q4 : Nat) : Int) < 2 ^ 62 ∧ ((max 1 q4 : Nat) : Int).toNat ≤ 2 ^ 24 then some (intsD 0 ((max 1 q4 : Nat) : Int).toNat) else none := by
      unfold lrgD
      with_reducible rfl
    have hs := small62 (n := max 1 q4) (by omega)
    rw [e, if_pos ⟨hs.1, hs.2, by rw [Int.toNat_natCast]; have : (2 : Nat) ^ 24 = 16777216 := rfl; omega⟩, Int.toNat_natCast]
  refine ⟨max 1 q4, by omega, ?_⟩
  refine run_ok (np := 2) (N := 2) (m := m__law_many) (ds := [.fz (ns.map .int), .int 4]) (ρ' := [.im (.fz (ns.map .int)), .im (.int 4)]) rfl ?_
  unfold m__law_many
  exact retS_go (lsE_go (lrgF_go (opA_go (consG_go (vl_go rfl) (consG_go (vl_go (opA_go (consG_go (vl_go rfl) (consG_go (vl_go (opA_go (consG_go (vl_go rfl) rfl) rfl cl rfl)) rfl)) rfl m1 rfl)) rfl)) rfl m2 rfl) m3))
theorem law_true : ∀ ns : List Int, ns.length ≤ 63 → R_law [D.fz (ns.map D.int)] = .ok (.bl true) [] := fun ns hns => by
  obtain ⟨j, hj, r⟩ := R__law_many_eq hns
  obtain ⟨ρ, q⟩ := lawloop hns (List.range j) .un .un .un .un .un .un .un .un .un .un .un (fun i hi => by have := List.mem_range.mp hi; omega) no_un no_un no_un no_un no_un no_un no_un no_un no_un no_un
  refine run_ok (np := 1) (N := 12) (m := m_law) (ds := [.fz (ns.map .int)]) (ρ' := ρ) rfl ?_
  rw [eq_law]
  exact thenS_go (forS_go (lstS_go (callA_go (consG_go (vl_go rfl) (consG_go (vl_go rfl) rfl)) rfl (cok r) rfl)) q) rfl
end K82
end

section
set_option Elab.async false
namespace K82
open PySem PySem.Spec PyProof.Rows L2 V3
theorem repInts {K : PySem.W.Frag} {O : Addr → Prop} {H : Hp} : ∀ ns : List Int, RepA K O H (ns.map D.int) (ns.map V.int)
  | [] => .nil
  | _ :: ns => .cons (.int _) (repInts ns)
end K82
end

set_option Elab.async false
set_option linter.all false
set_option maxRecDepth 100000
set_option maxHeartbeats 4000000
namespace K82
open PySem PySem.Spec PyProof.Rows L2 V3
def spLawV (K : PySem.W.Frag) : Sp := fun vs H Q _ => ∃ (a : Addr) (ns : List Int), vs = [.ref a] ∧ Only H ∧ SqL K H a (ns.map V.int) ∧ ns.length ≤ 63 ∧ ∀ H', Q (.bl true) H'
theorem sp_law {K : PySem.W.Frag} {mg : Str → Option Value} {vs : List V} {H : Hp} {Q : VK} {E : XK} (h : spLawV K vs H Q E) : spF K mg 1 12 false m_law vs H Q E := by
  obtain ⟨a, ns, rfl, hO, hS, hl, q⟩ := h
  have hf : FAt K (fun _ => False) H a (ns.map V.int) := by
    rcases hS with (h | ⟨o, h⟩) | h
    · rcases hO a with z | ⟨o, xs, z⟩ <;> (rw [h] at z; cases z)
    · exact .inl ⟨id, o, h⟩
    · exact .inr h
  have hr : RepA K (fun _ => False) H [D.fz (ns.map D.int)] [.ref a] := .cons (.fz hf (repInts ns)) .nil
  refine sp_of (B := ⟨K, mg, fun _ _ _ _ => False, H, fun _ => False, fun _ _ => False, 0, false⟩) hr (fun a z => z.elim) ?_
  rw [show runD 1 12 m_law [D.fz (ns.map D.int)] = .ok (.bl true) [] from law_true ns hl]
  intro H' v _ r _
  cases r
  exact q H'
theorem all_mk {l : PySem.W.OpenLaw} {w : World} {K : PySem.W.Frag} {h : Heap} {mg : Str → Option Value} {fa : Addr} (X : K.In h) (G : h.Ns mainGlobals mg) (hfa : mg "law" = some (.ref fa))
    {f_divisor : Addr} {od_divisor an_divisor : Option Addr} {sl_divisor : Array (Option Value)} {oc_divisor kV_divisor dc_divisor pm_divisor cd_divisor ct_divisor : Value}
    {f_number : Addr} {od_number an_number : Option Addr} {sl_number : Array (Option Value)} {oc_number kV_number dc_number pm_number cd_number ct_number : Value}
    {T_number : Addr} {oT_number : Obj} {tT_number : Tok} {nT_number : Nat}
    {f_poly : Addr} {od_poly an_poly : Option Addr} {sl_poly : Array (Option Value)} {oc_poly kV_poly dc_poly pm_poly cd_poly ct_poly : Value}
    {f_figure_at : Addr} {od_figure_at an_figure_at : Option Addr} {sl_figure_at : Array (Option Value)} {oc_figure_at kV_figure_at dc_figure_at pm_figure_at cd_figure_at ct_figure_at : Value}
    {f_poly_minus : Addr} {od_poly_minus an_poly_minus : Option Addr} {sl_poly_minus : Array (Option Value)} {oc_poly_minus kV_poly_minus dc_poly_minus pm_poly_minus cd_poly_minus ct_poly_minus : Value}
    {f_scaled : Addr} {od_scaled an_scaled : Option Addr} {sl_scaled : Array (Option Value)} {oc_scaled kV_scaled dc_scaled pm_scaled cd_scaled ct_scaled : Value}
    {f_raised : Addr} {od_raised an_raised : Option Addr} {sl_raised : Array (Option Value)} {oc_raised kV_raised dc_raised pm_raised cd_raised ct_raised : Value}
    {f_content : Addr} {od_content an_content : Option Addr} {sl_content : Array (Option Value)} {oc_content kV_content dc_content pm_content cd_content ct_content : Value}
    {f_parted : Addr} {od_parted an_parted : Option Addr} {sl_parted : Array (Option Value)} {oc_parted kV_parted dc_parted pm_parted cd_parted ct_parted : Value}
    {f_plain : Addr} {od_plain an_plain : Option Addr} {sl_plain : Array (Option Value)} {oc_plain kV_plain dc_plain pm_plain cd_plain ct_plain : Value}
    {f_without_head : Addr} {od_without_head an_without_head : Option Addr} {sl_without_head : Array (Option Value)} {oc_without_head kV_without_head dc_without_head pm_without_head cd_without_head ct_without_head : Value}
    {f_rest_by : Addr} {od_rest_by an_rest_by : Option Addr} {sl_rest_by : Array (Option Value)} {oc_rest_by kV_rest_by dc_rest_by pm_rest_by cd_rest_by ct_rest_by : Value}
    {f_common : Addr} {od_common an_common : Option Addr} {sl_common : Array (Option Value)} {oc_common kV_common dc_common pm_common cd_common ct_common : Value}
    {f_is_poly : Addr} {od_is_poly an_is_poly : Option Addr} {sl_is_poly : Array (Option Value)} {oc_is_poly kV_is_poly dc_is_poly pm_is_poly cd_is_poly ct_is_poly : Value}
    {f_is_quotient : Addr} {od_is_quotient an_is_quotient : Option Addr} {sl_is_quotient : Array (Option Value)} {oc_is_quotient kV_is_quotient dc_is_quotient pm_is_quotient cd_is_quotient ct_is_quotient : Value}
    {f_show_number : Addr} {od_show_number an_show_number : Option Addr} {sl_show_number : Array (Option Value)} {oc_show_number kV_show_number dc_show_number pm_show_number cd_show_number ct_show_number : Value}
    {f_show_poly : Addr} {od_show_poly an_show_poly : Option Addr} {sl_show_poly : Array (Option Value)} {oc_show_poly kV_show_poly dc_show_poly pm_show_poly cd_show_poly ct_show_poly : Value}
    {f_show_quotient : Addr} {od_show_quotient an_show_quotient : Option Addr} {sl_show_quotient : Array (Option Value)} {oc_show_quotient kV_show_quotient dc_show_quotient pm_show_quotient cd_show_quotient ct_show_quotient : Value}
    {f_must : Addr} {od_must an_must : Option Addr} {sl_must : Array (Option Value)} {oc_must kV_must dc_must pm_must cd_must ct_must : Value}
    {f_whole_in : Addr} {od_whole_in an_whole_in : Option Addr} {sl_whole_in : Array (Option Value)} {oc_whole_in kV_whole_in dc_whole_in pm_whole_in cd_whole_in ct_whole_in : Value}
    {f_read_number : Addr} {od_read_number an_read_number : Option Addr} {sl_read_number : Array (Option Value)} {oc_read_number kV_read_number dc_read_number pm_read_number cd_read_number ct_read_number : Value}
    {f_poly_in : Addr} {od_poly_in an_poly_in : Option Addr} {sl_poly_in : Array (Option Value)} {oc_poly_in kV_poly_in dc_poly_in pm_poly_in cd_poly_in ct_poly_in : Value}
    {f_read_poly : Addr} {od_read_poly an_read_poly : Option Addr} {sl_read_poly : Array (Option Value)} {oc_read_poly kV_read_poly dc_read_poly pm_read_poly cd_read_poly ct_read_poly : Value}
    {f_quotient_in : Addr} {od_quotient_in an_quotient_in : Option Addr} {sl_quotient_in : Array (Option Value)} {oc_quotient_in kV_quotient_in dc_quotient_in pm_quotient_in cd_quotient_in ct_quotient_in : Value}
    {f_read_quotient : Addr} {od_read_quotient an_read_quotient : Option Addr} {sl_read_quotient : Array (Option Value)} {oc_read_quotient kV_read_quotient dc_read_quotient pm_read_quotient cd_read_quotient ct_read_quotient : Value}
    {f__law_purse : Addr} {od__law_purse an__law_purse : Option Addr} {sl__law_purse : Array (Option Value)} {oc__law_purse kV__law_purse dc__law_purse pm__law_purse cd__law_purse ct__law_purse : Value}
    {f__law_draw : Addr} {od__law_draw an__law_draw : Option Addr} {sl__law_draw : Array (Option Value)} {oc__law_draw kV__law_draw dc__law_draw pm__law_draw cd__law_draw ct__law_draw : Value}
    {f__law_divisor : Addr} {od__law_divisor an__law_divisor : Option Addr} {sl__law_divisor : Array (Option Value)} {oc__law_divisor kV__law_divisor dc__law_divisor pm__law_divisor cd__law_divisor ct__law_divisor : Value}
    {f__law_low : Addr} {od__law_low an__law_low : Option Addr} {sl__law_low : Array (Option Value)} {oc__law_low kV__law_low dc__law_low pm__law_low cd__law_low ct__law_low : Value}
    {f__law_whole : Addr} {od__law_whole an__law_whole : Option Addr} {sl__law_whole : Array (Option Value)} {oc__law_whole kV__law_whole dc__law_whole pm__law_whole cd__law_whole ct__law_whole : Value}
    {f__law_cut : Addr} {od__law_cut an__law_cut : Option Addr} {sl__law_cut : Array (Option Value)} {oc__law_cut kV__law_cut dc__law_cut pm__law_cut cd__law_cut ct__law_cut : Value}
    {f__law_poly : Addr} {od__law_poly an__law_poly : Option Addr} {sl__law_poly : Array (Option Value)} {oc__law_poly kV__law_poly dc__law_poly pm__law_poly cd__law_poly ct__law_poly : Value}
    {f__law_sum : Addr} {od__law_sum an__law_sum : Option Addr} {sl__law_sum : Array (Option Value)} {oc__law_sum kV__law_sum dc__law_sum pm__law_sum cd__law_sum ct__law_sum : Value}
    {f__law_product : Addr} {od__law_product an__law_product : Option Addr} {sl__law_product : Array (Option Value)} {oc__law_product kV__law_product dc__law_product pm__law_product cd__law_product ct__law_product : Value}
    {f__law_plain : Addr} {od__law_plain an__law_plain : Option Addr} {sl__law_plain : Array (Option Value)} {oc__law_plain kV__law_plain dc__law_plain pm__law_plain cd__law_plain ct__law_plain : Value}
    {f__law_left : Addr} {od__law_left an__law_left : Option Addr} {sl__law_left : Array (Option Value)} {oc__law_left kV__law_left dc__law_left pm__law_left cd__law_left ct__law_left : Value}
    {f__law_common : Addr} {od__law_common an__law_common : Option Addr} {sl__law_common : Array (Option Value)} {oc__law_common kV__law_common dc__law_common pm__law_common cd__law_common ct__law_common : Value}
    {f__law_divided : Addr} {od__law_divided an__law_divided : Option Addr} {sl__law_divided : Array (Option Value)} {oc__law_divided kV__law_divided dc__law_divided pm__law_divided cd__law_divided ct__law_divided : Value}
    {f__law_form : Addr} {od__law_form an__law_form : Option Addr} {sl__law_form : Array (Option Value)} {oc__law_form kV__law_form dc__law_form pm__law_form cd__law_form ct__law_form : Value}
    {f__law_number : Addr} {od__law_number an__law_number : Option Addr} {sl__law_number : Array (Option Value)} {oc__law_number kV__law_number dc__law_number pm__law_number cd__law_number ct__law_number : Value}
    {f__law_quotient : Addr} {od__law_quotient an__law_quotient : Option Addr} {sl__law_quotient : Array (Option Value)} {oc__law_quotient kV__law_quotient dc__law_quotient pm__law_quotient cd__law_quotient ct__law_quotient : Value}
    {f__law_whole_in : Addr} {od__law_whole_in an__law_whole_in : Option Addr} {sl__law_whole_in : Array (Option Value)} {oc__law_whole_in kV__law_whole_in dc__law_whole_in pm__law_whole_in cd__law_whole_in ct__law_whole_in : Value}
    {f__law_poly_in : Addr} {od__law_poly_in an__law_poly_in : Option Addr} {sl__law_poly_in : Array (Option Value)} {oc__law_poly_in kV__law_poly_in dc__law_poly_in pm__law_poly_in cd__law_poly_in ct__law_poly_in : Value}
    {f__law_quotient_in : Addr} {od__law_quotient_in an__law_quotient_in : Option Addr} {sl__law_quotient_in : Array (Option Value)} {oc__law_quotient_in kV__law_quotient_in dc__law_quotient_in pm__law_quotient_in cd__law_quotient_in ct__law_quotient_in : Value}
    {f__law_number_in : Addr} {od__law_number_in an__law_number_in : Option Addr} {sl__law_number_in : Array (Option Value)} {oc__law_number_in kV__law_number_in dc__law_number_in pm__law_number_in cd__law_number_in ct__law_number_in : Value}
    {f__law_poly_text : Addr} {od__law_poly_text an__law_poly_text : Option Addr} {sl__law_poly_text : Array (Option Value)} {oc__law_poly_text kV__law_poly_text dc__law_poly_text pm__law_poly_text cd__law_poly_text ct__law_poly_text : Value}
    {f__law_quotient_text : Addr} {od__law_quotient_text an__law_quotient_text : Option Addr} {sl__law_quotient_text : Array (Option Value)} {oc__law_quotient_text kV__law_quotient_text dc__law_quotient_text pm__law_quotient_text cd__law_quotient_text ct__law_quotient_text : Value}
    {f__law_number_text : Addr} {od__law_number_text an__law_number_text : Option Addr} {sl__law_number_text : Array (Option Value)} {oc__law_number_text kV__law_number_text dc__law_number_text pm__law_number_text cd__law_number_text ct__law_number_text : Value}
    {f__law_bent_text : Addr} {od__law_bent_text an__law_bent_text : Option Addr} {sl__law_bent_text : Array (Option Value)} {oc__law_bent_text kV__law_bent_text dc__law_bent_text pm__law_bent_text cd__law_bent_text ct__law_bent_text : Value}
    {f__law_many : Addr} {od__law_many an__law_many : Option Addr} {sl__law_many : Array (Option Value)} {oc__law_many kV__law_many dc__law_many pm__law_many cd__law_many ct__law_many : Value}
    {f__law_read : Addr} {od__law_read an__law_read : Option Addr} {sl__law_read : Array (Option Value)} {oc__law_read kV__law_read dc__law_read pm__law_read cd__law_read ct__law_read : Value}
    {f__law_due : Addr} {od__law_due an__law_due : Option Addr} {sl__law_due : Array (Option Value)} {oc__law_due kV__law_due dc__law_due pm__law_due cd__law_due ct__law_due : Value}
    {f_law : Addr} {od_law an_law : Option Addr} {sl_law : Array (Option Value)} {oc_law kV_law dc_law pm_law cd_law ct_law : Value}
    {tk_FIGURES : Tok}
    {C_NoName : Addr}
    {C_NoNumber : Addr}
    {C_NoPlace : Addr}
    {C_NoRow : Addr}
    {C_NoStep : Addr}
    {C_NoText : Addr}
    {C_SlopeError : Addr}
    (a_divisor : PySem.W.nsIn K mainGlobals "divisor" = some (some (.ref f_divisor)))
    (l_divisor : K.lookup f_divisor = some ⟨oc_divisor, od_divisor, .func (PySem.W.fnOf "divisor" "divisor" (defArgs s_divisor) (defBody s_divisor) (defScope s_divisor) .none kV_divisor dc_divisor pm_divisor an_divisor cd_divisor ct_divisor), sl_divisor⟩)
    (c_divisor : PySem.W.codeIn K cd_divisor "divisor" = true)
    (k_divisor : PySem.W.keepIn K (.ref f_divisor) = true)
    (a_number : PySem.W.nsIn K mainGlobals "number" = some (some (.ref f_number)))
    (l_number : K.lookup f_number = some ⟨oc_number, od_number, .func (PySem.W.fnOf "number" "number" (defArgs s_number) (defBody s_number) (defScope s_number) (.ref T_number) kV_number dc_number pm_number an_number cd_number ct_number), sl_number⟩)
    (lT_number : K.lookup T_number = some oT_number)
    (oT'_number : oT_number.data = .seq [Value.int 1 tT_number].toArray nT_number)
    (c_number : PySem.W.codeIn K cd_number "number" = true)
    (k_number : PySem.W.keepIn K (.ref f_number) = true)
    (a_poly : PySem.W.nsIn K mainGlobals "poly" = some (some (.ref f_poly)))
    (l_poly : K.lookup f_poly = some ⟨oc_poly, od_poly, .func (PySem.W.fnOf "poly" "poly" (defArgs s_poly) (defBody s_poly) (defScope s_poly) .none kV_poly dc_poly pm_poly an_poly cd_poly ct_poly), sl_poly⟩)
    (c_poly : PySem.W.codeIn K cd_poly "poly" = true)
    (k_poly : PySem.W.keepIn K (.ref f_poly) = true)
    (a_figure_at : PySem.W.nsIn K mainGlobals "figure_at" = some (some (.ref f_figure_at)))
    (l_figure_at : K.lookup f_figure_at = some ⟨oc_figure_at, od_figure_at, .func (PySem.W.fnOf "figure_at" "figure_at" (defArgs s_figure_at) (defBody s_figure_at) (defScope s_figure_at) .none kV_figure_at dc_figure_at pm_figure_at an_figure_at cd_figure_at ct_figure_at), sl_figure_at⟩)
    (c_figure_at : PySem.W.codeIn K cd_figure_at "figure_at" = true)
    (k_figure_at : PySem.W.keepIn K (.ref f_figure_at) = true)
    (a_poly_minus : PySem.W.nsIn K mainGlobals "poly_minus" = some (some (.ref f_poly_minus)))
    (l_poly_minus : K.lookup f_poly_minus = some ⟨oc_poly_minus, od_poly_minus, .func (PySem.W.fnOf "poly_minus" "poly_minus" (defArgs s_poly_minus) (defBody s_poly_minus) (defScope s_poly_minus) .none kV_poly_minus dc_poly_minus pm_poly_minus an_poly_minus cd_poly_minus ct_poly_minus), sl_poly_minus⟩)
    (c_poly_minus : PySem.W.codeIn K cd_poly_minus "poly_minus" = true)
    (k_poly_minus : PySem.W.keepIn K (.ref f_poly_minus) = true)
    (a_scaled : PySem.W.nsIn K mainGlobals "scaled" = some (some (.ref f_scaled)))
    (l_scaled : K.lookup f_scaled = some ⟨oc_scaled, od_scaled, .func (PySem.W.fnOf "scaled" "scaled" (defArgs s_scaled) (defBody s_scaled) (defScope s_scaled) .none kV_scaled dc_scaled pm_scaled an_scaled cd_scaled ct_scaled), sl_scaled⟩)
    (c_scaled : PySem.W.codeIn K cd_scaled "scaled" = true)
    (k_scaled : PySem.W.keepIn K (.ref f_scaled) = true)
    (a_raised : PySem.W.nsIn K mainGlobals "raised" = some (some (.ref f_raised)))
    (l_raised : K.lookup f_raised = some ⟨oc_raised, od_raised, .func (PySem.W.fnOf "raised" "raised" (defArgs s_raised) (defBody s_raised) (defScope s_raised) .none kV_raised dc_raised pm_raised an_raised cd_raised ct_raised), sl_raised⟩)
    (c_raised : PySem.W.codeIn K cd_raised "raised" = true)
    (k_raised : PySem.W.keepIn K (.ref f_raised) = true)
    (a_content : PySem.W.nsIn K mainGlobals "content" = some (some (.ref f_content)))
    (l_content : K.lookup f_content = some ⟨oc_content, od_content, .func (PySem.W.fnOf "content" "content" (defArgs s_content) (defBody s_content) (defScope s_content) .none kV_content dc_content pm_content an_content cd_content ct_content), sl_content⟩)
    (c_content : PySem.W.codeIn K cd_content "content" = true)
    (k_content : PySem.W.keepIn K (.ref f_content) = true)
    (a_parted : PySem.W.nsIn K mainGlobals "parted" = some (some (.ref f_parted)))
    (l_parted : K.lookup f_parted = some ⟨oc_parted, od_parted, .func (PySem.W.fnOf "parted" "parted" (defArgs s_parted) (defBody s_parted) (defScope s_parted) .none kV_parted dc_parted pm_parted an_parted cd_parted ct_parted), sl_parted⟩)
    (c_parted : PySem.W.codeIn K cd_parted "parted" = true)
    (k_parted : PySem.W.keepIn K (.ref f_parted) = true)
    (a_plain : PySem.W.nsIn K mainGlobals "plain" = some (some (.ref f_plain)))
    (l_plain : K.lookup f_plain = some ⟨oc_plain, od_plain, .func (PySem.W.fnOf "plain" "plain" (defArgs s_plain) (defBody s_plain) (defScope s_plain) .none kV_plain dc_plain pm_plain an_plain cd_plain ct_plain), sl_plain⟩)
    (c_plain : PySem.W.codeIn K cd_plain "plain" = true)
    (k_plain : PySem.W.keepIn K (.ref f_plain) = true)
    (a_without_head : PySem.W.nsIn K mainGlobals "without_head" = some (some (.ref f_without_head)))
    (l_without_head : K.lookup f_without_head = some ⟨oc_without_head, od_without_head, .func (PySem.W.fnOf "without_head" "without_head" (defArgs s_without_head) (defBody s_without_head) (defScope s_without_head) .none kV_without_head dc_without_head pm_without_head an_without_head cd_without_head ct_without_head), sl_without_head⟩)
    (c_without_head : PySem.W.codeIn K cd_without_head "without_head" = true)
    (k_without_head : PySem.W.keepIn K (.ref f_without_head) = true)
    (a_rest_by : PySem.W.nsIn K mainGlobals "rest_by" = some (some (.ref f_rest_by)))
    (l_rest_by : K.lookup f_rest_by = some ⟨oc_rest_by, od_rest_by, .func (PySem.W.fnOf "rest_by" "rest_by" (defArgs s_rest_by) (defBody s_rest_by) (defScope s_rest_by) .none kV_rest_by dc_rest_by pm_rest_by an_rest_by cd_rest_by ct_rest_by), sl_rest_by⟩)
    (c_rest_by : PySem.W.codeIn K cd_rest_by "rest_by" = true)
    (k_rest_by : PySem.W.keepIn K (.ref f_rest_by) = true)
    (a_common : PySem.W.nsIn K mainGlobals "common" = some (some (.ref f_common)))
    (l_common : K.lookup f_common = some ⟨oc_common, od_common, .func (PySem.W.fnOf "common" "common" (defArgs s_common) (defBody s_common) (defScope s_common) .none kV_common dc_common pm_common an_common cd_common ct_common), sl_common⟩)
    (c_common : PySem.W.codeIn K cd_common "common" = true)
    (k_common : PySem.W.keepIn K (.ref f_common) = true)
    (a_is_poly : PySem.W.nsIn K mainGlobals "is_poly" = some (some (.ref f_is_poly)))
    (l_is_poly : K.lookup f_is_poly = some ⟨oc_is_poly, od_is_poly, .func (PySem.W.fnOf "is_poly" "is_poly" (defArgs s_is_poly) (defBody s_is_poly) (defScope s_is_poly) .none kV_is_poly dc_is_poly pm_is_poly an_is_poly cd_is_poly ct_is_poly), sl_is_poly⟩)
    (c_is_poly : PySem.W.codeIn K cd_is_poly "is_poly" = true)
    (k_is_poly : PySem.W.keepIn K (.ref f_is_poly) = true)
    (a_is_quotient : PySem.W.nsIn K mainGlobals "is_quotient" = some (some (.ref f_is_quotient)))
    (l_is_quotient : K.lookup f_is_quotient = some ⟨oc_is_quotient, od_is_quotient, .func (PySem.W.fnOf "is_quotient" "is_quotient" (defArgs s_is_quotient) (defBody s_is_quotient) (defScope s_is_quotient) .none kV_is_quotient dc_is_quotient pm_is_quotient an_is_quotient cd_is_quotient ct_is_quotient), sl_is_quotient⟩)
    (c_is_quotient : PySem.W.codeIn K cd_is_quotient "is_quotient" = true)
    (k_is_quotient : PySem.W.keepIn K (.ref f_is_quotient) = true)
    (a_show_number : PySem.W.nsIn K mainGlobals "show_number" = some (some (.ref f_show_number)))
    (l_show_number : K.lookup f_show_number = some ⟨oc_show_number, od_show_number, .func (PySem.W.fnOf "show_number" "show_number" (defArgs s_show_number) (defBody s_show_number) (defScope s_show_number) .none kV_show_number dc_show_number pm_show_number an_show_number cd_show_number ct_show_number), sl_show_number⟩)
    (c_show_number : PySem.W.codeIn K cd_show_number "show_number" = true)
    (k_show_number : PySem.W.keepIn K (.ref f_show_number) = true)
    (a_show_poly : PySem.W.nsIn K mainGlobals "show_poly" = some (some (.ref f_show_poly)))
    (l_show_poly : K.lookup f_show_poly = some ⟨oc_show_poly, od_show_poly, .func (PySem.W.fnOf "show_poly" "show_poly" (defArgs s_show_poly) (defBody s_show_poly) (defScope s_show_poly) .none kV_show_poly dc_show_poly pm_show_poly an_show_poly cd_show_poly ct_show_poly), sl_show_poly⟩)
    (c_show_poly : PySem.W.codeIn K cd_show_poly "show_poly" = true)
    (k_show_poly : PySem.W.keepIn K (.ref f_show_poly) = true)
    (a_show_quotient : PySem.W.nsIn K mainGlobals "show_quotient" = some (some (.ref f_show_quotient)))
    (l_show_quotient : K.lookup f_show_quotient = some ⟨oc_show_quotient, od_show_quotient, .func (PySem.W.fnOf "show_quotient" "show_quotient" (defArgs s_show_quotient) (defBody s_show_quotient) (defScope s_show_quotient) .none kV_show_quotient dc_show_quotient pm_show_quotient an_show_quotient cd_show_quotient ct_show_quotient), sl_show_quotient⟩)
    (c_show_quotient : PySem.W.codeIn K cd_show_quotient "show_quotient" = true)
    (k_show_quotient : PySem.W.keepIn K (.ref f_show_quotient) = true)
    (a_must : PySem.W.nsIn K mainGlobals "must" = some (some (.ref f_must)))
    (l_must : K.lookup f_must = some ⟨oc_must, od_must, .func (PySem.W.fnOf "must" "must" (defArgs s_must) (defBody s_must) (defScope s_must) .none kV_must dc_must pm_must an_must cd_must ct_must), sl_must⟩)
    (c_must : PySem.W.codeIn K cd_must "must" = true)
    (k_must : PySem.W.keepIn K (.ref f_must) = true)
    (a_whole_in : PySem.W.nsIn K mainGlobals "whole_in" = some (some (.ref f_whole_in)))
    (l_whole_in : K.lookup f_whole_in = some ⟨oc_whole_in, od_whole_in, .func (PySem.W.fnOf "whole_in" "whole_in" (defArgs s_whole_in) (defBody s_whole_in) (defScope s_whole_in) .none kV_whole_in dc_whole_in pm_whole_in an_whole_in cd_whole_in ct_whole_in), sl_whole_in⟩)
    (c_whole_in : PySem.W.codeIn K cd_whole_in "whole_in" = true)
    (k_whole_in : PySem.W.keepIn K (.ref f_whole_in) = true)
    (a_read_number : PySem.W.nsIn K mainGlobals "read_number" = some (some (.ref f_read_number)))
    (l_read_number : K.lookup f_read_number = some ⟨oc_read_number, od_read_number, .func (PySem.W.fnOf "read_number" "read_number" (defArgs s_read_number) (defBody s_read_number) (defScope s_read_number) .none kV_read_number dc_read_number pm_read_number an_read_number cd_read_number ct_read_number), sl_read_number⟩)
    (c_read_number : PySem.W.codeIn K cd_read_number "read_number" = true)
    (k_read_number : PySem.W.keepIn K (.ref f_read_number) = true)
    (a_poly_in : PySem.W.nsIn K mainGlobals "poly_in" = some (some (.ref f_poly_in)))
    (l_poly_in : K.lookup f_poly_in = some ⟨oc_poly_in, od_poly_in, .func (PySem.W.fnOf "poly_in" "poly_in" (defArgs s_poly_in) (defBody s_poly_in) (defScope s_poly_in) .none kV_poly_in dc_poly_in pm_poly_in an_poly_in cd_poly_in ct_poly_in), sl_poly_in⟩)
    (c_poly_in : PySem.W.codeIn K cd_poly_in "poly_in" = true)
    (k_poly_in : PySem.W.keepIn K (.ref f_poly_in) = true)
    (a_read_poly : PySem.W.nsIn K mainGlobals "read_poly" = some (some (.ref f_read_poly)))
    (l_read_poly : K.lookup f_read_poly = some ⟨oc_read_poly, od_read_poly, .func (PySem.W.fnOf "read_poly" "read_poly" (defArgs s_read_poly) (defBody s_read_poly) (defScope s_read_poly) .none kV_read_poly dc_read_poly pm_read_poly an_read_poly cd_read_poly ct_read_poly), sl_read_poly⟩)
    (c_read_poly : PySem.W.codeIn K cd_read_poly "read_poly" = true)
    (k_read_poly : PySem.W.keepIn K (.ref f_read_poly) = true)
    (a_quotient_in : PySem.W.nsIn K mainGlobals "quotient_in" = some (some (.ref f_quotient_in)))
    (l_quotient_in : K.lookup f_quotient_in = some ⟨oc_quotient_in, od_quotient_in, .func (PySem.W.fnOf "quotient_in" "quotient_in" (defArgs s_quotient_in) (defBody s_quotient_in) (defScope s_quotient_in) .none kV_quotient_in dc_quotient_in pm_quotient_in an_quotient_in cd_quotient_in ct_quotient_in), sl_quotient_in⟩)
    (c_quotient_in : PySem.W.codeIn K cd_quotient_in "quotient_in" = true)
    (k_quotient_in : PySem.W.keepIn K (.ref f_quotient_in) = true)
    (a_read_quotient : PySem.W.nsIn K mainGlobals "read_quotient" = some (some (.ref f_read_quotient)))
    (l_read_quotient : K.lookup f_read_quotient = some ⟨oc_read_quotient, od_read_quotient, .func (PySem.W.fnOf "read_quotient" "read_quotient" (defArgs s_read_quotient) (defBody s_read_quotient) (defScope s_read_quotient) .none kV_read_quotient dc_read_quotient pm_read_quotient an_read_quotient cd_read_quotient ct_read_quotient), sl_read_quotient⟩)
    (c_read_quotient : PySem.W.codeIn K cd_read_quotient "read_quotient" = true)
    (k_read_quotient : PySem.W.keepIn K (.ref f_read_quotient) = true)
    (a__law_purse : PySem.W.nsIn K mainGlobals "_law_purse" = some (some (.ref f__law_purse)))
    (l__law_purse : K.lookup f__law_purse = some ⟨oc__law_purse, od__law_purse, .func (PySem.W.fnOf "_law_purse" "_law_purse" (defArgs s__law_purse) (defBody s__law_purse) (defScope s__law_purse) .none kV__law_purse dc__law_purse pm__law_purse an__law_purse cd__law_purse ct__law_purse), sl__law_purse⟩)
    (c__law_purse : PySem.W.codeIn K cd__law_purse "_law_purse" = true)
    (k__law_purse : PySem.W.keepIn K (.ref f__law_purse) = true)
    (a__law_draw : PySem.W.nsIn K mainGlobals "_law_draw" = some (some (.ref f__law_draw)))
    (l__law_draw : K.lookup f__law_draw = some ⟨oc__law_draw, od__law_draw, .func (PySem.W.fnOf "_law_draw" "_law_draw" (defArgs s__law_draw) (defBody s__law_draw) (defScope s__law_draw) .none kV__law_draw dc__law_draw pm__law_draw an__law_draw cd__law_draw ct__law_draw), sl__law_draw⟩)
    (c__law_draw : PySem.W.codeIn K cd__law_draw "_law_draw" = true)
    (k__law_draw : PySem.W.keepIn K (.ref f__law_draw) = true)
    (a__law_divisor : PySem.W.nsIn K mainGlobals "_law_divisor" = some (some (.ref f__law_divisor)))
    (l__law_divisor : K.lookup f__law_divisor = some ⟨oc__law_divisor, od__law_divisor, .func (PySem.W.fnOf "_law_divisor" "_law_divisor" (defArgs s__law_divisor) (defBody s__law_divisor) (defScope s__law_divisor) .none kV__law_divisor dc__law_divisor pm__law_divisor an__law_divisor cd__law_divisor ct__law_divisor), sl__law_divisor⟩)
    (c__law_divisor : PySem.W.codeIn K cd__law_divisor "_law_divisor" = true)
    (k__law_divisor : PySem.W.keepIn K (.ref f__law_divisor) = true)
    (a__law_low : PySem.W.nsIn K mainGlobals "_law_low" = some (some (.ref f__law_low)))
    (l__law_low : K.lookup f__law_low = some ⟨oc__law_low, od__law_low, .func (PySem.W.fnOf "_law_low" "_law_low" (defArgs s__law_low) (defBody s__law_low) (defScope s__law_low) .none kV__law_low dc__law_low pm__law_low an__law_low cd__law_low ct__law_low), sl__law_low⟩)
    (c__law_low : PySem.W.codeIn K cd__law_low "_law_low" = true)
    (k__law_low : PySem.W.keepIn K (.ref f__law_low) = true)
    (a__law_whole : PySem.W.nsIn K mainGlobals "_law_whole" = some (some (.ref f__law_whole)))
    (l__law_whole : K.lookup f__law_whole = some ⟨oc__law_whole, od__law_whole, .func (PySem.W.fnOf "_law_whole" "_law_whole" (defArgs s__law_whole) (defBody s__law_whole) (defScope s__law_whole) .none kV__law_whole dc__law_whole pm__law_whole an__law_whole cd__law_whole ct__law_whole), sl__law_whole⟩)
    (c__law_whole : PySem.W.codeIn K cd__law_whole "_law_whole" = true)
    (k__law_whole : PySem.W.keepIn K (.ref f__law_whole) = true)
    (a__law_cut : PySem.W.nsIn K mainGlobals "_law_cut" = some (some (.ref f__law_cut)))
    (l__law_cut : K.lookup f__law_cut = some ⟨oc__law_cut, od__law_cut, .func (PySem.W.fnOf "_law_cut" "_law_cut" (defArgs s__law_cut) (defBody s__law_cut) (defScope s__law_cut) .none kV__law_cut dc__law_cut pm__law_cut an__law_cut cd__law_cut ct__law_cut), sl__law_cut⟩)
    (c__law_cut : PySem.W.codeIn K cd__law_cut "_law_cut" = true)
    (k__law_cut : PySem.W.keepIn K (.ref f__law_cut) = true)
    (a__law_poly : PySem.W.nsIn K mainGlobals "_law_poly" = some (some (.ref f__law_poly)))
    (l__law_poly : K.lookup f__law_poly = some ⟨oc__law_poly, od__law_poly, .func (PySem.W.fnOf "_law_poly" "_law_poly" (defArgs s__law_poly) (defBody s__law_poly) (defScope s__law_poly) .none kV__law_poly dc__law_poly pm__law_poly an__law_poly cd__law_poly ct__law_poly), sl__law_poly⟩)
    (c__law_poly : PySem.W.codeIn K cd__law_poly "_law_poly" = true)
    (k__law_poly : PySem.W.keepIn K (.ref f__law_poly) = true)
    (a__law_sum : PySem.W.nsIn K mainGlobals "_law_sum" = some (some (.ref f__law_sum)))
    (l__law_sum : K.lookup f__law_sum = some ⟨oc__law_sum, od__law_sum, .func (PySem.W.fnOf "_law_sum" "_law_sum" (defArgs s__law_sum) (defBody s__law_sum) (defScope s__law_sum) .none kV__law_sum dc__law_sum pm__law_sum an__law_sum cd__law_sum ct__law_sum), sl__law_sum⟩)
    (c__law_sum : PySem.W.codeIn K cd__law_sum "_law_sum" = true)
    (k__law_sum : PySem.W.keepIn K (.ref f__law_sum) = true)
    (a__law_product : PySem.W.nsIn K mainGlobals "_law_product" = some (some (.ref f__law_product)))
    (l__law_product : K.lookup f__law_product = some ⟨oc__law_product, od__law_product, .func (PySem.W.fnOf "_law_product" "_law_product" (defArgs s__law_product) (defBody s__law_product) (defScope s__law_product) .none kV__law_product dc__law_product pm__law_product an__law_product cd__law_product ct__law_product), sl__law_product⟩)
    (c__law_product : PySem.W.codeIn K cd__law_product "_law_product" = true)
    (k__law_product : PySem.W.keepIn K (.ref f__law_product) = true)
    (a__law_plain : PySem.W.nsIn K mainGlobals "_law_plain" = some (some (.ref f__law_plain)))
    (l__law_plain : K.lookup f__law_plain = some ⟨oc__law_plain, od__law_plain, .func (PySem.W.fnOf "_law_plain" "_law_plain" (defArgs s__law_plain) (defBody s__law_plain) (defScope s__law_plain) .none kV__law_plain dc__law_plain pm__law_plain an__law_plain cd__law_plain ct__law_plain), sl__law_plain⟩)
    (c__law_plain : PySem.W.codeIn K cd__law_plain "_law_plain" = true)
    (k__law_plain : PySem.W.keepIn K (.ref f__law_plain) = true)
    (a__law_left : PySem.W.nsIn K mainGlobals "_law_left" = some (some (.ref f__law_left)))
    (l__law_left : K.lookup f__law_left = some ⟨oc__law_left, od__law_left, .func (PySem.W.fnOf "_law_left" "_law_left" (defArgs s__law_left) (defBody s__law_left) (defScope s__law_left) .none kV__law_left dc__law_left pm__law_left an__law_left cd__law_left ct__law_left), sl__law_left⟩)
    (c__law_left : PySem.W.codeIn K cd__law_left "_law_left" = true)
    (k__law_left : PySem.W.keepIn K (.ref f__law_left) = true)
    (a__law_common : PySem.W.nsIn K mainGlobals "_law_common" = some (some (.ref f__law_common)))
    (l__law_common : K.lookup f__law_common = some ⟨oc__law_common, od__law_common, .func (PySem.W.fnOf "_law_common" "_law_common" (defArgs s__law_common) (defBody s__law_common) (defScope s__law_common) .none kV__law_common dc__law_common pm__law_common an__law_common cd__law_common ct__law_common), sl__law_common⟩)
    (c__law_common : PySem.W.codeIn K cd__law_common "_law_common" = true)
    (k__law_common : PySem.W.keepIn K (.ref f__law_common) = true)
    (a__law_divided : PySem.W.nsIn K mainGlobals "_law_divided" = some (some (.ref f__law_divided)))
    (l__law_divided : K.lookup f__law_divided = some ⟨oc__law_divided, od__law_divided, .func (PySem.W.fnOf "_law_divided" "_law_divided" (defArgs s__law_divided) (defBody s__law_divided) (defScope s__law_divided) .none kV__law_divided dc__law_divided pm__law_divided an__law_divided cd__law_divided ct__law_divided), sl__law_divided⟩)
    (c__law_divided : PySem.W.codeIn K cd__law_divided "_law_divided" = true)
    (k__law_divided : PySem.W.keepIn K (.ref f__law_divided) = true)
    (a__law_form : PySem.W.nsIn K mainGlobals "_law_form" = some (some (.ref f__law_form)))
    (l__law_form : K.lookup f__law_form = some ⟨oc__law_form, od__law_form, .func (PySem.W.fnOf "_law_form" "_law_form" (defArgs s__law_form) (defBody s__law_form) (defScope s__law_form) .none kV__law_form dc__law_form pm__law_form an__law_form cd__law_form ct__law_form), sl__law_form⟩)
    (c__law_form : PySem.W.codeIn K cd__law_form "_law_form" = true)
    (k__law_form : PySem.W.keepIn K (.ref f__law_form) = true)
    (a__law_number : PySem.W.nsIn K mainGlobals "_law_number" = some (some (.ref f__law_number)))
    (l__law_number : K.lookup f__law_number = some ⟨oc__law_number, od__law_number, .func (PySem.W.fnOf "_law_number" "_law_number" (defArgs s__law_number) (defBody s__law_number) (defScope s__law_number) .none kV__law_number dc__law_number pm__law_number an__law_number cd__law_number ct__law_number), sl__law_number⟩)
    (c__law_number : PySem.W.codeIn K cd__law_number "_law_number" = true)
    (k__law_number : PySem.W.keepIn K (.ref f__law_number) = true)
    (a__law_quotient : PySem.W.nsIn K mainGlobals "_law_quotient" = some (some (.ref f__law_quotient)))
    (l__law_quotient : K.lookup f__law_quotient = some ⟨oc__law_quotient, od__law_quotient, .func (PySem.W.fnOf "_law_quotient" "_law_quotient" (defArgs s__law_quotient) (defBody s__law_quotient) (defScope s__law_quotient) .none kV__law_quotient dc__law_quotient pm__law_quotient an__law_quotient cd__law_quotient ct__law_quotient), sl__law_quotient⟩)
    (c__law_quotient : PySem.W.codeIn K cd__law_quotient "_law_quotient" = true)
    (k__law_quotient : PySem.W.keepIn K (.ref f__law_quotient) = true)
    (a__law_whole_in : PySem.W.nsIn K mainGlobals "_law_whole_in" = some (some (.ref f__law_whole_in)))
    (l__law_whole_in : K.lookup f__law_whole_in = some ⟨oc__law_whole_in, od__law_whole_in, .func (PySem.W.fnOf "_law_whole_in" "_law_whole_in" (defArgs s__law_whole_in) (defBody s__law_whole_in) (defScope s__law_whole_in) .none kV__law_whole_in dc__law_whole_in pm__law_whole_in an__law_whole_in cd__law_whole_in ct__law_whole_in), sl__law_whole_in⟩)
    (c__law_whole_in : PySem.W.codeIn K cd__law_whole_in "_law_whole_in" = true)
    (k__law_whole_in : PySem.W.keepIn K (.ref f__law_whole_in) = true)
    (a__law_poly_in : PySem.W.nsIn K mainGlobals "_law_poly_in" = some (some (.ref f__law_poly_in)))
    (l__law_poly_in : K.lookup f__law_poly_in = some ⟨oc__law_poly_in, od__law_poly_in, .func (PySem.W.fnOf "_law_poly_in" "_law_poly_in" (defArgs s__law_poly_in) (defBody s__law_poly_in) (defScope s__law_poly_in) .none kV__law_poly_in dc__law_poly_in pm__law_poly_in an__law_poly_in cd__law_poly_in ct__law_poly_in), sl__law_poly_in⟩)
    (c__law_poly_in : PySem.W.codeIn K cd__law_poly_in "_law_poly_in" = true)
    (k__law_poly_in : PySem.W.keepIn K (.ref f__law_poly_in) = true)
    (a__law_quotient_in : PySem.W.nsIn K mainGlobals "_law_quotient_in" = some (some (.ref f__law_quotient_in)))
    (l__law_quotient_in : K.lookup f__law_quotient_in = some ⟨oc__law_quotient_in, od__law_quotient_in, .func (PySem.W.fnOf "_law_quotient_in" "_law_quotient_in" (defArgs s__law_quotient_in) (defBody s__law_quotient_in) (defScope s__law_quotient_in) .none kV__law_quotient_in dc__law_quotient_in pm__law_quotient_in an__law_quotient_in cd__law_quotient_in ct__law_quotient_in), sl__law_quotient_in⟩)
    (c__law_quotient_in : PySem.W.codeIn K cd__law_quotient_in "_law_quotient_in" = true)
    (k__law_quotient_in : PySem.W.keepIn K (.ref f__law_quotient_in) = true)
    (a__law_number_in : PySem.W.nsIn K mainGlobals "_law_number_in" = some (some (.ref f__law_number_in)))
    (l__law_number_in : K.lookup f__law_number_in = some ⟨oc__law_number_in, od__law_number_in, .func (PySem.W.fnOf "_law_number_in" "_law_number_in" (defArgs s__law_number_in) (defBody s__law_number_in) (defScope s__law_number_in) .none kV__law_number_in dc__law_number_in pm__law_number_in an__law_number_in cd__law_number_in ct__law_number_in), sl__law_number_in⟩)
    (c__law_number_in : PySem.W.codeIn K cd__law_number_in "_law_number_in" = true)
    (k__law_number_in : PySem.W.keepIn K (.ref f__law_number_in) = true)
    (a__law_poly_text : PySem.W.nsIn K mainGlobals "_law_poly_text" = some (some (.ref f__law_poly_text)))
    (l__law_poly_text : K.lookup f__law_poly_text = some ⟨oc__law_poly_text, od__law_poly_text, .func (PySem.W.fnOf "_law_poly_text" "_law_poly_text" (defArgs s__law_poly_text) (defBody s__law_poly_text) (defScope s__law_poly_text) .none kV__law_poly_text dc__law_poly_text pm__law_poly_text an__law_poly_text cd__law_poly_text ct__law_poly_text), sl__law_poly_text⟩)
    (c__law_poly_text : PySem.W.codeIn K cd__law_poly_text "_law_poly_text" = true)
    (k__law_poly_text : PySem.W.keepIn K (.ref f__law_poly_text) = true)
    (a__law_quotient_text : PySem.W.nsIn K mainGlobals "_law_quotient_text" = some (some (.ref f__law_quotient_text)))
    (l__law_quotient_text : K.lookup f__law_quotient_text = some ⟨oc__law_quotient_text, od__law_quotient_text, .func (PySem.W.fnOf "_law_quotient_text" "_law_quotient_text" (defArgs s__law_quotient_text) (defBody s__law_quotient_text) (defScope s__law_quotient_text) .none kV__law_quotient_text dc__law_quotient_text pm__law_quotient_text an__law_quotient_text cd__law_quotient_text ct__law_quotient_text), sl__law_quotient_text⟩)
    (c__law_quotient_text : PySem.W.codeIn K cd__law_quotient_text "_law_quotient_text" = true)
    (k__law_quotient_text : PySem.W.keepIn K (.ref f__law_quotient_text) = true)
    (a__law_number_text : PySem.W.nsIn K mainGlobals "_law_number_text" = some (some (.ref f__law_number_text)))
    (l__law_number_text : K.lookup f__law_number_text = some ⟨oc__law_number_text, od__law_number_text, .func (PySem.W.fnOf "_law_number_text" "_law_number_text" (defArgs s__law_number_text) (defBody s__law_number_text) (defScope s__law_number_text) .none kV__law_number_text dc__law_number_text pm__law_number_text an__law_number_text cd__law_number_text ct__law_number_text), sl__law_number_text⟩)
    (c__law_number_text : PySem.W.codeIn K cd__law_number_text "_law_number_text" = true)
    (k__law_number_text : PySem.W.keepIn K (.ref f__law_number_text) = true)
    (a__law_bent_text : PySem.W.nsIn K mainGlobals "_law_bent_text" = some (some (.ref f__law_bent_text)))
    (l__law_bent_text : K.lookup f__law_bent_text = some ⟨oc__law_bent_text, od__law_bent_text, .func (PySem.W.fnOf "_law_bent_text" "_law_bent_text" (defArgs s__law_bent_text) (defBody s__law_bent_text) (defScope s__law_bent_text) .none kV__law_bent_text dc__law_bent_text pm__law_bent_text an__law_bent_text cd__law_bent_text ct__law_bent_text), sl__law_bent_text⟩)
    (c__law_bent_text : PySem.W.codeIn K cd__law_bent_text "_law_bent_text" = true)
    (k__law_bent_text : PySem.W.keepIn K (.ref f__law_bent_text) = true)
    (a__law_many : PySem.W.nsIn K mainGlobals "_law_many" = some (some (.ref f__law_many)))
    (l__law_many : K.lookup f__law_many = some ⟨oc__law_many, od__law_many, .func (PySem.W.fnOf "_law_many" "_law_many" (defArgs s__law_many) (defBody s__law_many) (defScope s__law_many) .none kV__law_many dc__law_many pm__law_many an__law_many cd__law_many ct__law_many), sl__law_many⟩)
    (c__law_many : PySem.W.codeIn K cd__law_many "_law_many" = true)
    (k__law_many : PySem.W.keepIn K (.ref f__law_many) = true)
    (a__law_read : PySem.W.nsIn K mainGlobals "_law_read" = some (some (.ref f__law_read)))
    (l__law_read : K.lookup f__law_read = some ⟨oc__law_read, od__law_read, .func (PySem.W.fnOf "_law_read" "_law_read" (defArgs s__law_read) (defBody s__law_read) (defScope s__law_read) .none kV__law_read dc__law_read pm__law_read an__law_read cd__law_read ct__law_read), sl__law_read⟩)
    (c__law_read : PySem.W.codeIn K cd__law_read "_law_read" = true)
    (k__law_read : PySem.W.keepIn K (.ref f__law_read) = true)
    (a__law_due : PySem.W.nsIn K mainGlobals "_law_due" = some (some (.ref f__law_due)))
    (l__law_due : K.lookup f__law_due = some ⟨oc__law_due, od__law_due, .func (PySem.W.fnOf "_law_due" "_law_due" (defArgs s__law_due) (defBody s__law_due) (defScope s__law_due) .none kV__law_due dc__law_due pm__law_due an__law_due cd__law_due ct__law_due), sl__law_due⟩)
    (c__law_due : PySem.W.codeIn K cd__law_due "_law_due" = true)
    (k__law_due : PySem.W.keepIn K (.ref f__law_due) = true)
    (a_law : PySem.W.nsIn K mainGlobals "law" = some (some (.ref f_law)))
    (l_law : K.lookup f_law = some ⟨oc_law, od_law, .func (PySem.W.fnOf "law" "law" (defArgs s_law) (defBody s_law) (defScope s_law) .none kV_law dc_law pm_law an_law cd_law ct_law), sl_law⟩)
    (c_law : PySem.W.codeIn K cd_law "law" = true)
    (k_law : PySem.W.keepIn K (.ref f_law) = true)
    (z_ValueError : PySem.W.nsIn K mainGlobals "ValueError" = some none)
    (z_abs : PySem.W.nsIn K mainGlobals "abs" = some none)
    (z_all : PySem.W.nsIn K mainGlobals "all" = some none)
    (z_bool : PySem.W.nsIn K mainGlobals "bool" = some none)
    (z_int : PySem.W.nsIn K mainGlobals "int" = some none)
    (z_isinstance : PySem.W.nsIn K mainGlobals "isinstance" = some none)
    (z_len : PySem.W.nsIn K mainGlobals "len" = some none)
    (z_list : PySem.W.nsIn K mainGlobals "list" = some none)
    (z_max : PySem.W.nsIn K mainGlobals "max" = some none)
    (z_min : PySem.W.nsIn K mainGlobals "min" = some none)
    (z_range : PySem.W.nsIn K mainGlobals "range" = some none)
    (z_str : PySem.W.nsIn K mainGlobals "str" = some none)
    (z_tuple : PySem.W.nsIn K mainGlobals "tuple" = some none)
    (s'_FIGURES : PySem.W.nsIn K mainGlobals "FIGURES" = some (some (.str "0123456789" tk_FIGURES)))
    (g_NoName : PySem.W.nsIn K mainGlobals "NoName" = some (some (.ref C_NoName)))
    (g_NoNumber : PySem.W.nsIn K mainGlobals "NoNumber" = some (some (.ref C_NoNumber)))
    (g_NoPlace : PySem.W.nsIn K mainGlobals "NoPlace" = some (some (.ref C_NoPlace)))
    (g_NoRow : PySem.W.nsIn K mainGlobals "NoRow" = some (some (.ref C_NoRow)))
    (g_NoStep : PySem.W.nsIn K mainGlobals "NoStep" = some (some (.ref C_NoStep)))
    (g_NoText : PySem.W.nsIn K mainGlobals "NoText" = some (some (.ref C_NoText)))
    (g_SlopeError : PySem.W.nsIn K mainGlobals "SlopeError" = some (some (.ref C_SlopeError)))
    (e1_NoNumber : PySem.W.keepIn K (.ref C_NoNumber) = true)
    (e2_NoNumber : PySem.W.excIn K C_NoNumber bmVE "ValueError.__new__" = true)
    (e3_NoNumber : PySem.W.subIn K (.ref C_NoNumber) (.type "BaseException") = some true)
    (e4_NoNumber : PySem.W.typeIn K (.ref C_NoNumber) = some (.type "type"))
    (e1_NoText : PySem.W.keepIn K (.ref C_NoText) = true)
    (e2_NoText : PySem.W.excIn K C_NoText bmVE "ValueError.__new__" = true)
    (e3_NoText : PySem.W.subIn K (.ref C_NoText) (.type "BaseException") = some true)
    (e4_NoText : PySem.W.typeIn K (.ref C_NoText) = some (.type "type"))
    (x_hg : PySem.W.findIn K (.ref C_NoText) "__getattribute__" = some (some (.builtin "BaseException.__getattribute__")))
    (x_hk : PySem.W.findIn K (.ref C_NoText) "__getattr__" = some none)
    (x_hs : PySem.W.subIn K (.ref C_NoText) (.type "BaseException") = some true)
    (x_hd : PySem.W.hasDictIn K C_NoText = true)
    (x_ha : PySem.W.findIn K (.ref C_NoText) "__class__" = some (some (.builtin "object.__class__")))
    (x_hn : PySem.W.specialIn K (.builtin "object.__class__") "__get__" = some (some (.builtin "getset_descriptor.__get__")))
    (x_ht : PySem.W.takesIn K (.builtin "object.__class__") = some true)
    (x_hm : PySem.W.mroIn K C_NoText (.type "object") = some true)
    (y_1 : PySem.W.subIn K (.ref C_SlopeError) (.type "BaseException") = some true)
    (y_2 : PySem.W.hasDictIn K C_SlopeError = true)
    (y_3 : PySem.W.typeIn K (.ref C_SlopeError) = some (.type "type"))
    (y_4 : PySem.W.subIn K (.ref C_NoText) (.ref C_SlopeError) = some true)
    (y_5 : PySem.W.subIn K (.ref C_NoText) (.type "ValueError") = some true)
    (w1_NoNumber : PySem.W.hasDictIn K C_NoNumber = true)
    (w2_NoNumber : PySem.W.typeIn K (.ref C_NoNumber) = some (.type "type"))
    (w3_NoNumber : PySem.W.subIn K (.ref C_NoText) (.ref C_NoNumber) = some false)
    (n_NoNumber : C_NoText ≠ C_NoNumber)
    (w1_NoPlace : PySem.W.hasDictIn K C_NoPlace = true)
    (w2_NoPlace : PySem.W.typeIn K (.ref C_NoPlace) = some (.type "type"))
    (w3_NoPlace : PySem.W.subIn K (.ref C_NoText) (.ref C_NoPlace) = some false)
    (n_NoPlace : C_NoText ≠ C_NoPlace)
    (w1_NoStep : PySem.W.hasDictIn K C_NoStep = true)
    (w2_NoStep : PySem.W.typeIn K (.ref C_NoStep) = some (.type "type"))
    (w3_NoStep : PySem.W.subIn K (.ref C_NoText) (.ref C_NoStep) = some false)
    (n_NoStep : C_NoText ≠ C_NoStep)
    (w1_NoRow : PySem.W.hasDictIn K C_NoRow = true)
    (w2_NoRow : PySem.W.typeIn K (.ref C_NoRow) = some (.type "type"))
    (w3_NoRow : PySem.W.subIn K (.ref C_NoText) (.ref C_NoRow) = some false)
    (n_NoRow : C_NoText ≠ C_NoRow)
    (w1_NoName : PySem.W.hasDictIn K C_NoName = true)
    (w2_NoName : PySem.W.typeIn K (.ref C_NoName) = some (.type "type"))
    (w3_NoName : PySem.W.subIn K (.ref C_NoText) (.ref C_NoName) = some false)
    (n_NoName : C_NoText ≠ C_NoName) :
    ∃ fd : FuncData, (∀ (s : Shared) (v : Value), BindsTo s fd ⟨[v], []⟩ [("_law_script", v)]) ∧ ∀ base : Heap, K.In base → base.Ns mainGlobals mg → FnOk l.prog w K mg base (L2.CX l.prog w) 10 fa fd ["_law_script"] (spLawV K) := by
  have e := hfa.symm.trans (PySem.W.mg_of X G a_law)
  cases e
  have b : Bi mg := ⟨PySem.W.mg_none_of X G z_ValueError, PySem.W.mg_none_of X G z_abs, PySem.W.mg_none_of X G z_all, PySem.W.mg_none_of X G z_bool, PySem.W.mg_none_of X G z_int, PySem.W.mg_none_of X G z_isinstance, PySem.W.mg_none_of X G z_len, PySem.W.mg_none_of X G z_list, PySem.W.mg_none_of X G z_max, PySem.W.mg_none_of X G z_min, PySem.W.mg_none_of X G z_range, PySem.W.mg_none_of X G z_str, PySem.W.mg_none_of X G z_tuple⟩
  have gs_FIGURES : ∃ t, mg "FIGURES" = some (.str "0123456789" t) := ⟨_, PySem.W.mg_of X G s'_FIGURES⟩
  have t_NoNumber : ExcT K mg "NoNumber" := ⟨C_NoNumber, PySem.W.mg_of X G g_NoNumber, e1_NoNumber, e2_NoNumber, e3_NoNumber, e4_NoNumber⟩
  have t_NoText : ExcT K mg "NoText" := ⟨C_NoText, PySem.W.mg_of X G g_NoText, e1_NoText, e2_NoText, e3_NoText, e4_NoText⟩
  have RT : RdT K mg := ⟨C_NoText, C_SlopeError, C_NoNumber, C_NoPlace, C_NoStep, C_NoRow, C_NoName, PySem.W.mg_of X G g_NoText, PySem.W.mg_of X G g_SlopeError, PySem.W.mg_of X G g_NoNumber, PySem.W.mg_of X G g_NoPlace, PySem.W.mg_of X G g_NoStep, PySem.W.mg_of X G g_NoRow, PySem.W.mg_of X G g_NoName, ⟨x_hg, x_hk, x_hs, x_hd, x_ha, x_hn, x_ht, x_hm⟩, PySem.W.exm_ref y_1 y_2 y_3 y_4, kit_bt (by decide +kernel) y_5, kit_no (kit_ref w1_NoNumber w2_NoNumber w3_NoNumber n_NoNumber) (kit_no (kit_ref w1_NoPlace w2_NoPlace w3_NoPlace n_NoPlace) (kit_no (kit_ref w1_NoStep w2_NoStep w3_NoStep n_NoStep) (kit_no (kit_ref w1_NoRow w2_NoRow w3_NoRow n_NoRow) (kit_no (kit_ref w1_NoName w2_NoName w3_NoName n_NoName) (rfl))))), kit_self⟩
  have D_divisor := fun_mk (st := s_divisor) l_divisor c_divisor k_divisor
  have D_number := fun_mkD (st := s_number) l_number c_number k_number lT_number oT'_number
  have D_poly := fun_mk (st := s_poly) l_poly c_poly k_poly
  have D_figure_at := fun_mk (st := s_figure_at) l_figure_at c_figure_at k_figure_at
  have D_poly_minus := fun_mk (st := s_poly_minus) l_poly_minus c_poly_minus k_poly_minus
  have D_scaled := fun_mk (st := s_scaled) l_scaled c_scaled k_scaled
  have D_raised := fun_mk (st := s_raised) l_raised c_raised k_raised
  have D_content := fun_mk (st := s_content) l_content c_content k_content
  have D_parted := fun_mk (st := s_parted) l_parted c_parted k_parted
  have D_plain := fun_mk (st := s_plain) l_plain c_plain k_plain
  have D_without_head := fun_mk (st := s_without_head) l_without_head c_without_head k_without_head
  have D_rest_by := fun_mk (st := s_rest_by) l_rest_by c_rest_by k_rest_by
  have D_common := fun_mk (st := s_common) l_common c_common k_common
  have D_is_poly := fun_mk (st := s_is_poly) l_is_poly c_is_poly k_is_poly
  have D_is_quotient := fun_mk (st := s_is_quotient) l_is_quotient c_is_quotient k_is_quotient
  have D_show_number := fun_mk (st := s_show_number) l_show_number c_show_number k_show_number
  have D_show_poly := fun_mk (st := s_show_poly) l_show_poly c_show_poly k_show_poly
  have D_show_quotient := fun_mk (st := s_show_quotient) l_show_quotient c_show_quotient k_show_quotient
  have D_must := fun_mk (st := s_must) l_must c_must k_must
  have D_whole_in := fun_mk (st := s_whole_in) l_whole_in c_whole_in k_whole_in
  have D_read_number := fun_mk (st := s_read_number) l_read_number c_read_number k_read_number
  have D_poly_in := fun_mk (st := s_poly_in) l_poly_in c_poly_in k_poly_in
  have D_read_poly := fun_mk (st := s_read_poly) l_read_poly c_read_poly k_read_poly
  have D_quotient_in := fun_mk (st := s_quotient_in) l_quotient_in c_quotient_in k_quotient_in
  have D_read_quotient := fun_mk (st := s_read_quotient) l_read_quotient c_read_quotient k_read_quotient
  have D__law_purse := fun_mk (st := s__law_purse) l__law_purse c__law_purse k__law_purse
  have D__law_draw := fun_mk (st := s__law_draw) l__law_draw c__law_draw k__law_draw
  have D__law_divisor := fun_mk (st := s__law_divisor) l__law_divisor c__law_divisor k__law_divisor
  have D__law_low := fun_mk (st := s__law_low) l__law_low c__law_low k__law_low
  have D__law_whole := fun_mk (st := s__law_whole) l__law_whole c__law_whole k__law_whole
  have D__law_cut := fun_mk (st := s__law_cut) l__law_cut c__law_cut k__law_cut
  have D__law_poly := fun_mk (st := s__law_poly) l__law_poly c__law_poly k__law_poly
  have D__law_sum := fun_mk (st := s__law_sum) l__law_sum c__law_sum k__law_sum
  have D__law_product := fun_mk (st := s__law_product) l__law_product c__law_product k__law_product
  have D__law_plain := fun_mk (st := s__law_plain) l__law_plain c__law_plain k__law_plain
  have D__law_left := fun_mk (st := s__law_left) l__law_left c__law_left k__law_left
  have D__law_common := fun_mk (st := s__law_common) l__law_common c__law_common k__law_common
  have D__law_divided := fun_mk (st := s__law_divided) l__law_divided c__law_divided k__law_divided
  have D__law_form := fun_mk (st := s__law_form) l__law_form c__law_form k__law_form
  have D__law_number := fun_mk (st := s__law_number) l__law_number c__law_number k__law_number
  have D__law_quotient := fun_mk (st := s__law_quotient) l__law_quotient c__law_quotient k__law_quotient
  have D__law_whole_in := fun_mk (st := s__law_whole_in) l__law_whole_in c__law_whole_in k__law_whole_in
  have D__law_poly_in := fun_mk (st := s__law_poly_in) l__law_poly_in c__law_poly_in k__law_poly_in
  have D__law_quotient_in := fun_mk (st := s__law_quotient_in) l__law_quotient_in c__law_quotient_in k__law_quotient_in
  have D__law_number_in := fun_mk (st := s__law_number_in) l__law_number_in c__law_number_in k__law_number_in
  have D__law_poly_text := fun_mk (st := s__law_poly_text) l__law_poly_text c__law_poly_text k__law_poly_text
  have D__law_quotient_text := fun_mk (st := s__law_quotient_text) l__law_quotient_text c__law_quotient_text k__law_quotient_text
  have D__law_number_text := fun_mk (st := s__law_number_text) l__law_number_text c__law_number_text k__law_number_text
  have D__law_bent_text := fun_mk (st := s__law_bent_text) l__law_bent_text c__law_bent_text k__law_bent_text
  have D__law_many := fun_mk (st := s__law_many) l__law_many c__law_many k__law_many
  have D__law_read := fun_mk (st := s__law_read) l__law_read c__law_read k__law_read
  have D__law_due := fun_mk (st := s__law_due) l__law_due c__law_due k__law_due
  have D_law := fun_mk (st := s_law) l_law c_law k_law
  refine ⟨PySem.W.fnOf "law" "law" (defArgs s_law) (defBody s_law) (defScope s_law) .none kV_law dc_law pm_law an_law cd_law ct_law, fun s v => .of_eq rfl, fun base _ _ => ?_⟩
  have F_divisor := ok_divisor (P := l.prog) (w := w) (base := base) D_divisor (PySem.W.mg_of X G a_divisor) b 
  have F_number := ok_number (P := l.prog) (w := w) (base := base) D_number (PySem.W.mg_of X G a_number) b F_divisor t_NoNumber
  have F_poly := ok_poly (P := l.prog) (w := w) (base := base) D_poly (PySem.W.mg_of X G a_poly) b 
  have F_figure_at := ok_figure_at (P := l.prog) (w := w) (base := base) D_figure_at (PySem.W.mg_of X G a_figure_at) b 
  have F_poly_minus := ok_poly_minus (P := l.prog) (w := w) (base := base) D_poly_minus (PySem.W.mg_of X G a_poly_minus) b F_poly F_figure_at
  have F_scaled := ok_scaled (P := l.prog) (w := w) (base := base) D_scaled (PySem.W.mg_of X G a_scaled) b F_poly
  have F_raised := ok_raised (P := l.prog) (w := w) (base := base) D_raised (PySem.W.mg_of X G a_raised) b 
  have F_content := ok_content (P := l.prog) (w := w) (base := base) D_content (PySem.W.mg_of X G a_content) b F_divisor
  have F_parted := ok_parted (P := l.prog) (w := w) (base := base) D_parted (PySem.W.mg_of X G a_parted) b 
  have F_plain := ok_plain (P := l.prog) (w := w) (base := base) D_plain (PySem.W.mg_of X G a_plain) b F_content F_parted
  have F_without_head := ok_without_head (P := l.prog) (w := w) (base := base) D_without_head (PySem.W.mg_of X G a_without_head) b F_divisor F_poly_minus F_raised F_scaled
  have F_rest_by := ok_rest_by (P := l.prog) (w := w) (base := base) D_rest_by (PySem.W.mg_of X G a_rest_by) b F_without_head
  have F_common := ok_common (P := l.prog) (w := w) (base := base) D_common (PySem.W.mg_of X G a_common) b F_plain F_rest_by
  have F_is_poly := ok_is_poly (P := l.prog) (w := w) (base := base) D_is_poly (PySem.W.mg_of X G a_is_poly) b 
  have F_is_quotient := ok_is_quotient (P := l.prog) (w := w) (base := base) D_is_quotient (PySem.W.mg_of X G a_is_quotient) b F_is_poly F_divisor F_common F_content
  have F_show_number := ok_show_number (P := l.prog) (w := w) (base := base) D_show_number (PySem.W.mg_of X G a_show_number) b 
  have F_show_poly := ok_show_poly (P := l.prog) (w := w) (base := base) D_show_poly (PySem.W.mg_of X G a_show_poly) b 
  have F_show_quotient := ok_show_quotient (P := l.prog) (w := w) (base := base) D_show_quotient (PySem.W.mg_of X G a_show_quotient) b F_show_poly
  have F_must := ok_must (P := l.prog) (w := w) (base := base) D_must (PySem.W.mg_of X G a_must) b  t_NoText
  have F_whole_in := ok_whole_in (P := l.prog) (w := w) (base := base) D_whole_in (PySem.W.mg_of X G a_whole_in) b F_must gs_FIGURES
  have F_read_number := ok_read_number (P := l.prog) (w := w) (base := base) D_read_number (PySem.W.mg_of X G a_read_number) b F_must F_whole_in F_number
  have F_poly_in := ok_poly_in (P := l.prog) (w := w) (base := base) D_poly_in (PySem.W.mg_of X G a_poly_in) b F_must F_whole_in
  have F_read_poly := ok_read_poly (P := l.prog) (w := w) (base := base) D_read_poly (PySem.W.mg_of X G a_read_poly) b F_must F_poly_in
  have F_quotient_in := ok_quotient_in (P := l.prog) (w := w) (base := base) D_quotient_in (PySem.W.mg_of X G a_quotient_in) b F_must F_poly_in F_is_quotient
  have F_read_quotient := ok_read_quotient (P := l.prog) (w := w) (base := base) D_read_quotient (PySem.W.mg_of X G a_read_quotient) b F_must F_quotient_in
  have F__law_purse := ok__law_purse (P := l.prog) (w := w) (base := base) D__law_purse (PySem.W.mg_of X G a__law_purse) b 
  have F__law_draw := ok__law_draw (P := l.prog) (w := w) (base := base) D__law_draw (PySem.W.mg_of X G a__law_draw) b 
  have F__law_divisor := ok__law_divisor (P := l.prog) (w := w) (base := base) D__law_divisor (PySem.W.mg_of X G a__law_divisor) b 
  have F__law_low := ok__law_low (P := l.prog) (w := w) (base := base) D__law_low (PySem.W.mg_of X G a__law_low) b F__law_divisor
  have F__law_whole := ok__law_whole (P := l.prog) (w := w) (base := base) D__law_whole (PySem.W.mg_of X G a__law_whole) b F__law_draw
  have F__law_cut := ok__law_cut (P := l.prog) (w := w) (base := base) D__law_cut (PySem.W.mg_of X G a__law_cut) b 
  have F__law_poly := ok__law_poly (P := l.prog) (w := w) (base := base) D__law_poly (PySem.W.mg_of X G a__law_poly) b F__law_cut F__law_whole F__law_draw
  have F__law_sum := ok__law_sum (P := l.prog) (w := w) (base := base) D__law_sum (PySem.W.mg_of X G a__law_sum) b F__law_cut
  have F__law_product := ok__law_product (P := l.prog) (w := w) (base := base) D__law_product (PySem.W.mg_of X G a__law_product) b F__law_cut
  have F__law_plain := ok__law_plain (P := l.prog) (w := w) (base := base) D__law_plain (PySem.W.mg_of X G a__law_plain) b F__law_divisor
  have F__law_left := ok__law_left (P := l.prog) (w := w) (base := base) D__law_left (PySem.W.mg_of X G a__law_left) b F__law_product F__law_plain F__law_sum
  have F__law_common := ok__law_common (P := l.prog) (w := w) (base := base) D__law_common (PySem.W.mg_of X G a__law_common) b F__law_plain F__law_left
  have F__law_divided := ok__law_divided (P := l.prog) (w := w) (base := base) D__law_divided (PySem.W.mg_of X G a__law_divided) b F__law_sum F__law_product
  have F__law_form := ok__law_form (P := l.prog) (w := w) (base := base) D__law_form (PySem.W.mg_of X G a__law_form) b F__law_common F__law_divided F__law_divisor
  have F__law_number := ok__law_number (P := l.prog) (w := w) (base := base) D__law_number (PySem.W.mg_of X G a__law_number) b F__law_low F__law_draw F__law_whole
  have F__law_quotient := ok__law_quotient (P := l.prog) (w := w) (base := base) D__law_quotient (PySem.W.mg_of X G a__law_quotient) b F__law_form F__law_poly F__law_draw
  have F__law_whole_in := ok__law_whole_in (P := l.prog) (w := w) (base := base) D__law_whole_in (PySem.W.mg_of X G a__law_whole_in) b 
  have F__law_poly_in := ok__law_poly_in (P := l.prog) (w := w) (base := base) D__law_poly_in (PySem.W.mg_of X G a__law_poly_in) b F__law_whole_in
  have F__law_quotient_in := ok__law_quotient_in (P := l.prog) (w := w) (base := base) D__law_quotient_in (PySem.W.mg_of X G a__law_quotient_in) b F__law_poly_in F__law_form
  have F__law_number_in := ok__law_number_in (P := l.prog) (w := w) (base := base) D__law_number_in (PySem.W.mg_of X G a__law_number_in) b F__law_whole_in F__law_divisor
  have F__law_poly_text := ok__law_poly_text (P := l.prog) (w := w) (base := base) D__law_poly_text (PySem.W.mg_of X G a__law_poly_text) b 
  have F__law_quotient_text := ok__law_quotient_text (P := l.prog) (w := w) (base := base) D__law_quotient_text (PySem.W.mg_of X G a__law_quotient_text) b F__law_poly_text
  have F__law_number_text := ok__law_number_text (P := l.prog) (w := w) (base := base) D__law_number_text (PySem.W.mg_of X G a__law_number_text) b 
  have F__law_bent_text := ok__law_bent_text (P := l.prog) (w := w) (base := base) D__law_bent_text (PySem.W.mg_of X G a__law_bent_text) b F__law_draw
  have F__law_many := ok__law_many (P := l.prog) (w := w) (base := base) D__law_many (PySem.W.mg_of X G a__law_many) b 
  have F__law_read := ok__law_read (P := l.prog) (w := w) (base := base) D__law_read (PySem.W.mg_of X G a__law_read) b F_read_quotient F_read_number F_read_poly RT
  have F__law_due := ok__law_due (P := l.prog) (w := w) (base := base) D__law_due (PySem.W.mg_of X G a__law_due) b F__law_number_in F__law_poly_in F__law_quotient_in
  exact (ok_law (P := l.prog) (w := w) (base := base) D_law b F__law_many F__law_purse F__law_quotient F__law_number F__law_poly F__law_number_text F__law_poly_text F__law_quotient_text F__law_bent_text F__law_draw F_show_number F_show_poly F_show_quotient F__law_read F__law_due).imp fun vs H Q E h => sp_law h
end K82
open PySem PySem.W PyProof.Rows
set_option maxHeartbeats 0 in
theorem PySem.Challenge.cw_slopeverdict_k82_texts_of_numbers_and_qu_holds : PySem.Challenge.rw_slopeverdict_k82_texts_of_numbers_and_qu.Holds := by
  w_on; o_law; k_head; (case hw => w_witness2)
  k_fill
  refine L2.walk_of (l := PySem.Challenge.rw_slopeverdict_k82_texts_of_numbers_and_qu) (n := 63) (k := 10) (x := "_law_script") (CX := fun w => L2.CX PySem.Challenge.rw_slopeverdict_k82_texts_of_numbers_and_qu.prog w) (sp := fun w => K82.spLawV _) rfl (by decide) rfl ⟨rfl, by decide, by decide⟩ (fun w h Y => PySem.W.kIn_of Y) ?F (fun _ H a ns hl hO hS => ⟨a, ns, rfl, hO, hS, hl, fun _ => rfl⟩) (fun _ _ _ _ _ h => by obtain ⟨_, _, _, _, _, _, _, _, _, _, _, _, z⟩ := h; exact z)
  case F =>
    intro w mg fa h KX G hmg
    refine' K82.all_mk KX G hmg ?a_divisor ?l_divisor ?c_divisor ?k_divisor ?a_number ?l_number ?lT_number ?oT'_number ?c_number ?k_number ?a_poly ?l_poly ?c_poly ?k_poly ?a_figure_at ?l_figure_at ?c_figure_at ?k_figure_at ?a_poly_minus ?l_poly_minus ?c_poly_minus ?k_poly_minus ?a_scaled ?l_scaled ?c_scaled ?k_scaled ?a_raised ?l_raised ?c_raised ?k_raised ?a_content ?l_content ?c_content ?k_content ?a_parted ?l_parted ?c_parted ?k_parted ?a_plain ?l_plain ?c_plain ?k_plain ?a_without_head ?l_without_head ?c_without_head ?k_without_head ?a_rest_by ?l_rest_by ?c_rest_by ?k_rest_by ?a_common ?l_common ?c_common ?k_common ?a_is_poly ?l_is_poly ?c_is_poly ?k_is_poly ?a_is_quotient ?l_is_quotient ?c_is_quotient ?k_is_quotient ?a_show_number ?l_show_number ?c_show_number ?k_show_number ?a_show_poly ?l_show_poly ?c_show_poly ?k_show_poly ?a_show_quotient ?l_show_quotient ?c_show_quotient ?k_show_quotient ?a_must ?l_must ?c_must ?k_must ?a_whole_in ?l_whole_in ?c_whole_in ?k_whole_in ?a_read_number ?l_read_number ?c_read_number ?k_read_number ?a_poly_in ?l_poly_in ?c_poly_in ?k_poly_in ?a_read_poly ?l_read_poly ?c_read_poly ?k_read_poly ?a_quotient_in ?l_quotient_in ?c_quotient_in ?k_quotient_in ?a_read_quotient ?l_read_quotient ?c_read_quotient ?k_read_quotient ?a__law_purse ?l__law_purse ?c__law_purse ?k__law_purse ?a__law_draw ?l__law_draw ?c__law_draw ?k__law_draw ?a__law_divisor ?l__law_divisor ?c__law_divisor ?k__law_divisor ?a__law_low ?l__law_low ?c__law_low ?k__law_low ?a__law_whole ?l__law_whole ?c__law_whole ?k__law_whole ?a__law_cut ?l__law_cut ?c__law_cut ?k__law_cut ?a__law_poly ?l__law_poly ?c__law_poly ?k__law_poly ?a__law_sum ?l__law_sum ?c__law_sum ?k__law_sum ?a__law_product ?l__law_product ?c__law_product ?k__law_product ?a__law_plain ?l__law_plain ?c__law_plain ?k__law_plain ?a__law_left ?l__law_left ?c__law_left ?k__law_left ?a__law_common ?l__law_common ?c__law_common ?k__law_common ?a__law_divided ?l__law_divided ?c__law_divided ?k__law_divided ?a__law_form ?l__law_form ?c__law_form ?k__law_form ?a__law_number ?l__law_number ?c__law_number ?k__law_number ?a__law_quotient ?l__law_quotient ?c__law_quotient ?k__law_quotient ?a__law_whole_in ?l__law_whole_in ?c__law_whole_in ?k__law_whole_in ?a__law_poly_in ?l__law_poly_in ?c__law_poly_in ?k__law_poly_in ?a__law_quotient_in ?l__law_quotient_in ?c__law_quotient_in ?k__law_quotient_in ?a__law_number_in ?l__law_number_in ?c__law_number_in ?k__law_number_in ?a__law_poly_text ?l__law_poly_text ?c__law_poly_text ?k__law_poly_text ?a__law_quotient_text ?l__law_quotient_text ?c__law_quotient_text ?k__law_quotient_text ?a__law_number_text ?l__law_number_text ?c__law_number_text ?k__law_number_text ?a__law_bent_text ?l__law_bent_text ?c__law_bent_text ?k__law_bent_text ?a__law_many ?l__law_many ?c__law_many ?k__law_many ?a__law_read ?l__law_read ?c__law_read ?k__law_read ?a__law_due ?l__law_due ?c__law_due ?k__law_due ?a_law ?l_law ?c_law ?k_law ?z_ValueError ?z_abs ?z_all ?z_bool ?z_int ?z_isinstance ?z_len ?z_list ?z_max ?z_min ?z_range ?z_str ?z_tuple ?s'_FIGURES ?g_NoName ?g_NoNumber ?g_NoPlace ?g_NoRow ?g_NoStep ?g_NoText ?g_SlopeError ?e1_NoNumber ?e2_NoNumber ?e3_NoNumber ?e4_NoNumber ?e1_NoText ?e2_NoText ?e3_NoText ?e4_NoText ?x_hg ?x_hk ?x_hs ?x_hd ?x_ha ?x_hn ?x_ht ?x_hm ?y_1 ?y_2 ?y_3 ?y_4 ?y_5 ?w1_NoNumber ?w2_NoNumber ?w3_NoNumber ?n_NoNumber ?w1_NoPlace ?w2_NoPlace ?w3_NoPlace ?n_NoPlace ?w1_NoStep ?w2_NoStep ?w3_NoStep ?n_NoStep ?w1_NoRow ?w2_NoRow ?w3_NoRow ?n_NoRow ?w1_NoName ?w2_NoName ?w3_NoName ?n_NoName
    (case a_divisor => k_is)
    (case l_divisor => k_is)
    (case c_divisor => k_is)
    (case k_divisor => k_is)
    (case a_number => k_is)
    (case l_number => k_is)
    (case lT_number => k_is)
    (case oT'_number => first | rfl | k_is)
    (case c_number => k_is)
    (case k_number => k_is)
    (case a_poly => k_is)
    (case l_poly => k_is)
    (case c_poly => k_is)
    (case k_poly => k_is)
    (case a_figure_at => k_is)
    (case l_figure_at => k_is)
    (case c_figure_at => k_is)
    (case k_figure_at => k_is)
    (case a_poly_minus => k_is)
    (case l_poly_minus => k_is)
    (case c_poly_minus => k_is)
    (case k_poly_minus => k_is)
    (case a_scaled => k_is)
    (case l_scaled => k_is)
    (case c_scaled => k_is)
    (case k_scaled => k_is)
    (case a_raised => k_is)
    (case l_raised => k_is)
    (case c_raised => k_is)
    (case k_raised => k_is)
    (case a_content => k_is)
    (case l_content => k_is)
    (case c_content => k_is)
    (case k_content => k_is)
    (case a_parted => k_is)
    (case l_parted => k_is)
    (case c_parted => k_is)
    (case k_parted => k_is)
    (case a_plain => k_is)
    (case l_plain => k_is)
    (case c_plain => k_is)
    (case k_plain => k_is)
    (case a_without_head => k_is)
    (case l_without_head => k_is)
    (case c_without_head => k_is)
    (case k_without_head => k_is)
    (case a_rest_by => k_is)
    (case l_rest_by => k_is)
    (case c_rest_by => k_is)
    (case k_rest_by => k_is)
    (case a_common => k_is)
    (case l_common => k_is)
    (case c_common => k_is)
    (case k_common => k_is)
    (case a_is_poly => k_is)
    (case l_is_poly => k_is)
    (case c_is_poly => k_is)
    (case k_is_poly => k_is)
    (case a_is_quotient => k_is)
    (case l_is_quotient => k_is)
    (case c_is_quotient => k_is)
    (case k_is_quotient => k_is)
    (case a_show_number => k_is)
    (case l_show_number => k_is)
    (case c_show_number => k_is)
    (case k_show_number => k_is)
    (case a_show_poly => k_is)
    (case l_show_poly => k_is)
    (case c_show_poly => k_is)
    (case k_show_poly => k_is)
    (case a_show_quotient => k_is)
    (case l_show_quotient => k_is)
    (case c_show_quotient => k_is)
    (case k_show_quotient => k_is)
    (case a_must => k_is)
    (case l_must => k_is)
    (case c_must => k_is)
    (case k_must => k_is)
    (case a_whole_in => k_is)
    (case l_whole_in => k_is)
    (case c_whole_in => k_is)
    (case k_whole_in => k_is)
    (case a_read_number => k_is)
    (case l_read_number => k_is)
    (case c_read_number => k_is)
    (case k_read_number => k_is)
    (case a_poly_in => k_is)
    (case l_poly_in => k_is)
    (case c_poly_in => k_is)
    (case k_poly_in => k_is)
    (case a_read_poly => k_is)
    (case l_read_poly => k_is)
    (case c_read_poly => k_is)
    (case k_read_poly => k_is)
    (case a_quotient_in => k_is)
    (case l_quotient_in => k_is)
    (case c_quotient_in => k_is)
    (case k_quotient_in => k_is)
    (case a_read_quotient => k_is)
    (case l_read_quotient => k_is)
    (case c_read_quotient => k_is)
    (case k_read_quotient => k_is)
    (case a__law_purse => k_is)
    (case l__law_purse => k_is)
    (case c__law_purse => k_is)
    (case k__law_purse => k_is)
    (case a__law_draw => k_is)
    (case l__law_draw => k_is)
    (case c__law_draw => k_is)
    (case k__law_draw => k_is)
    (case a__law_divisor => k_is)
    (case l__law_divisor => k_is)
    (case c__law_divisor => k_is)
    (case k__law_divisor => k_is)
    (case a__law_low => k_is)
    (case l__law_low => k_is)
    (case c__law_low => k_is)
    (case k__law_low => k_is)
    (case a__law_whole => k_is)
    (case l__law_whole => k_is)
    (case c__law_whole => k_is)
    (case k__law_whole => k_is)
    (case a__law_cut => k_is)
    (case l__law_cut => k_is)
    (case c__law_cut => k_is)
    (case k__law_cut => k_is)
    (case a__law_poly => k_is)
    (case l__law_poly => k_is)
    (case c__law_poly => k_is)
    (case k__law_poly => k_is)
    (case a__law_sum => k_is)
    (case l__law_sum => k_is)
    (case c__law_sum => k_is)
    (case k__law_sum => k_is)
    (case a__law_product => k_is)
    (case l__law_product => k_is)
    (case c__law_product => k_is)
    (case k__law_product => k_is)
    (case a__law_plain => k_is)
    (case l__law_plain => k_is)
    (case c__law_plain => k_is)
    (case k__law_plain => k_is)
    (case a__law_left => k_is)
    (case l__law_left => k_is)
    (case c__law_left => k_is)
    (case k__law_left => k_is)
    (case a__law_common => k_is)
    (case l__law_common => k_is)
    (case c__law_common => k_is)
    (case k__law_common => k_is)
    (case a__law_divided => k_is)
    (case l__law_divided => k_is)
    (case c__law_divided => k_is)
    (case k__law_divided => k_is)
    (case a__law_form => k_is)
    (case l__law_form => k_is)
    (case c__law_form => k_is)
    (case k__law_form => k_is)
    (case a__law_number => k_is)
    (case l__law_number => k_is)
    (case c__law_number => k_is)
    (case k__law_number => k_is)
    (case a__law_quotient => k_is)
    (case l__law_quotient => k_is)
    (case c__law_quotient => k_is)
    (case k__law_quotient => k_is)
    (case a__law_whole_in => k_is)
    (case l__law_whole_in => k_is)
    (case c__law_whole_in => k_is)
    (case k__law_whole_in => k_is)
    (case a__law_poly_in => k_is)
    (case l__law_poly_in => k_is)
    (case c__law_poly_in => k_is)
    (case k__law_poly_in => k_is)
    (case a__law_quotient_in => k_is)
    (case l__law_quotient_in => k_is)
    (case c__law_quotient_in => k_is)
    (case k__law_quotient_in => k_is)
    (case a__law_number_in => k_is)
    (case l__law_number_in => k_is)
    (case c__law_number_in => k_is)
    (case k__law_number_in => k_is)
    (case a__law_poly_text => k_is)
    (case l__law_poly_text => k_is)
    (case c__law_poly_text => k_is)
    (case k__law_poly_text => k_is)
    (case a__law_quotient_text => k_is)
    (case l__law_quotient_text => k_is)
    (case c__law_quotient_text => k_is)
    (case k__law_quotient_text => k_is)
    (case a__law_number_text => k_is)
    (case l__law_number_text => k_is)
    (case c__law_number_text => k_is)
    (case k__law_number_text => k_is)
    (case a__law_bent_text => k_is)
    (case l__law_bent_text => k_is)
    (case c__law_bent_text => k_is)
    (case k__law_bent_text => k_is)
    (case a__law_many => k_is)
    (case l__law_many => k_is)
    (case c__law_many => k_is)
    (case k__law_many => k_is)
    (case a__law_read => k_is)
    (case l__law_read => k_is)
    (case c__law_read => k_is)
    (case k__law_read => k_is)
    (case a__law_due => k_is)
    (case l__law_due => k_is)
    (case c__law_due => k_is)
    (case k__law_due => k_is)
    (case a_law => k_is)
    (case l_law => k_is)
    (case c_law => k_is)
    (case k_law => k_is)
    (case z_ValueError => k_is)
    (case z_abs => k_is)
    (case z_all => k_is)
    (case z_bool => k_is)
    (case z_int => k_is)
    (case z_isinstance => k_is)
    (case z_len => k_is)
    (case z_list => k_is)
    (case z_max => k_is)
    (case z_min => k_is)
    (case z_range => k_is)
    (case z_str => k_is)
    (case z_tuple => k_is)
    (case s'_FIGURES => k_is)
    (case g_NoName => k_is)
    (case g_NoNumber => k_is)
    (case g_NoPlace => k_is)
    (case g_NoRow => k_is)
    (case g_NoStep => k_is)
    (case g_NoText => k_is)
    (case g_SlopeError => k_is)
    (case e1_NoNumber => k_is)
    (case e2_NoNumber => k_exc)
    (case e3_NoNumber => k_is)
    (case e4_NoNumber => k_is)
    (case e1_NoText => k_is)
    (case e2_NoText => k_exc)
    (case e3_NoText => k_is)
    (case e4_NoText => k_is)
    (case x_hg => k_is)
    (case x_hk => k_is)
    (case x_hs => k_is)
    (case x_hd => k_is)
    (case x_ha => k_is)
    (case x_hn => k_is)
    (case x_ht => k_is)
    (case x_hm => k_is)
    (case y_1 => k_is)
    (case y_2 => k_is)
    (case y_3 => k_is)
    (case y_4 => k_is)
    (case y_5 => k_is)
    (case w1_NoNumber => k_is)
    (case w2_NoNumber => k_is)
    (case w3_NoNumber => k_is)
    (case n_NoNumber => decide)
    (case w1_NoPlace => k_is)
    (case w2_NoPlace => k_is)
    (case w3_NoPlace => k_is)
    (case n_NoPlace => decide)
    (case w1_NoStep => k_is)
    (case w2_NoStep => k_is)
    (case w3_NoStep => k_is)
    (case n_NoStep => decide)
    (case w1_NoRow => k_is)
    (case w2_NoRow => k_is)
    (case w3_NoRow => k_is)
    (case n_NoRow => decide)
    (case w1_NoName => k_is)
    (case w2_NoName => k_is)
    (case w3_NoName => k_is)
    (case n_NoName => decide)
