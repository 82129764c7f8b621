import PyProof.Rows.All
import Wide.All
import OpenK.AllK
import Wide.FinOn
import HandS.ForMost
import HandS.Exc
import HandS.TryOnly
import HandS.TryMany
import HandS.ExcOwn
import HandS.ExcInit
import HandS.WordsExc
import HandS.Lambda
import HandS.Deep
import HandS.TupAny
import HandS.Style
import HandS.IsInst
import HandS.Conv
import HandS.Zip
import HandS.ExcField
import KE.KLam
import HandS.EndOwn
import KE.GoesEnum
import KE.KNestM
import PySem.Challenge.RW_signsbykeys_k23_whole_bounces
set_option Elab.async false
set_option linter.all false
set_option maxRecDepth 100000
set_option maxHeartbeats 2000000
/-! Dn, part A: plain data D for what stands in the heap, slots of a frame, the relation between them. -/
namespace Dn
open PySem PySem.Spec PyProof.Rows L2

/-- plain data -/
inductive D where
  | non | bl (b : Bool) | int (i : Int) | str (x : Str)
  | lst (xs : List D) | fl (xs : List D) | tup (xs : List D)
  | dK (ks : List Key) (vs : List D)
  | dT (ks : List (List Key)) (vs : List D)
  | obj (c : Str) (ns : List Str) (vs : List D)
  | thk (q : Str) (ps : Arguments) (b : Expr) (sc : Scope) (x : Option (Str × List Str)) (ds : List D)

abbrev MG := Str → Option Value
def IsDic : HO → Prop
  | .dK _ => True
  | .dT _ => True
  | _ => False
/-- what may stand at an address that bears o: o itself, or the dict o under a lock -/
def Lk (lk : List Addr) (a : Addr) (o : HO) (x : Option HO) : Prop := x = some o ∨ (a ∈ lk ∧ IsDic o ∧ ∃ ob, x = some (.frz ob o))
/-- G is a part of H -/
def Sub (lk : List Addr) (G H : Hp) : Prop := ∀ a o, G a = some o → Lk lk a o (H a)
def GLe (G G' : Hp) : Prop := ∀ a o, G a = some o → G' a = some o
theorem GLe.refl (G : Hp) : GLe G G := fun _ _ h => h
theorem GLe.trans {G1 G2 G3 : Hp} (a : GLe G1 G2) (b : GLe G2 G3) : GLe G1 G3 := fun c o h => b c o (a c o h)
theorem Sub.le {lk : List Addr} {G G' H : Hp} (a : GLe G G') (b : Sub lk G' H) : Sub lk G H := fun c o h => b c o (a c o h)

/-- a lambda of no captured names, made: its object at f -/
def LamO (f : Addr) (q : Str) (ps : Arguments) (b : Expr) (sc : Scope) (pm : Value) (c' : Addr) (ctv : Value) : HO := .ext fun h => h.get? f = some (PySem.W.kla_obj "<lambda>" q ps b sc [] pm c' ctv)
section
variable (K : PySem.W.Frag) (mg : MG) (G : Hp)
mutual
def Rep : D → V → Prop
  | .non, v => v = .non
  | .bl b, v => v = .bl b
  | .int i, v => v = .int i
  | .str x, v => v = .str x
  | .lst ds, v => ∃ a vs, v = .ref a ∧ G a = some (.lst vs) ∧ RepL ds vs
  | .fl ds, v => ∃ a vs, v = .ref a ∧ SqL K G a vs ∧ RepL ds vs
  | .tup ds, v => ∃ a vs, v = .ref a ∧ SqT K G a vs ∧ RepL ds vs
  | .dK ks ds, v => ∃ a vs, v = .ref a ∧ G a = some (.dK (ks.zip vs)) ∧ ks.length = ds.length ∧ RepL ds vs
  | .dT ks ds, v => ∃ a vs, v = .ref a ∧ G a = some (.dT (ks.zip vs)) ∧ ks.length = ds.length ∧ RepL ds vs
  | .obj c ns ds, v => ∃ a C dx vs, v = .ref a ∧ G a = some (.ins C dx (ns.zip vs)) ∧ mg c = some (.ref C) ∧ ns.length = ds.length ∧ RepL ds vs
  | .thk q ps b sc _ _, v => ∃ f c' pm ctv, v = .ref f ∧ G f = some (LamO f q ps b sc pm c' ctv) ∧ G c' = some (LamX.CodeO c' q)
def RepL : List D → List V → Prop
  | [], vs => vs = []
  | d :: ds, vs => ∃ v r, vs = v :: r ∧ Rep d v ∧ RepL ds r
end
end

section
variable {K : PySem.W.Frag} {mg : MG} {G G' H : Hp} {lk : List Addr}

theorem SqL.le {a : Addr} {xs : List V} (e : GLe G G') (h : SqL K G a xs) : SqL K G' a xs := by
  rcases h with (h | ⟨o, h⟩) | h
  · exact .inl (.inl (e _ _ h))
  · exact .inl (.inr ⟨o, e _ _ h⟩)
  · exact .inr h
theorem SqT.le {a : Addr} {xs : List V} (e : GLe G G') (h : SqT K G a xs) : SqT K G' a xs := by
  rcases h with (h | ⟨o, h⟩) | h
  · exact .inl (.inl (e _ _ h))
  · exact .inl (.inr ⟨o, e _ _ h⟩)
  · exact .inr h
theorem Lk.rd {a : Addr} {o : HO} (h : Lk lk a o (H a)) : Rd H a o := by
  rcases h with h | ⟨_, _, ob, h⟩
  · exact .inl h
  · exact .inr ⟨ob, h⟩
theorem SqL.sub {a : Addr} {xs : List V} (e : Sub lk G H) (h : SqL K G a xs) : SqL K H a xs := by
  rcases h with (h | ⟨o, h⟩) | h
  · exact .inl (e _ _ h).rd
  · rcases e _ _ h with h | ⟨_, m, _⟩
    · exact .inl (.inr ⟨o, h⟩)
    · exact m.elim
  · exact .inr h
theorem SqT.sub {a : Addr} {xs : List V} (e : Sub lk G H) (h : SqT K G a xs) : SqT K H a xs := by
  rcases h with (h | ⟨o, h⟩) | h
  · exact .inl (e _ _ h).rd
  · rcases e _ _ h with h | ⟨_, m, _⟩
    · exact .inl (.inr ⟨o, h⟩)
    · exact m.elim
  · exact .inr h

mutual
theorem Rep.le (e : GLe G G') : ∀ {d : D} {v : V}, Rep K mg G d v → Rep K mg G' d v
  | .non, _, h => h
  | .bl _, _, h => h
  | .int _, _, h => h
  | .str _, _, h => h
  | .lst ds, v, h => by
    simp only [Rep] at h ⊢
    obtain ⟨a, vs, rfl, hs, hl⟩ := h
    exact ⟨a, vs, rfl, e _ _ hs, RepL.le e hl⟩
  | .fl ds, v, h => by
    simp only [Rep] at h ⊢
    obtain ⟨a, vs, rfl, hs, hl⟩ := h
    exact ⟨a, vs, rfl, SqL.le e hs, RepL.le e hl⟩
  | .tup ds, v, h => by
    simp only [Rep] at h ⊢
    obtain ⟨a, vs, rfl, hs, hl⟩ := h
    exact ⟨a, vs, rfl, SqT.le e hs, RepL.le e hl⟩
  | .dK ks ds, v, h => by
    simp only [Rep] at h ⊢
    obtain ⟨a, vs, rfl, hs, hk, hl⟩ := h
    exact ⟨a, vs, rfl, e _ _ hs, hk, RepL.le e hl⟩
  | .dT ks ds, v, h => by
    simp only [Rep] at h ⊢
    obtain ⟨a, vs, rfl, hs, hk, hl⟩ := h
    exact ⟨a, vs, rfl, e _ _ hs, hk, RepL.le e hl⟩
  | .obj c ns ds, v, h => by
    simp only [Rep] at h ⊢
    obtain ⟨a, C, dx, vs, rfl, hs, hm, hk, hl⟩ := h
    exact ⟨a, C, dx, vs, rfl, e _ _ hs, hm, hk, RepL.le e hl⟩
  | .thk _ _ _ _ _ _, v, h => by
    simp only [Rep] at h ⊢
    obtain ⟨f, c', pm, ctv, rfl, h1, h2⟩ := h
    exact ⟨f, c', pm, ctv, rfl, e _ _ h1, e _ _ h2⟩
theorem RepL.le (e : GLe G G') : ∀ {ds : List D} {vs : List V}, RepL K mg G ds vs → RepL K mg G' ds vs
  | [], _, h => by
    simp only [RepL] at h ⊢
    exact h
  | d :: ds, _, h => by
    simp only [RepL] at h ⊢
    obtain ⟨v, r, rfl, h1, h2⟩ := h
    exact ⟨v, r, rfl, Rep.le e h1, RepL.le e h2⟩
end
theorem RepL.length : ∀ {ds : List D} {vs : List V}, RepL K mg G ds vs → ds.length = vs.length
  | [], _, h => by
    simp only [RepL] at h
    rw [h]
    rfl
  | d :: ds, _, h => by
    simp only [RepL] at h
    obtain ⟨v, r, rfl, h1, h2⟩ := h
    rw [List.length_cons, List.length_cons, RepL.length h2]
theorem RepL.get : ∀ {ds : List D} {vs : List V} {i : Nat} {d : D}, RepL K mg G ds vs → ds[i]? = some d → ∃ v, vs[i]? = some v ∧ Rep K mg G d v
  | [], _, _, _, _, e => by simp at e
  | d :: ds, _, 0, _, h, e => by
    simp only [RepL] at h
    obtain ⟨v, r, rfl, h1, h2⟩ := h
    simp at e
    subst e
    exact ⟨v, rfl, h1⟩
  | d :: ds, _, i + 1, _, h, e => by
    simp only [RepL] at h
    obtain ⟨v, r, rfl, h1, h2⟩ := h
    obtain ⟨v', e', r'⟩ := RepL.get (i := i) h2 (by simpa using e)
    exact ⟨v', by simpa using e', r'⟩
theorem RepL.nil : RepL K mg G [] [] := by simp only [RepL]
theorem RepL.cons {d : D} {ds : List D} {v : V} {vs : List V} (h1 : Rep K mg G d v) (h2 : RepL K mg G ds vs) : RepL K mg G (d :: ds) (v :: vs) := by
  simp only [RepL]
  exact ⟨v, vs, rfl, h1, h2⟩
theorem RepL.append : ∀ {ds es : List D} {vs us : List V}, RepL K mg G ds vs → RepL K mg G es us → RepL K mg G (ds ++ es) (vs ++ us)
  | [], _, _, _, h, g => by
    simp only [RepL] at h
    subst h
    exact g
  | d :: ds, _, _, _, h, g => by
    simp only [RepL] at h
    obtain ⟨v, r, rfl, h1, h2⟩ := h
    exact .cons h1 (RepL.append h2 g)
theorem RepL.snoc {ds : List D} {vs : List V} {d : D} {v : V} (h : RepL K mg G ds vs) (g : Rep K mg G d v) : RepL K mg G (ds ++ [d]) (vs ++ [v]) := h.append (.cons g .nil)
theorem RepL.drop : ∀ {ds : List D} {vs : List V} (n : Nat), RepL K mg G ds vs → RepL K mg G (ds.drop n) (vs.drop n)
  | _, _, 0, h => h
  | [], _, n + 1, h => by
    simp only [RepL] at h
    subst h
    exact .nil
  | d :: ds, _, n + 1, h => by
    simp only [RepL] at h
    obtain ⟨v, r, rfl, h1, h2⟩ := h
    exact RepL.drop n h2
theorem RepL.take : ∀ {ds : List D} {vs : List V} (n : Nat), RepL K mg G ds vs → RepL K mg G (ds.take n) (vs.take n)
  | _, _, 0, h => by
    rw [List.take_zero, List.take_zero]
    exact .nil
  | [], _, n + 1, h => by
    simp only [RepL] at h
    subst h
    exact .nil
  | d :: ds, _, n + 1, h => by
    simp only [RepL] at h
    obtain ⟨v, r, rfl, h1, h2⟩ := h
    exact .cons h1 (RepL.take n h2)
theorem RepL.set : ∀ {ds : List D} {vs : List V} {d : D} {v : V} (i : Nat), RepL K mg G ds vs → Rep K mg G d v → RepL K mg G (ds.set i d) (vs.set i v)
  | [], _, _, _, _, h, _ => by
    simp only [RepL] at h
    subst h
    exact .nil
  | e :: ds, _, _, _, 0, h, g => by
    simp only [RepL] at h
    obtain ⟨v, r, rfl, h1, h2⟩ := h
    exact .cons g h2
  | e :: ds, _, _, _, i + 1, h, g => by
    simp only [RepL] at h
    obtain ⟨v, r, rfl, h1, h2⟩ := h
    exact .cons h1 (RepL.set i h2 g)
theorem RepL.none_of {ds : List D} {vs : List V} {i : Nat} (h : RepL K mg G ds vs) (e : ds[i]? = none) : vs[i]? = none := by
  have h1 := h.length
  have h2 : ds.length ≤ i := List.getElem?_eq_none_iff.mp e
  exact List.getElem?_eq_none_iff.mpr (by omega)
theorem RepL.replicate {ds : List D} {vs : List V} (h : RepL K mg G ds vs) : ∀ k : Nat, RepL K mg G (List.replicate k ds).flatten (List.replicate k vs).flatten
  | 0 => .nil
  | k + 1 => by
    rw [List.replicate_succ, List.replicate_succ, List.flatten_cons, List.flatten_cons]
    exact h.append (RepL.replicate h k)
end
end Dn

set_option Elab.async false
set_option linter.all false
set_option maxRecDepth 100000
set_option maxHeartbeats 2000000
/-! Dn, part B: the slots of a frame, results, the relation R, judgements. -/
namespace Dn
open PySem PySem.Spec PyProof.Rows L2

abbrev Sl := List (Option V)
/-- a slot: without a value; a value that never changes; an object lent by the caller; an object of this frame alone; one that the caller hands to be changed -/
inductive SV where
  | un | va (d : D) | bo (d : D) | ow (d : D) | io (d : D)
def SV.own : SV → Bool
  | .ow _ | .io _ => true
  | _ => false
abbrev S := List SV
inductive Res (α : Type) where
  | ok (a : α) (st : S) | exc (c : Str) (ns : List Str) (ds : List D) (st : S) | stuck
abbrev M (α : Type) := S → Res α
def bnd {α β : Type} (m : M α) (f : α → M β) : M β := fun st => match m st with
  | .ok a st' => f a st'
  | .exc c ns ds st' => .exc c ns ds st'
  | .stuck => .stuck
def ret {α : Type} (a : α) : M α := fun st => .ok a st
def ofO {α : Type} (o : Option α) : M α := fun st => match o with
  | some a => .ok a st
  | none => .stuck

/-- what a frame stands on: the written part, the module's names, the heap and the data's part at the entry, the objects handed to be changed, the locked ones -/
structure Ct where
  K : PySem.W.Frag
  mg : MG
  H0 : Hp
  G0 : Hp
  ios : List Addr
  lk : List Addr
  lf : List Addr
  B : Hp

def at' (σ : Sl) (i : Nat) : Option V := (σ[i]?).join
theorem at'_some {σ : Sl} {i : Nat} {v : V} (h : at' σ i = some v) : σ[i]? = some (some v) := by
  unfold at' at h
  cases e : σ[i]? with
  | none => rw [e] at h; cases h
  | some x =>
    rw [e] at h
    cases x with
    | none => cases h
    | some y => cases h; rfl
theorem at'_of {σ : Sl} {i : Nat} {v : V} (h : σ[i]? = some (some v)) : at' σ i = some v := by
  unfold at'
  rw [h]
  rfl
theorem at'_set_same {σ : Sl} {i : Nat} {x : Option V} (h : i < σ.length) : at' (σ.set i x) i = x := by
  unfold at'
  rw [List.getElem?_set_self h]
  rfl
theorem at'_set_ne {σ : Sl} {i j : Nat} {x : Option V} (h : i ≠ j) : at' (σ.set i x) j = at' σ j := by
  unfold at'
  rw [List.getElem?_set_ne h]

def Own (K : PySem.W.Frag) (mg : MG) (G H : Hp) (a : Addr) : D → Prop
  | .lst ds => ∃ vs, H a = some (.lst vs) ∧ RepL K mg G ds vs
  | .dK ks ds => ∃ vs, H a = some (.dK (ks.zip vs)) ∧ ks.length = ds.length ∧ RepL K mg G ds vs
  | .dT ks ds => ∃ vs, H a = some (.dT (ks.zip vs)) ∧ ks.length = ds.length ∧ RepL K mg G ds vs
  | .obj cn ns ds => ∃ C dx vs, H a = some (.ins C dx (ns.zip vs)) ∧ mg cn = some (.ref C) ∧ ns.length = ds.length ∧ RepL K mg G ds vs
  | _ => False
def Bor (c : Ct) (G : Hp) (a : Addr) : D → Prop
  | .lst ds => ∃ vs, c.B a = some (.lst vs) ∧ RepL c.K c.mg G ds vs
  | _ => False
def SOk (c : Ct) (G H : Hp) : SV → Option V → Prop
  | .un, _ => True
  | .va d, x => ∃ v, x = some v ∧ Rep c.K c.mg G d v
  | .bo d, x => ∃ a, x = some (.ref a) ∧ Bor c G a d
  | .ow d, x => ∃ a, x = some (.ref a) ∧ G a = none ∧ c.H0 a = none ∧ Own c.K c.mg G H a d
  | .io d, x => ∃ a, x = some (.ref a) ∧ G a = none ∧ a ∈ c.ios ∧ Own c.K c.mg G H a d

/-- what stands of a stand from the first to the last -/
structure Wf (c : Ct) : Prop where
  lent : ∀ a o, c.B a = some o → c.H0 a = some o ∧ a ∉ c.ios
  ios0 : ∀ a ∈ c.ios, c.H0 a ≠ none
structure R (c : Ct) (st : S) (σ : Sl) (H G : Hp) : Prop where
  len : st.length = σ.length
  sub : Sub c.lk G H
  slot : ∀ (i : Nat) (sv : SV), st[i]? = some sv → SOk c G H sv (at' σ i)
  apart : ∀ (i j : Nat) (a : Addr) (si sj : SV), i ≠ j → st[i]? = some si → st[j]? = some sj → si.own = true → sj.own = true → at' σ i = some (.ref a) → at' σ j ≠ some (.ref a)
  frame : ∀ a o, c.H0 a = some o → a ∉ c.ios → Lk c.lf a o (H a)
  ge0 : GLe c.G0 G
  fresh : ∀ a, G a ≠ none → c.G0 a = none → c.H0 a = none
  alive : ∀ a ∈ c.ios, H a ≠ none
  wf : Wf c

section
variable {K : PySem.W.Frag} {mg : MG} {G G' H H' : Hp} {c : Ct} {st : S} {σ : Sl}

theorem Own.there {a : Addr} {d : D} (h : Own K mg G H a d) : ∃ o, H a = some o := by
  cases d <;> simp only [Own] at h
  · obtain ⟨vs, e, _⟩ := h; exact ⟨_, e⟩
  · obtain ⟨vs, e, _⟩ := h; exact ⟨_, e⟩
  · obtain ⟨vs, e, _⟩ := h; exact ⟨_, e⟩
  · obtain ⟨C, dx, vs, e, _⟩ := h; exact ⟨_, e⟩
theorem Own.le {a : Addr} {d : D} (e : GLe G G') (k : ∀ o, H a = some o → H' a = some o) (h : Own K mg G H a d) : Own K mg G' H' a d := by
  cases d <;> simp only [Own] at h ⊢
  · obtain ⟨vs, x, r⟩ := h; exact ⟨vs, k _ x, RepL.le e r⟩
  · obtain ⟨vs, x, l, r⟩ := h; exact ⟨vs, k _ x, l, RepL.le e r⟩
  · obtain ⟨vs, x, l, r⟩ := h; exact ⟨vs, k _ x, l, RepL.le e r⟩
  · obtain ⟨C, dx, vs, x, m, l, r⟩ := h; exact ⟨C, dx, vs, k _ x, m, l, RepL.le e r⟩
theorem Bor.le {a : Addr} {d : D} (e : GLe G G') (h : Bor c G a d) : Bor c G' a d := by
  cases d <;> simp only [Bor] at h ⊢
  obtain ⟨vs, x, r⟩ := h
  exact ⟨vs, x, RepL.le e r⟩
theorem Sub.none {lk : List Addr} (s : Sub lk G H) {p : Addr} (h : H p = none) : G p = none := by
  cases e : G p with
  | none => rfl
  | some o =>
    rcases s p o e with x | ⟨_, _, ob, x⟩ <;> (rw [h] at x; cases x)
theorem R.h0none (r : R c st σ H G) {p : Addr} (h : H p = none) : c.H0 p = none := by
  cases e : c.H0 p with
  | none => rfl
  | some o =>
    by_cases hi : p ∈ c.ios
    · exact absurd h (r.alive p hi)
    · rcases r.frame p o e hi with x | ⟨_, _, ob, x⟩ <;> (rw [h] at x; cases x)
/-- the state of the data grows, the heap's old objects stay -/
theorem R.grow (r : R c st σ H G) (le : GLe G G') (k : ∀ a o, H a = some o → H' a = some o) (sub : Sub c.lk G' H') (new : ∀ a, G' a ≠ none → G a = none → H a = none) : R c st σ H' G' := by
  refine ⟨r.len, sub, fun i sv e => ?_, r.apart, fun a o e n => ?_, r.ge0.trans le, fun a e e0 => ?_, fun a ha z => ?_, r.wf⟩
  · have h := r.slot i sv e
    cases sv with
    | un => exact trivial
    | va d =>
      obtain ⟨v, x, q⟩ := h
      exact ⟨v, x, Rep.le le q⟩
    | bo d =>
      obtain ⟨a, x, q⟩ := h
      exact ⟨a, x, Bor.le le q⟩
    | ow d =>
      obtain ⟨a, x, g, h0, q⟩ := h
      refine ⟨a, x, ?_, h0, q.le le fun o => k a o⟩
      cases z : G' a with
      | none => rfl
      | some o =>
        obtain ⟨u, hu⟩ := q.there
        have := new a (by rw [z]; exact fun y => nomatch y) g
        rw [hu] at this
        cases this
    | io d =>
      obtain ⟨a, x, g, h0, q⟩ := h
      refine ⟨a, x, ?_, h0, q.le le fun o => k a o⟩
      cases z : G' a with
      | none => rfl
      | some o =>
        obtain ⟨u, hu⟩ := q.there
        have := new a (by rw [z]; exact fun y => nomatch y) g
        rw [hu] at this
        cases this
  · rcases r.frame a o e n with x | ⟨h1, h2, ob, x⟩
    · exact .inl (k _ _ x)
    · exact .inr ⟨h1, h2, ob, k _ _ x⟩
  · by_cases z : G a = none
    · exact r.h0none (new a e z)
    · exact r.fresh a z e0
  · obtain ⟨o, ho⟩ := Option.ne_none_iff_exists'.mp (r.alive a ha)
    rw [k a o ho] at z
    cases z
/-- a new object that is no datum yet -/
theorem R.new (r : R c st σ H G) {p : Addr} {o : HO} (h : H p = none) : R c st σ (upd H p o) G := by
  have k : ∀ a u, H a = some u → upd H p o a = some u := fun a u e => by rw [upd_ne (ne_of_none e h)]; exact e
  refine r.grow (GLe.refl G) k (fun a u e => ?_) fun a e z => absurd z e
  rcases r.sub a u e with x | ⟨h1, h2, ob, x⟩
  · exact .inl (k _ _ x)
  · exact .inr ⟨h1, h2, ob, k _ _ x⟩
theorem gle_upd {p : Addr} {o : HO} (h : G p = none) : GLe G (upd G p o) := fun a u e => by rw [upd_ne (ne_of_none e h)]; exact e
/-- a new object that is a datum -/
theorem R.newD (r : R c st σ H G) {p : Addr} {o : HO} (h : H p = none) : R c st σ (upd H p o) (upd G p o) := by
  have k : ∀ a u, H a = some u → upd H p o a = some u := fun a u e => by rw [upd_ne (ne_of_none e h)]; exact e
  refine r.grow (gle_upd (r.sub.none h)) k (fun a u e => ?_) fun a e z => ?_
  · by_cases q : a = p
    · subst q
      rw [upd_same] at e
      exact .inl (by rw [upd_same]; exact e)
    · rw [upd_ne q] at e
      rcases r.sub a u e with x | ⟨h1, h2, ob, x⟩
      · exact .inl (k _ _ x)
      · exact .inr ⟨h1, h2, ob, k _ _ x⟩
  · by_cases q : a = p
    · subst q; exact h
    · rw [upd_ne q] at e
      exact absurd z e
/-- what is new and of no one else -/
def Fre (c : Ct) (st : S) (σ : Sl) (H G : Hp) (a : Addr) (d : D) : Prop :=
  G a = none ∧ c.H0 a = none ∧ Own c.K c.mg G H a d ∧ ∀ (i : Nat) (sv : SV), st[i]? = some sv → sv.own = true → at' σ i ≠ some (.ref a)
theorem R.fre_new (r : R c st σ H G) {p : Addr} {o : HO} {d : D} (h : H p = none) (q : Own c.K c.mg G (upd H p o) p d) : Fre c st σ (upd H p o) G p d := by
  refine ⟨r.sub.none h, r.h0none h, q, fun i sv e w z => ?_⟩
  have hs := r.slot i sv e
  cases sv with
  | un => cases w
  | va d => cases w
  | bo d => cases w
  | ow d =>
    obtain ⟨a, x, _, _, q⟩ := hs
    rw [z] at x
    cases x
    obtain ⟨u, hu⟩ := q.there
    rw [h] at hu
    cases hu
  | io d =>
    obtain ⟨a, x, _, _, q⟩ := hs
    rw [z] at x
    cases x
    obtain ⟨u, hu⟩ := q.there
    rw [h] at hu
    cases hu
/-- an object of one's own becomes a datum: what is known of it from then on -/
theorem rep_upd {a : Addr} {d : D} (g : G a = none) (h : Own K mg G H a d) : ∃ o, H a = some o ∧ Rep K mg (upd G a o) d (.ref a) := by
  cases d <;> simp only [Own] at h
  · obtain ⟨vs, x, q⟩ := h
    refine ⟨_, x, ?_⟩
    simp only [Rep]
    exact ⟨a, vs, rfl, upd_same, RepL.le (gle_upd g) q⟩
  · obtain ⟨vs, x, l, q⟩ := h
    refine ⟨_, x, ?_⟩
    simp only [Rep]
    exact ⟨a, vs, rfl, upd_same, l, RepL.le (gle_upd g) q⟩
  · obtain ⟨vs, x, l, q⟩ := h
    refine ⟨_, x, ?_⟩
    simp only [Rep]
    exact ⟨a, vs, rfl, upd_same, l, RepL.le (gle_upd g) q⟩
  · obtain ⟨C, dx, vs, x, m, l, q⟩ := h
    refine ⟨_, x, ?_⟩
    simp only [Rep]
    exact ⟨a, C, dx, vs, rfl, upd_same, m, l, RepL.le (gle_upd g) q⟩
theorem R.addD (r : R c st σ H G) {p : Addr} {o : HO} (h : H p = some o) (g : G p = none) (h0 : c.H0 p = none) (ap : ∀ (i : Nat) (sv : SV), st[i]? = some sv → sv.own = true → at' σ i ≠ some (.ref p)) : R c st σ H (upd G p o) := by
  have le := gle_upd (o := o) g
  refine ⟨r.len, fun a u e => ?_, fun i sv e => ?_, r.apart, r.frame, r.ge0.trans le, fun a e e0 => ?_, r.alive, r.wf⟩
  · by_cases q : a = p
    · subst q
      rw [upd_same] at e
      exact .inl (by rw [h]; exact e)
    · rw [upd_ne q] at e
      exact r.sub a u e
  · have hs := r.slot i sv e
    cases sv with
    | un => exact trivial
    | va d =>
      obtain ⟨v, x, q⟩ := hs
      exact ⟨v, x, Rep.le le q⟩
    | bo d =>
      obtain ⟨a, x, q⟩ := hs
      exact ⟨a, x, Bor.le le q⟩
    | ow d =>
      obtain ⟨a, x, g', h0', q⟩ := hs
      have na : a ≠ p := fun z => ap i _ e rfl (by rw [x, z])
      exact ⟨a, x, by rw [upd_ne na]; exact g', h0', q.le le fun _ y => y⟩
    | io d =>
      obtain ⟨a, x, g', h0', q⟩ := hs
      have na : a ≠ p := fun z => ap i _ e rfl (by rw [x, z])
      exact ⟨a, x, by rw [upd_ne na]; exact g', h0', q.le le fun _ y => y⟩
  · by_cases q : a = p
    · subst q; exact h0
    · rw [upd_ne q] at e
      exact r.fresh a e e0
theorem R.freeze (r : R c st σ H G) {a : Addr} {d : D} (f : Fre c st σ H G a d) : ∃ G', GLe G G' ∧ R c st σ H G' ∧ Rep c.K c.mg G' d (.ref a) := by
  obtain ⟨g, h0, q, ap⟩ := f
  obtain ⟨o, ho, rep⟩ := rep_upd g q
  exact ⟨upd G a o, gle_upd g, r.addD ho g h0 ap, rep⟩
/-- a slot takes a value -/
theorem R.set (r : R c st σ H G) {i : Nat} {d : D} {v : V} (rep : Rep c.K c.mg G d v) : R c (st.set i (.va d)) (σ.set i (some v)) H G := by
  refine ⟨by simp [r.len], r.sub, fun j sv e => ?_, fun j k a sj sk n ej ek oj ok ha hb => ?_, r.frame, r.ge0, r.fresh, r.alive, r.wf⟩
  · by_cases q : i = j
    · subst q
      have hi : i < st.length := by
        obtain ⟨h, _⟩ := List.getElem?_eq_some_iff.mp e
        simpa using h
      rw [List.getElem?_set_self hi] at e
      cases e
      rw [at'_set_same (by rw [← r.len]; exact hi)]
      exact ⟨v, rfl, rep⟩
    · rw [List.getElem?_set_ne q] at e
      rw [at'_set_ne q]
      exact r.slot j sv e
  · have h1 : i ≠ j := fun z => by
      subst z
      have hi : i < st.length := by
        obtain ⟨h, _⟩ := List.getElem?_eq_some_iff.mp ej
        simpa using h
      rw [List.getElem?_set_self hi] at ej
      cases ej
      cases oj
    have h2 : i ≠ k := fun z => by
      subst z
      have hi : i < st.length := by
        obtain ⟨h, _⟩ := List.getElem?_eq_some_iff.mp ek
        simpa using h
      rw [List.getElem?_set_self hi] at ek
      cases ek
      cases ok
    rw [List.getElem?_set_ne h1] at ej
    rw [List.getElem?_set_ne h2] at ek
    rw [at'_set_ne h1] at ha
    rw [at'_set_ne h2] at hb
    exact r.apart j k a sj sk n ej ek oj ok ha hb
theorem R.setOw (r : R c st σ H G) {i : Nat} {d : D} {a : Addr} (f : Fre c st σ H G a d) : R c (st.set i (.ow d)) (σ.set i (some (.ref a))) H G := by
  obtain ⟨g, h0, q, ap⟩ := f
  refine ⟨by simp [r.len], r.sub, fun j sv e => ?_, fun j k b sj sk n ej ek oj ok ha hb => ?_, r.frame, r.ge0, r.fresh, r.alive, r.wf⟩
  · by_cases z : i = j
    · subst z
      have hi : i < st.length := by
        obtain ⟨h, _⟩ := List.getElem?_eq_some_iff.mp e
        simpa using h
      rw [List.getElem?_set_self hi] at e
      cases e
      rw [at'_set_same (by rw [← r.len]; exact hi)]
      exact ⟨a, rfl, g, h0, q⟩
    · rw [List.getElem?_set_ne z] at e
      rw [at'_set_ne z]
      exact r.slot j sv e
  · by_cases h1 : i = j
    · subst h1
      have hi : i < st.length := by
        obtain ⟨h, _⟩ := List.getElem?_eq_some_iff.mp ej
        simpa using h
      rw [at'_set_same (by rw [← r.len]; exact hi)] at ha
      cases ha
      rw [List.getElem?_set_ne n] at ek
      rw [at'_set_ne n] at hb
      exact ap k sk ek ok hb
    · by_cases h2 : i = k
      · subst h2
        have hi : i < st.length := by
          obtain ⟨h, _⟩ := List.getElem?_eq_some_iff.mp ek
          simpa using h
        rw [at'_set_same (by rw [← r.len]; exact hi)] at hb
        cases hb
        rw [List.getElem?_set_ne h1] at ej
        rw [at'_set_ne h1] at ha
        exact ap j sj ej oj ha
      · rw [List.getElem?_set_ne h1] at ej
        rw [List.getElem?_set_ne h2] at ek
        rw [at'_set_ne h1] at ha
        rw [at'_set_ne h2] at hb
        exact r.apart j k b sj sk n ej ek oj ok ha hb
/-- a slot is forgotten -/
theorem R.forget (r : R c st σ H G) {i : Nat} {σ' : Sl} (hl : σ'.length = σ.length) (hs : ∀ j, j ≠ i → at' σ' j = at' σ j) : R c (st.set i .un) σ' H G := by
  refine ⟨by simp [r.len, hl], r.sub, fun j sv e => ?_, fun j k a sj sk n ej ek oj ok ha hb => ?_, r.frame, r.ge0, r.fresh, r.alive, r.wf⟩
  · by_cases q : i = j
    · subst q
      have hi : i < st.length := by
        obtain ⟨h, _⟩ := List.getElem?_eq_some_iff.mp e
        simpa using h
      rw [List.getElem?_set_self hi] at e
      cases e
      exact trivial
    · rw [List.getElem?_set_ne q] at e
      rw [hs j (Ne.symm q)]
      exact r.slot j sv e
  · have h1 : i ≠ j := fun z => by
      subst z
      have hi : i < st.length := by
        obtain ⟨h, _⟩ := List.getElem?_eq_some_iff.mp ej
        simpa using h
      rw [List.getElem?_set_self hi] at ej
      cases ej
      cases oj
    have h2 : i ≠ k := fun z => by
      subst z
      have hi : i < st.length := by
        obtain ⟨h, _⟩ := List.getElem?_eq_some_iff.mp ek
        simpa using h
      rw [List.getElem?_set_self hi] at ek
      cases ek
      cases ok
    rw [List.getElem?_set_ne h1] at ej
    rw [List.getElem?_set_ne h2] at ek
    rw [hs j (Ne.symm h1)] at ha
    rw [hs k (Ne.symm h2)] at hb
    exact r.apart j k a sj sk n ej ek oj ok ha hb
/-- a slot of one's own is frozen where it stands -/
theorem R.frzSlot (r : R c st σ H G) {i : Nat} {d : D} (e : st[i]? = some (.ow d)) : ∃ v G', at' σ i = some v ∧ GLe G G' ∧ R c (st.set i (.va d)) σ H G' ∧ Rep c.K c.mg G' d v := by
  obtain ⟨a, x, g, h0, q⟩ := r.slot i _ e
  have hi : i < st.length := (List.getElem?_eq_some_iff.mp e).1
  have hσ : i < σ.length := by rw [← r.len]; exact hi
  have r1 : R c (st.set i .un) σ H G := r.forget rfl fun _ _ => rfl
  have f : Fre c (st.set i .un) σ H G a d := by
    refine ⟨g, h0, q, fun j sv ej oj z => ?_⟩
    by_cases n : i = j
    · subst n
      rw [List.getElem?_set_self hi] at ej
      cases ej
      cases oj
    · rw [List.getElem?_set_ne n] at ej
      exact r.apart i j a _ sv n e ej rfl oj x z
  obtain ⟨G', le, r2, rep⟩ := r1.freeze f
  refine ⟨.ref a, G', x, le, ?_, rep⟩
  have r3 := r2.set (i := i) rep
  rw [List.set_set] at r3
  have es : σ.set i (some (.ref a)) = σ := by
    have e1 := at'_some x
    exact List.ext_getElem? fun j => by
      by_cases n : i = j
      · subst n; rw [List.getElem?_set_self hσ, e1]
      · rw [List.getElem?_set_ne n]
  rw [es] at r3
  exact r3
/-- an own object is changed -/
theorem R.change (r : R c st σ H G) {i : Nat} {d d' : D} {a : Addr} {o : HO} (e : st[i]? = some (.ow d) ∨ st[i]? = some (.io d)) (x : at' σ i = some (.ref a)) (q : Own c.K c.mg G (upd H a o) a d') :
    R c (st.set i (match st[i]? with | some (.io _) => .io d' | _ => .ow d')) σ (upd H a o) G := by
  have g : G a = none := by
    rcases e with e | e
    · obtain ⟨b, y, g, _⟩ := r.slot i _ e
      rw [x] at y; cases y; exact g
    · obtain ⟨b, y, g, _⟩ := r.slot i _ e
      rw [x] at y; cases y; exact g
  have hi : i < st.length := by rcases e with e | e <;> exact (List.getElem?_eq_some_iff.mp e).1
  have oi : ∃ si, st[i]? = some si ∧ si.own = true := by rcases e with e | e <;> exact ⟨_, e, rfl⟩
  refine ⟨by simp [r.len], fun b u eb => ?_, fun j sv ej => ?_, fun j k b sj sk n ej ek oj ok ha hb => ?_, fun b u eb nb => ?_, r.ge0, r.fresh, fun b hb z => ?_, r.wf⟩
  · have nb : b ≠ a := fun z => by rw [z, g] at eb; cases eb
    rw [upd_ne nb]
    exact r.sub b u eb
  · by_cases n : i = j
    · subst n
      rw [List.getElem?_set_self hi] at ej
      rcases e with e | e
      · rw [e] at ej
        cases ej
        obtain ⟨b, y, g', h0, _⟩ := r.slot i _ e
        rw [x] at y; cases y
        exact ⟨a, x, g', h0, q⟩
      · rw [e] at ej
        cases ej
        obtain ⟨b, y, g', h0, _⟩ := r.slot i _ e
        rw [x] at y; cases y
        exact ⟨a, x, g', h0, q⟩
    · rw [List.getElem?_set_ne n] at ej
      have hs := r.slot j sv ej
      cases sv with
      | un => exact trivial
      | va d => exact hs
      | bo d => exact hs
      | ow d2 =>
        obtain ⟨b, y, g', h0, q'⟩ := hs
        obtain ⟨si, esi, osi⟩ := oi
        have nb : b ≠ a := fun z => r.apart i j a si _ n esi ej osi rfl x (by rw [y, z])
        exact ⟨b, y, g', h0, q'.le (GLe.refl G) fun u hu => by rw [upd_ne nb]; exact hu⟩
      | io d2 =>
        obtain ⟨b, y, g', h0, q'⟩ := hs
        obtain ⟨si, esi, osi⟩ := oi
        have nb : b ≠ a := fun z => r.apart i j a si _ n esi ej osi rfl x (by rw [y, z])
        exact ⟨b, y, g', h0, q'.le (GLe.refl G) fun u hu => by rw [upd_ne nb]; exact hu⟩
  · have own_of : ∀ (m : Nat) (s : SV), (st.set i (match st[i]? with | some (.io _) => .io d' | _ => .ow d'))[m]? = some s → s.own = true → ∃ s', st[m]? = some s' ∧ s'.own = true := fun m s em om => by
      by_cases n : i = m
      · subst n; exact oi
      · rw [List.getElem?_set_ne n] at em
        exact ⟨s, em, om⟩
    obtain ⟨s1, e1, o1⟩ := own_of j sj ej oj
    obtain ⟨s2, e2, o2⟩ := own_of k sk ek ok
    exact r.apart j k b s1 s2 n e1 e2 o1 o2 ha hb
  · have nba : b ≠ a := fun z => by
      subst z
      rcases e with e | e
      · obtain ⟨b', y, _, h0, _⟩ := r.slot i _ e
        rw [x] at y; cases y
        rw [h0] at eb; cases eb
      · obtain ⟨b', y, _, h0, _⟩ := r.slot i _ e
        rw [x] at y; cases y
        exact nb h0
    rw [upd_ne nba]
    exact r.frame b u eb nb
  · by_cases n : b = a
    · subst n
      rw [upd_same] at z
      cases z
    · rw [upd_ne n] at z
      exact r.alive b hb z
end

/-! ### judgements -/
/-- an exception of an own class: its name, its fields -/
def ExR (K : PySem.W.Frag) (mg : MG) (G : Hp) (cn : Str) (ns : List Str) (ds : List D) (cls : Value) (od : Option Addr) : Prop :=
  (∃ C, cls = .ref C ∧ mg cn = some (.ref C)) ∧ ((ns = [] ∧ ds = [] ∧ od = none) ∨ ∃ d vs, od = some d ∧ G d = some (.xd (ns.zip vs)) ∧ ns.length = ds.length ∧ RepL K mg G ds vs)
/-- what a result asks -/
def Po (c : Ct) (W : WX) (σ : Sl) (G : Hp) {α : Type} (r : Res α) (Q : α → S → Hp → Hp → Prop) : Prop :=
  match r with
  | .ok a st' => ∀ H' G', GLe G G' → R c st' σ H' G' → Q a st' H' G'
  | .exc cn ns ds st' => ∀ cls od H' G', GLe G G' → R c st' σ H' G' → ExR c.K c.mg G' cn ns ds cls od → W cls od σ H'
  | .stuck => False
theorem Po.le {c : Ct} {W : WX} {σ : Sl} {G G' : Hp} {α : Type} {r : Res α} {Q : α → S → Hp → Hp → Prop} (le : GLe G G') (h : Po c W σ G r Q) : Po c W σ G' r Q := by
  cases r with
  | ok a st' => exact fun H2 G2 l => h H2 G2 (le.trans l)
  | exc cn ns ds st' => exact fun cls od H2 G2 l => h cls od H2 G2 (le.trans l)
  | stuck => exact h
theorem Po.mono {c : Ct} {W : WX} {σ : Sl} {G : Hp} {α : Type} {r : Res α} {Q Q' : α → S → Hp → Hp → Prop} (h : Po c W σ G r Q) (q : ∀ a st' H' G', GLe G G' → R c st' σ H' G' → Q a st' H' G' → Q' a st' H' G') : Po c W σ G r Q' := by
  cases r with
  | ok a st' => exact fun H2 G2 l r => q _ _ _ _ l r (h H2 G2 l r)
  | exc cn ns ds st' => exact h
  | stuck => exact h
theorem Po.seq {c : Ct} {W : WX} {σ : Sl} {G : Hp} {α β : Type} {m : M α} {f : α → M β} {st : S} {Q : β → S → Hp → Hp → Prop} (h : Po c W σ G (bnd m f st) Q) :
    Po c W σ G (m st) (fun a st' H' G' => R c st' σ H' G' ∧ Po c W σ G' (f a st') Q) := by
  unfold Dn.bnd at h
  cases e : m st with
  | ok a st' =>
    rw [e] at h
    exact fun H2 G2 l r => ⟨r, Po.le l h⟩
  | exc cn ns ds st' =>
    rw [e] at h
    exact h
  | stuck =>
    rw [e] at h
    exact h

/-- the readings of a result: of an expression's, a new object's, a test's, a list of arguments' -/
def tM (c : Ct) (W : WX) (m : M D) : TE := fun σ H Q => ∃ st G, R c st σ H G ∧ Po c W σ G (m st) fun d st' H' G' => ∀ v, Rep c.K c.mg G' d v → Q v H'
def tN (c : Ct) (W : WX) (m : M D) : TE := fun σ H Q => ∃ st G, R c st σ H G ∧ Po c W σ G (m st) fun d st' H' G' => ∀ a, Fre c st' σ H' G' a d → Q (.ref a) H'
def tB' (c : Ct) (W : WX) (m : M Bool) : TT := fun σ H Q => ∃ st G, R c st σ H G ∧ Po c W σ G (m st) fun b st' H' G' => Q b H'
abbrev DE (c : Ct) (X : Cx) (W : WX) (e : Expr) (m : M D) : Prop := PE X e (tM c W m)
abbrev DN (c : Ct) (X : Cx) (W : WX) (e : Expr) (m : M D) : Prop := PE X e (tN c W m)
abbrev DT (c : Ct) (X : Cx) (W : WX) (e : Expr) (m : M Bool) : Prop := PT X e (tB' c W m)
theorem pe_weak {X : Cx} {e : Expr} {t t' : TE} (h : PE X e t) (w : ∀ σ H Q, t' σ H Q → t σ H Q) : PE X e t' := ⟨fun pins s σ H Q I q => h.run pins s σ H Q I (w σ H Q q)⟩
theorem pt_weak {X : Cx} {e : Expr} {t t' : TT} (h : PT X e t) (w : ∀ σ H Q, t' σ H Q → t σ H Q) : PT X e t' := ⟨fun pins s σ H Q I q => h.run pins s σ H Q I (w σ H Q q)⟩
theorem pa_weak {X : Cx} {e : List Expr} {t t' : TA} (h : PA X e t) (w : ∀ σ H Q, t' σ H Q → t σ H Q) : PA X e t' := ⟨fun pos pins s σ H Q I q => h.run pos pins s σ H Q I (w σ H Q q)⟩
theorem ps_weak {X : Cx} {e : Stmt} {t t' : TS} (h : PS X e t) (w : ∀ D σ H, t' D σ H → t D σ H) : PS X e t' := ⟨fun pins s σ H D I q => h.run pins s σ H D I (w D σ H q)⟩
theorem pss_weak {X : Cx} {e : List Stmt} {t t' : TS} (h : PSs X e t) (w : ∀ D σ H, t' D σ H → t D σ H) : PSs X e t' := ⟨fun pins s σ H D I q => h.run pins s σ H D I (w D σ H q)⟩

section
variable {c : Ct} {X : Cx} {W : WX} {e : Expr} {m : M D}
/-- a new object as a datum -/
theorem DN.de (h : DN c X W e m) : DE c X W e m := pe_weak h fun σ H Q ⟨st, G, r, p⟩ => ⟨st, G, r, by
  cases q : m st with
  | ok d st' =>
    rw [q] at p
    intro H' G' le r' a f
    obtain ⟨G2, le2, r2, rep⟩ := r'.freeze f
    exact p H' G2 (le.trans le2) r2 _ rep
  | exc cn ns ds st' => rw [q] at p; exact p
  | stuck => rw [q] at p; exact p⟩
end
end Dn

set_option Elab.async false
set_option linter.all false
set_option maxRecDepth 100000
set_option maxHeartbeats 2000000
/-! Dn, part C: expressions. -/
namespace Dn
open PySem PySem.Spec PyProof.Rows L2

/-! ### what is read -/
def View (c : Ct) (G H : Hp) : D → V → Prop
  | .lst ds, v => ∃ a vs, v = .ref a ∧ H a = some (.lst vs) ∧ RepL c.K c.mg G ds vs
  | .fl ds, v => ∃ a vs, v = .ref a ∧ SqL c.K G a vs ∧ RepL c.K c.mg G ds vs
  | .tup ds, v => ∃ a vs, v = .ref a ∧ SqT c.K G a vs ∧ RepL c.K c.mg G ds vs
  | .dK ks ds, v => ∃ a vs, v = .ref a ∧ Rd H a (.dK (ks.zip vs)) ∧ ks.length = ds.length ∧ RepL c.K c.mg G ds vs
  | .dT ks ds, v => ∃ a vs, v = .ref a ∧ Rd H a (.dT (ks.zip vs)) ∧ ks.length = ds.length ∧ RepL c.K c.mg G ds vs
  | .obj cn ns ds, v => ∃ a C dx vs, v = .ref a ∧ H a = some (.ins C dx (ns.zip vs)) ∧ c.mg cn = some (.ref C) ∧ ns.length = ds.length ∧ RepL c.K c.mg G ds vs
  | .non, v => v = .non
  | .bl b, v => v = .bl b
  | .int i, v => v = .int i
  | .str x, v => v = .str x
  | .thk q ps b sc _ _, v => ∃ f c' pm ctv, v = .ref f ∧ H f = some (LamO f q ps b sc pm c' ctv) ∧ H c' = some (LamX.CodeO c' q)
def svD : SV → Option D
  | .un => none
  | .va d => some d
  | .bo d => some d
  | .ow d => some d
  | .io d => some d
/-- a value, or what stands in a slot when it is looked at -/
inductive Hd where
  | v (d : D) | s (i : Nat)
def HdOk (c : Ct) (σ : Sl) (G : Hp) : Hd → V → Prop
  | .v d, v => Rep c.K c.mg G d v
  | .s i, v => at' σ i = some v
def look : Hd → M D
  | .v d => ret d
  | .s i => fun st => match (st[i]?).bind svD with
    | some d => .ok d st
    | none => .stuck
section
variable {c : Ct} {st : S} {σ : Sl} {G G' H : Hp}
theorem Rep.view {d : D} {v : V} (s : Sub c.lk G H) (h : Rep c.K c.mg G d v) : View c G H d v := by
  cases d <;> simp only [Rep] at h <;> simp only [View]
  · exact h
  · exact h
  · exact h
  · exact h
  · obtain ⟨a, vs, e, q, r⟩ := h
    rcases s _ _ q with q | ⟨_, m, _⟩
    · exact ⟨a, vs, e, q, r⟩
    · exact m.elim
  · exact h
  · exact h
  · obtain ⟨a, vs, e, q, r⟩ := h; exact ⟨a, vs, e, (s _ _ q).rd, r⟩
  · obtain ⟨a, vs, e, q, r⟩ := h; exact ⟨a, vs, e, (s _ _ q).rd, r⟩
  · obtain ⟨a, C, dx, vs, e, q, r⟩ := h
    rcases s _ _ q with q | ⟨_, m, _⟩
    · exact ⟨a, C, dx, vs, e, q, r⟩
    · exact m.elim
  · obtain ⟨f, c', pm, ctv, e, h1, h2⟩ := h
    refine ⟨f, c', pm, ctv, e, ?_, ?_⟩
    · rcases s _ _ h1 with q | ⟨_, m, _⟩
      · exact q
      · exact m.elim
    · rcases s _ _ h2 with q | ⟨_, m, _⟩
      · exact q
      · exact m.elim
theorem Own.view {d : D} {a : Addr} (h : Own c.K c.mg G H a d) : View c G H d (.ref a) := by
  cases d <;> simp only [Own] at h <;> simp only [View]
  · obtain ⟨vs, e, r⟩ := h; exact ⟨a, vs, rfl, e, r⟩
  · obtain ⟨vs, e, r⟩ := h; exact ⟨a, vs, rfl, .of e, r⟩
  · obtain ⟨vs, e, r⟩ := h; exact ⟨a, vs, rfl, .of e, r⟩
  · obtain ⟨C, dx, vs, e, r⟩ := h; exact ⟨a, C, dx, vs, rfl, e, r⟩
theorem R.view (r : R c st σ H G) {i : Nat} {sv : SV} {d : D} {v : V} (e : st[i]? = some sv) (x : at' σ i = some v) (hd : svD sv = some d) : View c G H d v := by
  have h := r.slot i sv e
  cases sv with
  | un => cases hd
  | va d' =>
    cases hd
    obtain ⟨v', y, q⟩ := h
    rw [x] at y; cases y
    exact q.view r.sub
  | bo d' =>
    cases hd
    obtain ⟨a, y, q⟩ := h
    rw [x] at y; cases y
    cases d <;> simp only [Bor] at q
    obtain ⟨vs, q, rl⟩ := q
    refine ⟨a, vs, rfl, ?_, rl⟩
    obtain ⟨q, n⟩ := r.wf.lent _ _ q
    rcases r.frame _ _ q n with q | ⟨_, m, _⟩
    · exact q
    · exact m.elim
  | ow d' =>
    cases hd
    obtain ⟨a, y, _, _, q⟩ := h
    rw [x] at y; cases y
    exact q.view
  | io d' =>
    cases hd
    obtain ⟨a, y, _, _, q⟩ := h
    rw [x] at y; cases y
    exact q.view
theorem HdOk.le {h : Hd} {v : V} (e : GLe G G') (q : HdOk c σ G h v) : HdOk c σ G' h v := by
  cases h with
  | v d => exact Rep.le e q
  | s i => exact q
theorem HdOk.view {h : Hd} {v : V} {d : D} {st' : S} (r : R c st σ H G) (q : HdOk c σ G h v) (l : look h st = .ok d st') : st' = st ∧ View c G H d v := by
  cases h with
  | v d' =>
    unfold look ret at l
    cases l
    exact ⟨rfl, Rep.view r.sub q⟩
  | s i =>
    unfold look at l
    cases e : st[i]? with
    | none => simp only [e] at l; cases l
    | some sv =>
      simp only [e] at l
      cases e2 : svD sv with
      | none =>
        have : (some sv).bind svD = none := e2
        simp only [this] at l
        cases l
      | some d' =>
        have : (some sv).bind svD = some d' := e2
        simp only [this] at l
        cases l
        exact ⟨rfl, r.view e q e2⟩
theorem look_no {h : Hd} {cn : Str} {ns : List Str} {ds : List D} {st' : S} : look h st ≠ .exc cn ns ds st' := fun l => by
  cases h with
  | v d' => unfold look ret at l; cases l
  | s i =>
    unfold look at l
    cases e : (st[i]?).bind svD with
    | none => simp only [e] at l; cases l
    | some d => simp only [e] at l; cases l
end
def tH (c : Ct) (W : WX) (m : M Hd) : TE := fun σ H Q => ∃ st G, R c st σ H G ∧ Po c W σ G (m st) fun h st' H' G' => ∀ v, HdOk c σ G' h v → Q v H'
abbrev DH (c : Ct) (X : Cx) (W : WX) (e : Expr) (m : M Hd) : Prop := PE X e (tH c W m)
def mV (m : M D) : M Hd := bnd m fun d => ret (.v d)
section
variable {c : Ct} {X : Cx} {W : WX} {σ : Sl} {G H : Hp} {e a b : Expr} {pos : Pos}
theorem Po.done {α : Type} {x : α} {st : S} {Q : α → S → Hp → Hp → Prop} (r : R c st σ H G) (h : Po c W σ G (Dn.ret x st) Q) : Q x st H G := h H G (GLe.refl G) r
theorem Po.opt {α : Type} {o : Option α} {st : S} {Q : α → S → Hp → Hp → Prop} (r : R c st σ H G) (h : Po c W σ G (Dn.ofO o st) Q) : ∃ x, o = some x ∧ Q x st H G := by
  cases o with
  | none => exact h.elim
  | some x => exact ⟨x, rfl, h H G (GLe.refl G) r⟩
theorem Po.see {h : Hd} {v : V} {β : Type} {f : D → M β} {st : S} {Q : β → S → Hp → Hp → Prop} (r : R c st σ H G) (q : HdOk c σ G h v) (p : Po c W σ G (bnd (look h) f st) Q) : ∃ d, View c G H d v ∧ Po c W σ G (f d st) Q := by
  unfold bnd at p
  cases l : Dn.look h st with
  | ok d st' =>
    obtain ⟨rfl, w⟩ := q.view r l
    rw [l] at p
    exact ⟨d, w, p⟩
  | exc cn ns ds st' => exact (look_no l).elim
  | stuck => rw [l] at p; exact p.elim
theorem dh_de {m : M D} (h : DE c X W e m) : DH c X W e (mV m) := pe_weak h fun σ H Q ⟨st, G, r, p⟩ => ⟨st, G, r, (Po.seq p).mono fun d st' H' G' l r' ⟨_, q⟩ v rep => q.done r' v rep⟩
/-- a local name as it stands when it is looked at -/
theorem dh_slot (i : Nat) {x : Str} {pos : Pos} (hN : X.N[i]? = some x := by rfl) (hv : Vis X.env.scope x := by first | exact Or.inl rfl | exact Or.inr (Or.inl rfl) | exact Or.inr (Or.inr rfl)) (hd : (x == ("__debug__" : Str)) = false := by decide)
    (hcd : (x == ("__classdict__" : Str)) = false := by decide) : DH c X W (.Name x pos) (fun st => match (st[i]?).bind svD with | some _ => .ok (.s i) st | none => .stuck) :=
  pe_weak (pe_var (i := i) hN hv hd hcd) fun σ H Q ⟨st, G, r, p⟩ => by
    cases e : st[i]? with
    | none => simp only [e] at p; exact p.elim
    | some sv =>
      cases e2 : svD sv with
      | none =>
        have : (some sv).bind svD = none := e2
        simp only [e, this] at p
        exact p.elim
      | some d =>
        have : (some sv).bind svD = some d := e2
        simp only [e, this] at p
        have hs := r.slot i sv e
        have : ∃ v, at' σ i = some v := by
          cases sv with
          | un => cases e2
          | va d' => obtain ⟨v, y, _⟩ := hs; exact ⟨v, y⟩
          | bo d' => obtain ⟨v, y, _⟩ := hs; exact ⟨_, y⟩
          | ow d' => obtain ⟨v, y, _⟩ := hs; exact ⟨_, y⟩
          | io d' => obtain ⟨v, y, _⟩ := hs; exact ⟨_, y⟩
        obtain ⟨v, y⟩ := this
        exact ⟨v, at'_some y, p H G (GLe.refl G) r v y⟩
def mSl (i : Nat) : M Hd := fun st => match (st[i]?).bind svD with
  | some _ => .ok (.s i) st
  | none => .stuck
/-- a local name as a value: an object of one's own is frozen -/
def mVar (i : Nat) : M D := fun st => match st[i]? with
  | some (.va d) => .ok d st
  | some (.ow d) => .ok d (st.set i (.va d))
  | _ => .stuck
theorem de_var (i : Nat) {x : Str} {pos : Pos} (hN : X.N[i]? = some x := by rfl) (hv : Vis X.env.scope x := by first | exact Or.inl rfl | exact Or.inr (Or.inl rfl) | exact Or.inr (Or.inr rfl)) (hd : (x == ("__debug__" : Str)) = false := by decide)
    (hcd : (x == ("__classdict__" : Str)) = false := by decide) : DE c X W (.Name x pos) (mVar i) :=
  pe_weak (pe_var (i := i) hN hv hd hcd) fun σ H Q ⟨st, G, r, p⟩ => by
    unfold mVar at p
    cases e : st[i]? with
    | none => simp only [e] at p; exact p.elim
    | some sv =>
      simp only [e] at p
      cases sv with
      | un => exact p.elim
      | va d =>
        obtain ⟨v, y, q⟩ := r.slot i _ e
        exact ⟨v, at'_some y, p H G (GLe.refl G) r v q⟩
      | bo d => exact p.elim
      | ow d =>
        obtain ⟨v, G', y, le, r', q⟩ := r.frzSlot e
        exact ⟨v, at'_some y, p H G' le r' v q⟩
      | io d => exact p.elim

/-! ### constants, the module's names -/
theorem de_int {i : Int} {j pos} : DE c X W (.Constant (.int i) j pos) (ret (.int i)) := pe_weak pe_int fun σ H Q ⟨st, G, r, p⟩ => p.done r _ (by simp only [Rep])
theorem de_bl {b : Bool} {j pos} : DE c X W (.Constant (.bool b) j pos) (ret (.bl b)) := pe_weak pe_bl fun σ H Q ⟨st, G, r, p⟩ => p.done r _ (by simp only [Rep])
theorem de_non {j pos} : DE c X W (.Constant .none j pos) (ret .non) := pe_weak pe_non fun σ H Q ⟨st, G, r, p⟩ => p.done r _ (by simp only [Rep])
theorem de_str {x : Str} {j pos} : DE c X W (.Constant (.str x) j pos) (ret (.str x)) := pe_weak pe_str fun σ H Q ⟨st, G, r, p⟩ => p.done r _ (by simp only [Rep])
/-- a written constant of the module -/
theorem de_glob {x : Str} {d : D} {v : V} {u : Value} {pos : Pos} (hg : Gl X x) (hm : X.mg x = some u) (r : RelV v u) (rep : ∀ G, Rep c.K c.mg G d v) (hd : (x == ("__debug__" : Str)) = false := by decide) : DE c X W (.Name x pos) (ret d) :=
  pe_weak (pe_glob hg hm r hd) fun σ H Q ⟨st, G, r, p⟩ => p.done r _ (rep G)

/-! ### operators -/
/-- a rule whose answer is no new object, by what is read -/
def OpS (c : Ct) (r : R2) (f : D → D → Option D) : Prop := ∀ (a b d : D) (x y : V) (G H : Hp) (Q : VK), f a b = some d → Sub c.lk G H → View c G H a x → View c G H b y → (∀ v, Rep c.K c.mg G d v → Q v H) → r x y H Q
/-- .. a new object -/
def OpN (c : Ct) (r : R2) (f : D → D → Option D) : Prop := ∀ (a b d : D) (x y : V) (G H : Hp) (Q : VK), f a b = some d → Sub c.lk G H → View c G H a x → View c G H b y → (∀ p o, H p = none → Own c.K c.mg G (upd H p o) p d → Q (.ref p) (upd H p o)) → r x y H Q
def mB (f : D → D → Option D) (ma mb : M Hd) : M D := bnd ma fun h => bnd mb fun k => bnd (look h) fun a => bnd (look k) fun b => ofO (f a b)
theorem mB_s {r : R2} {f : D → D → Option D} {ma mb : M Hd} (ho : OpS c r f) : ∀ σ H Q, tM c W (mB f ma mb) σ H Q → tOp r (tH c W ma) (tH c W mb) σ H Q := by
  rintro σ H Q ⟨st, G, hr, p⟩
  refine ⟨st, G, hr, (Po.seq p).mono fun h s1 H1 G1 l1 r1 ⟨_, p1⟩ x hx => ?_⟩
  refine ⟨s1, G1, r1, (Po.seq p1).mono fun k s2 H2 G2 l2 r2 ⟨_, p2⟩ y hy => ?_⟩
  obtain ⟨a, va, p3⟩ := Po.see r2 (hx.le l2) p2
  obtain ⟨b, vb, p4⟩ := Po.see r2 hy p3
  obtain ⟨d, e, q⟩ := Po.opt r2 p4
  exact ho a b d x y G2 H2 Q e r2.sub va vb q
theorem mB_n {r : R2} {f : D → D → Option D} {ma mb : M Hd} (ho : OpN c r f) : ∀ σ H Q, tN c W (mB f ma mb) σ H Q → tOp r (tH c W ma) (tH c W mb) σ H Q := by
  rintro σ H Q ⟨st, G, hr, p⟩
  refine ⟨st, G, hr, (Po.seq p).mono fun h s1 H1 G1 l1 r1 ⟨_, p1⟩ x hx => ?_⟩
  refine ⟨s1, G1, r1, (Po.seq p1).mono fun k s2 H2 G2 l2 r2 ⟨_, p2⟩ y hy => ?_⟩
  obtain ⟨a, va, p3⟩ := Po.see r2 (hx.le l2) p2
  obtain ⟨b, vb, p4⟩ := Po.see r2 hy p3
  unfold ofO at p4
  cases e : f a b with
  | none => rw [e] at p4; exact p4.elim
  | some d =>
    rw [e] at p4
    exact ho a b d x y G2 H2 Q e r2.sub va vb fun p o hp ow => p4 _ G2 (GLe.refl G2) (r2.new hp) p (r2.fre_new hp ow)
theorem de_op {op : Operator} {r : R2} {f : D → D → Option D} {ma mb : M Hd} (hop : OpR X (binaryOp op) r) (ho : OpS c r f) (ha : DH c X W a ma) (hb : DH c X W b mb) : DE c X W (.BinOp a op b pos) (mB f ma mb) := pe_weak (pe_op hop ha hb) (mB_s ho)
theorem dn_op {op : Operator} {r : R2} {f : D → D → Option D} {ma mb : M Hd} (hop : OpR X (binaryOp op) r) (ho : OpN c r f) (ha : DH c X W a ma) (hb : DH c X W b mb) : DN c X W (.BinOp a op b pos) (mB f ma mb) := pe_weak (pe_op hop ha hb) (mB_n ho)
theorem de_cmp {op : CmpOp} {r : R2} {f : D → D → Option D} {ma mb : M Hd} (hop : OpR X (compareOp op) r) (ho : OpS c r f) (ha : DH c X W a ma) (hb : DH c X W b mb) (hm : behindInMarks op b = false) : DE c X W (.Compare a [op] [b] pos) (mB f ma mb) := pe_weak (pe_cmpR hop ha hb hm) (mB_s ho)
def asB (m : M D) : M Bool := bnd m fun d => match d with
  | .bl b => ret b
  | _ => fun _ => .stuck
theorem asB_t {m : M D} {t : TE} (w : ∀ σ H Q, tM c W m σ H Q → t σ H Q) : ∀ σ H Q, tB' c W (asB m) σ H Q → tTest t σ H Q := by
  rintro σ H Q ⟨st, G, hr, p⟩
  refine w σ H _ ⟨st, G, hr, (Po.seq p).mono fun d s1 H1 G1 l1 r1 ⟨_, p1⟩ v rep => ?_⟩
  cases d <;> first
    | exact p1.elim
    | (simp only [Rep] at rep
       exact ⟨_, rep, p1.done r1⟩)
theorem dt_cmp {op : CmpOp} {r : R2} {f : D → D → Option D} {ma mb : M Hd} (hop : OpR X (compareOp op) r) (ho : OpS c r f) (ha : DH c X W a ma) (hb : DH c X W b mb) (hm : behindInMarks op b = false) : DT c X W (.Compare a [op] [b] pos) (asB (mB f ma mb)) := pt_weak (pt_cmpR hop ha hb hm) (asB_t (mB_s ho))
/-- an expression whose value is True or False, as a test -/
theorem dt_val {m : M D} (h : DE c X W e m) (he : ∀ whole, isTrue e X.env whole = (do let v ← whole; standAt e.pos; holding [v] (truthy v)) := by intro _; rfl) : DT c X W e (asB m) := pt_weak (pt_val h he) (asB_t fun _ _ _ q => q)

/-! ### ints -/
def fI (g : Int → Int → D) : D → D → Option D
  | .int i, .int j => some (g i j)
  | _, _ => none
theorem rep_v {d : D} {v v' : V} {K : PySem.W.Frag} {mg : MG} {G : Hp} (h : Rep K mg G d v) (e : v = v') : Rep K mg G d v' := e ▸ h
theorem ops_I0 {g : Int → Int → V} {g' : Int → Int → D} (hg : ∀ i j G, Rep c.K c.mg G (g' i j) (g i j)) : OpS c (rI0 g) (fI g') := by
  intro a b d x y G H Q e s va vb q
  cases a <;> cases b <;> simp only [fI, reduceCtorEq] at e
  simp only [View] at va vb
  subst va; subst vb
  cases e
  exact ⟨_, _, rfl, rfl, q _ (hg _ _ _)⟩
theorem ops_add : OpS c (rI0 fun i j => .int (i + j)) (fI fun i j => .int (i + j)) := ops_I0 fun _ _ _ => by simp only [Rep]
theorem ops_sub : OpS c (rI0 fun i j => .int (i - j)) (fI fun i j => .int (i - j)) := ops_I0 fun _ _ _ => by simp only [Rep]
theorem ops_lt : OpS c (rI0 fun i j => .bl (decide (i < j))) (fI fun i j => .bl (decide (i < j))) := ops_I0 fun _ _ _ => by simp only [Rep]
theorem ops_le : OpS c (rI0 fun i j => .bl (decide (i ≤ j))) (fI fun i j => .bl (decide (i ≤ j))) := ops_I0 fun _ _ _ => by simp only [Rep]
theorem ops_gt : OpS c (rI0 fun i j => .bl (decide (j < i))) (fI fun i j => .bl (decide (j < i))) := ops_I0 fun _ _ _ => by simp only [Rep]
theorem ops_ge : OpS c (rI0 fun i j => .bl (decide (j ≤ i))) (fI fun i j => .bl (decide (j ≤ i))) := ops_I0 fun _ _ _ => by simp only [Rep]
/-- under a condition that is decided -/
def fIc (C : Int → Int → Bool) (g : Int → Int → D) : D → D → Option D
  | .int i, .int j => if C i j = true then some (g i j) else none
  | _, _ => none
theorem ops_Ic {C : Int → Int → Bool} {P : Int → Int → Prop} {g : Int → Int → V} {g' : Int → Int → D} (hC : ∀ i j, C i j = true → P i j) (hg : ∀ i j G, Rep c.K c.mg G (g' i j) (g i j)) : OpS c (rI P g) (fIc C g') := by
  intro a b d x y G H Q e s va vb q
  cases a <;> cases b <;> simp only [fIc, reduceCtorEq] at e
  simp only [View] at va vb
  subst va; subst vb
  split at e
  · rename_i h
    cases e
    exact ⟨_, _, rfl, rfl, hC _ _ h, q _ (hg _ _ _)⟩
  · cases e
def cMul (i j : Int) : Bool := (decide (-18446744073709551616 < i) && decide (i < 18446744073709551616)) || (decide (-18446744073709551616 < j) && decide (j < 18446744073709551616))
def cMod (i j : Int) : Bool := decide (0 < j)
def cDiv (i j : Int) : Bool := decide (0 < j) && decide (j < 1073741824)
def cPow (i j : Int) : Bool := decide (0 ≤ j) && decide (j ≤ 1000) && decide (i.natAbs < 18446744073709551616)
theorem ops_mul : OpS c (rI CMul fun i j => .int (i * j)) (fIc cMul fun i j => .int (i * j)) := ops_Ic (fun i j h => by
  simp only [cMul, Bool.or_eq_true, Bool.and_eq_true, decide_eq_true_eq] at h
  rcases h with h | h
  · exact .inl ⟨h.1, h.2⟩
  · exact .inr ⟨h.1, h.2⟩) fun _ _ _ => by simp only [Rep]
theorem ops_mod : OpS c (rI (fun _ j => 0 < j) fun i j => .int (i % j)) (fIc cMod fun i j => .int (i % j)) := ops_Ic (fun i j h => by simpa [cMod] using h) fun _ _ _ => by simp only [Rep]
theorem ops_fdiv : OpS c (rI CDiv fun i j => .int (i / j)) (fIc cDiv fun i j => .int (i / j)) := ops_Ic (fun i j h => by
  simp only [cDiv, Bool.and_eq_true, decide_eq_true_eq] at h
  exact h) fun _ _ _ => by simp only [Rep]
theorem ops_pow : OpS c (rI CPow fun i j => .int (i ^ j.toNat)) (fIc cPow fun i j => .int (i ^ j.toNat)) := ops_Ic (fun i j h => by
  simp only [cPow, Bool.and_eq_true, decide_eq_true_eq] at h
  exact ⟨h.1.1, Int.le_trans h.1.2 (by decide), h.2⟩) fun _ _ _ => by simp only [Rep]
end
end Dn

set_option Elab.async false
set_option linter.all false
set_option maxRecDepth 100000
set_option maxHeartbeats 2000000
/-! Dn, part D: equality, membership, sequences, displays, tests. -/
namespace Dn
open PySem PySem.Spec PyProof.Rows L2

/-! ### equality of data -/
mutual
def toPy : D → Option PyData
  | .non => some .none
  | .bl b => some (.bool b)
  | .int i => some (.int i)
  | .str x => some (.str x)
  | .lst ds => (toPyL ds).map .list
  | .fl ds => (toPyL ds).map .list
  | .tup ds => (toPyL ds).map .tuple
  | _ => none
def toPyL : List D → Option (List PyData)
  | [] => some []
  | d :: ds => match toPy d, toPyL ds with
    | some p, some ps => some (p :: ps)
    | _, _ => none
end
/-- what == may be asked of -/
def eqD (a b : D) : Option Bool := match toPy a, toPy b with
  | some p, some q => if SeqAt.shaped p = true ∧ SeqAt.shaped q = true then some (PyData.eqv p q) else none
  | _, _ => none
def fEq (a b : D) : Option D := (eqD a b).map .bl
def fNe (a b : D) : Option D := (eqD a b).map fun k => .bl (!k)
section
variable {c : Ct} {G H : Hp}
mutual
theorem dp_of (s : Sub c.lk G H) : ∀ {d : D} {v : V} {p : PyData}, Rep c.K c.mg G d v → toPy d = some p → Dp c.K H v p
  | .non, v, p, h, e => by simp only [Rep] at h; simp only [toPy, Option.some.injEq] at e; subst h e; exact .non
  | .bl b, v, p, h, e => by simp only [Rep] at h; simp only [toPy, Option.some.injEq] at e; subst h e; exact .bl b
  | .int i, v, p, h, e => by simp only [Rep] at h; simp only [toPy, Option.some.injEq] at e; subst h e; exact .int i
  | .str x, v, p, h, e => by simp only [Rep] at h; simp only [toPy, Option.some.injEq] at e; subst h e; exact .str x
  | .lst ds, v, p, h, e => by
    simp only [Rep] at h
    obtain ⟨a, vs, rfl, q, r⟩ := h
    simp only [toPy, Option.map_eq_some_iff] at e
    obtain ⟨ps, e1, rfl⟩ := e
    refine .lst (.of ?_) (dpAll_of s r e1)
    rcases s _ _ q with q | ⟨_, m, _⟩
    · exact q
    · exact m.elim
  | .fl ds, v, p, h, e => by
    simp only [Rep] at h
    obtain ⟨a, vs, rfl, q, r⟩ := h
    simp only [toPy, Option.map_eq_some_iff] at e
    obtain ⟨ps, e1, rfl⟩ := e
    exact .lst (SqL.sub s q) (dpAll_of s r e1)
  | .tup ds, v, p, h, e => by
    simp only [Rep] at h
    obtain ⟨a, vs, rfl, q, r⟩ := h
    simp only [toPy, Option.map_eq_some_iff] at e
    obtain ⟨ps, e1, rfl⟩ := e
    exact .tup (SqT.sub s q) (dpAll_of s r e1)
  | .dK _ _, _, _, _, e => by simp only [toPy, reduceCtorEq] at e
  | .dT _ _, _, _, _, e => by simp only [toPy, reduceCtorEq] at e
  | .obj _ _ _, _, _, _, e => by simp only [toPy, reduceCtorEq] at e
  | .thk _ _ _ _ _ _, _, _, _, e => by simp only [toPy, reduceCtorEq] at e
theorem dpAll_of (s : Sub c.lk G H) : ∀ {ds : List D} {vs : List V} {ps : List PyData}, RepL c.K c.mg G ds vs → toPyL ds = some ps → DpAll c.K H vs ps
  | [], vs, ps, h, e => by
    simp only [RepL] at h
    simp only [toPyL, Option.some.injEq] at e
    subst h e
    exact .nil
  | d :: ds, vs, ps, h, e => by
    simp only [RepL] at h
    obtain ⟨v, r, rfl, h1, h2⟩ := h
    simp only [toPyL] at e
    cases e1 : toPy d with
    | none => simp only [e1, reduceCtorEq] at e
    | some p =>
      cases e2 : toPyL ds with
      | none => simp only [e1, e2, reduceCtorEq] at e
      | some qs =>
        simp only [e1, e2, Option.some.injEq] at e
        subst e
        exact .cons (dp_of s h1 e1) (dpAll_of s h2 e2)
end
theorem dp_view (s : Sub c.lk G H) {d : D} {v : V} {p : PyData} (h : View c G H d v) (e : toPy d = some p) : Dp c.K H v p := by
  cases d <;> simp only [View] at h
  · simp only [toPy, Option.some.injEq] at e; subst h e; exact .non
  · simp only [toPy, Option.some.injEq] at e; subst h e; exact .bl _
  · simp only [toPy, Option.some.injEq] at e; subst h e; exact .int _
  · simp only [toPy, Option.some.injEq] at e; subst h e; exact .str _
  · obtain ⟨a, vs, rfl, q, r⟩ := h
    simp only [toPy, Option.map_eq_some_iff] at e
    obtain ⟨ps, e1, rfl⟩ := e
    exact .lst (.of q) (dpAll_of s r e1)
  · obtain ⟨a, vs, rfl, q, r⟩ := h
    simp only [toPy, Option.map_eq_some_iff] at e
    obtain ⟨ps, e1, rfl⟩ := e
    exact .lst (SqL.sub s q) (dpAll_of s r e1)
  · obtain ⟨a, vs, rfl, q, r⟩ := h
    simp only [toPy, Option.map_eq_some_iff] at e
    obtain ⟨ps, e1, rfl⟩ := e
    exact .tup (SqT.sub s q) (dpAll_of s r e1)
  · simp only [toPy, reduceCtorEq] at e
  · simp only [toPy, reduceCtorEq] at e
  · simp only [toPy, reduceCtorEq] at e
  · simp only [toPy, reduceCtorEq] at e
theorem eqD_some {a b : D} {k : Bool} (h : eqD a b = some k) : ∃ p q, toPy a = some p ∧ toPy b = some q ∧ SeqAt.shaped p = true ∧ SeqAt.shaped q = true ∧ PyData.eqv p q = k := by
  unfold eqD at h
  cases e1 : toPy a with
  | none => simp only [e1, reduceCtorEq] at h
  | some p =>
    cases e2 : toPy b with
    | none => simp only [e1, e2, reduceCtorEq] at h
    | some q =>
      simp only [e1, e2] at h
      split at h
      · rename_i g
        exact ⟨p, q, rfl, rfl, g.1, g.2, Option.some.inj h⟩
      · cases h
theorem ops_eq : OpS c (rEqD c.K) fEq := by
  intro a b d x y G H Q e s va vb q
  unfold fEq at e
  rw [Option.map_eq_some_iff] at e
  obtain ⟨k, e, rfl⟩ := e
  obtain ⟨p, r, e1, e2, s1, s2, rfl⟩ := eqD_some e
  exact ⟨p, r, dp_view s va e1, dp_view s vb e2, s1, s2, q _ (by simp only [Rep])⟩
theorem ops_ne : OpS c (rNeD c.K) fNe := by
  intro a b d x y G H Q e s va vb q
  unfold fNe at e
  rw [Option.map_eq_some_iff] at e
  obtain ⟨k, e, rfl⟩ := e
  obtain ⟨p, r, e1, e2, s1, s2, rfl⟩ := eqD_some e
  exact ⟨p, r, dp_view s va e1, dp_view s vb e2, s1, s2, q _ (by simp only [Rep])⟩
/-- is None -/
def isNon : D → Bool
  | .non => true
  | _ => false
def fIsN (a b : D) : Option D := match b with
  | .non => some (.bl (isNon a))
  | _ => none
def fNotN (a b : D) : Option D := match b with
  | .non => some (.bl (!isNon a))
  | _ => none
theorem isNon_view {a : D} {x : V} (h : View c G H a x) : decide (x = .non) = isNon a := by
  cases a <;> simp only [View] at h <;> unfold isNon
  · subst h; rfl
  · subst h; rfl
  · subst h; rfl
  · subst h; rfl
  · obtain ⟨a, vs, rfl, _⟩ := h; rfl
  · obtain ⟨a, vs, rfl, _⟩ := h; rfl
  · obtain ⟨a, vs, rfl, _⟩ := h; rfl
  · obtain ⟨a, vs, rfl, _⟩ := h; rfl
  · obtain ⟨a, vs, rfl, _⟩ := h; rfl
  · obtain ⟨a, C, dx, vs, rfl, _⟩ := h; rfl
  · obtain ⟨f, c', pm, ctv, rfl, _⟩ := h; rfl
def rIsN' : R2 := fun x y H Q => y = .non ∧ Q (.bl (decide (x = .non))) H
def rNotN' : R2 := fun x y H Q => y = .non ∧ Q (.bl (!decide (x = .non))) H
theorem ops_isN : OpS c rIsN' fIsN := by
  intro a b d x y G H Q e s va vb q
  cases b <;> simp only [fIsN, reduceCtorEq] at e
  simp only [View] at vb
  cases e
  exact ⟨vb, q _ (by rw [isNon_view va]; simp only [Rep])⟩
theorem ops_notN : OpS c rNotN' fNotN := by
  intro a b d x y G H Q e s va vb q
  cases b <;> simp only [fNotN, reduceCtorEq] at e
  simp only [View] at vb
  cases e
  exact ⟨vb, q _ (by rw [isNon_view va]; simp only [Rep])⟩

/-! ### lists and tuples -/
def seqOf : D → Option (List D)
  | .lst ds => some ds
  | .fl ds => some ds
  | .tup ds => some ds
  | _ => none
theorem seq_view {d : D} {x : V} {ds : List D} (s : Sub c.lk G H) (h : View c G H d x) (e : seqOf d = some ds) : ∃ a vs, x = .ref a ∧ (SqL c.K H a vs ∨ SqT c.K H a vs) ∧ RepL c.K c.mg G ds vs := by
  cases d <;> simp only [seqOf, reduceCtorEq, Option.some.injEq] at e
  · subst e
    simp only [View] at h
    obtain ⟨a, vs, rfl, q, r⟩ := h
    exact ⟨a, vs, rfl, .inl (.of q), r⟩
  · subst e
    simp only [View] at h
    obtain ⟨a, vs, rfl, q, r⟩ := h
    exact ⟨a, vs, rfl, .inl (SqL.sub s q), r⟩
  · subst e
    simp only [View] at h
    obtain ⟨a, vs, rfl, q, r⟩ := h
    exact ⟨a, vs, rfl, .inr (SqT.sub s q), r⟩
/-- x in a list or tuple of data -/
def fInD (neg : Bool) (a b : D) : Option D := match toPy a, toPy b, seqOf b with
  | some p, some (.list ps), _ => if SeqAt.shaped p = true ∧ SeqAt.shaped (.list ps) = true then some (.bl ((ps.any fun q => PyData.eqv q p) != neg)) else none
  | _, _, _ => none
def fLen : D → Option D
  | .lst ds => some (.int ds.length)
  | .fl ds => some (.int ds.length)
  | .tup ds => some (.int ds.length)
  | .str x => if x.length ≤ 16777216 then some (.int x.length) else none
  | _ => none
def fCat : D → D → Option D
  | .lst ds, .lst es => if ds.length + es.length ≤ 16777216 then some (.lst (ds ++ es)) else none
  | _, _ => none
def fRep : D → D → Option D
  | .lst ds, .int k => if -9223372036854775808 ≤ k ∧ k < 9223372036854775808 ∧ ds.length * k.toNat ≤ 16777216 then some (.lst (List.replicate k.toNat ds).flatten) else none
  | _, _ => none
def fCatS : D → D → Option D
  | .str x, .str y => if x.length + y.length ≤ 16777216 then some (.str (x ++ y)) else none
  | _, _ => none
theorem sl_eq : (sizeLine : Nat) = 16777216 := sizeLine_eq
theorem opn_cat : OpN c rCat fCat := by
  intro a b d x y G H Q e s va vb q
  cases a <;> cases b <;> simp only [fCat, reduceCtorEq] at e
  split at e
  · rename_i hz
    cases e
    simp only [View] at va vb
    obtain ⟨l, xs, rfl, h1, r1⟩ := va
    obtain ⟨k, zs, rfl, h2, r2⟩ := vb
    have l1 := r1.length
    have l2 := r2.length
    refine ⟨l, k, xs, zs, rfl, rfl, h1, h2, by rw [sl_eq]; omega, fun p hp => q p _ hp ?_⟩
    simp only [Own]
    exact ⟨_, upd_same, r1.append r2⟩
  · cases e
theorem opn_rep : OpN c rRep fRep := by
  intro a b d x y G H Q e s va vb q
  cases a <;> cases b <;> simp only [fRep, reduceCtorEq] at e
  split at e
  · rename_i hz
    cases e
    simp only [View] at va vb
    obtain ⟨l, xs, rfl, h1, r1⟩ := va
    subst vb
    have l1 := r1.length
    refine ⟨l, _, xs, rfl, rfl, h1, hz.1, hz.2.1, by rw [sl_eq, ← l1]; exact hz.2.2, fun p hp => q p _ hp ?_⟩
    simp only [Own]
    exact ⟨_, upd_same, r1.replicate _⟩
  · cases e
theorem ops_catS : OpS c (fun x y H Q => ∃ i j, x = .str i ∧ y = .str j ∧ i.length + j.length ≤ sizeLine ∧ Q (.str (i ++ j)) H) fCatS := by
  intro a b d x y G H Q e s va vb q
  cases a <;> cases b <;> simp only [fCatS, reduceCtorEq] at e
  split at e
  · rename_i hz
    cases e
    simp only [View] at va vb
    subst va; subst vb
    exact ⟨_, _, rfl, rfl, by rw [sl_eq]; exact hz, q _ (by simp only [Rep])⟩
  · cases e
end
end Dn

set_option Elab.async false
set_option linter.all false
set_option maxRecDepth 100000
set_option maxHeartbeats 2000000
/-! Dn, part E: subscripts, slices, displays, tests, built-in calls. -/
namespace Dn
open PySem PySem.Spec PyProof.Rows L2
section
variable {c : Ct} {X : Cx} {W : WX} {σ : Sl} {G H : Hp} {e a b : Expr} {es : List Expr} {pos : Pos} {K : PySem.W.Frag} {mg : MG}

/-! ### x[i] -/
theorem RepL.atI {ds : List D} {vs : List V} {i : Int} {d : D} (h : RepL K mg G ds vs) (e : L2.atI ds i = some d) : ∃ v, L2.atI vs i = some v ∧ Rep K mg G d v := by
  unfold L2.atI at e ⊢
  rw [← h.length]
  cases e1 : ixN ds.length i with
  | none => rw [e1] at e; cases e
  | some j =>
    rw [e1] at e
    exact h.get (i := j) e
def fIx : D → D → Option D
  | .lst ds, .int i => L2.atI ds i
  | .fl ds, .int i => L2.atI ds i
  | .tup ds, .int i => L2.atI ds i
  | .str x, .int i => if x.length ≤ 16777216 then (L2.atI x.cps.toList i).map fun k => .str ⟨#[k]⟩ else none
  | _, _ => none
theorem ops_ix : OpS c (rIx c.K) fIx := by
  intro a b d x y G H Q e s va vb q
  cases b <;> (try (cases a <;> simp only [fIx, reduceCtorEq] at e; done))
  rename_i i
  simp only [View] at vb
  subst vb
  cases a <;> simp only [fIx, reduceCtorEq] at e
  · simp only [View] at va
    subst va
    split at e
    · rename_i hz
      rw [Option.map_eq_some_iff] at e
      obtain ⟨k, e, rfl⟩ := e
      exact .inr (.inr ⟨_, _, k, rfl, rfl, by rw [sl_eq]; exact hz, e, q _ (by simp only [Rep])⟩)
    · cases e
  · simp only [View] at va
    obtain ⟨p, vs, rfl, h1, r1⟩ := va
    obtain ⟨v, ev, rv⟩ := r1.atI e
    exact .inl ⟨p, vs, i, v, rfl, rfl, .of h1, ev, q v rv⟩
  · simp only [View] at va
    obtain ⟨p, vs, rfl, h1, r1⟩ := va
    obtain ⟨v, ev, rv⟩ := r1.atI e
    exact .inl ⟨p, vs, i, v, rfl, rfl, SqL.sub s h1, ev, q v rv⟩
  · simp only [View] at va
    obtain ⟨p, vs, rfl, h1, r1⟩ := va
    obtain ⟨v, ev, rv⟩ := r1.atI e
    exact .inr (.inl ⟨p, vs, i, v, rfl, rfl, SqT.sub s h1, ev, q v rv⟩)
theorem de_ix {ma mb : M Hd} (hk : c.K = X.K) (ha : DH c X W a ma) (hb : DH c X W b mb) (hs : PlainIx b := by exact fun _ _ => rfl) : DE c X W (.Subscript a b pos) (mB fIx ma mb) :=
  pe_weak (pe_ix (r := rIx c.K) (hk ▸ ix_seq) ha hb hs) (mB_s ops_ix)

/-! ### x[i:j] -/
def tO (c : Ct) (W : WX) (m : M (Option Int)) : TO := fun σ H Q => ∃ st G, R c st σ H G ∧ Po c W σ G (m st) fun o st' H' G' => Q o H'
abbrev DO (c : Ct) (X : Cx) (W : WX) (e : Option Expr) (m : M (Option Int)) : Prop := PO X e (tO c W m)
theorem po_weak {e : Option Expr} {t t' : TO} (h : PO X e t) (w : ∀ σ H Q, t' σ H Q → t σ H Q) : PO X e t' := by
  cases h with
  | mk f => exact ⟨fun pins s σ H Q I q => f pins s σ H Q I (w σ H Q q)⟩
theorem do_none : DO c X W none (ret none) := po_weak po_none fun σ H Q ⟨st, G, r, p⟩ => p.done r
def mPart (m : M D) : M (Option Int) := bnd m fun d => match d with
  | .int i => ret (some i)
  | _ => fun _ => .stuck
theorem do_some {m : M D} (h : DE c X W e m) : DO c X W (some e) (mPart m) := po_weak (po_some h) fun σ H Q ⟨st, G, r, p⟩ => ⟨st, G, r, (Po.seq p).mono fun d s1 H1 G1 l1 r1 ⟨_, p1⟩ v rep => by
  cases d <;> first
    | exact p1.elim
    | (simp only [Rep] at rep
       exact ⟨_, rep, p1.done r1⟩)⟩
def cutL {α : Type} (xs : List α) (lo hi : Option Int) : List α := (xs.drop (HT.sIx xs.length 0 lo)).take (HT.sIx xs.length xs.length hi - HT.sIx xs.length 0 lo)
theorem RepL.cut {ds : List D} {vs : List V} (h : RepL K mg G ds vs) (lo hi : Option Int) : RepL K mg G (cutL ds lo hi) (cutV vs lo hi) := by
  unfold cutL cutV
  rw [← h.length]
  exact (h.drop _).take _
def mSlice (f : D → Option Int → Option Int → Option D) (mh : M Hd) (ml mu : M (Option Int)) : M D := bnd mh fun h => bnd ml fun l => bnd mu fun u => bnd (look h) fun a => ofO (f a l u)
def fSlL (a : D) (l u : Option Int) : Option D := match a with
  | .lst ds => some (.lst (cutL ds l u))
  | _ => none
def fSlT (a : D) (l u : Option Int) : Option D := match a with
  | .tup ds => some (.tup (cutL ds l u))
  | _ => none
theorem dn_slice {mh : M Hd} {ml mu : M (Option Int)} {lo hi : Option Expr} {p2 : Pos} (hk : c.K = X.K) (he : DH c X W e mh) (hl : DO c X W lo ml) (hu : DO c X W hi mu) : DN c X W (.Subscript e (.Slice lo hi none p2) pos) (mSlice fSlL mh ml mu) :=
  pe_weak (pe_slice sl_list he hl hu) fun σ H Q ⟨st, G, r, p⟩ => ⟨st, G, r, (Po.seq p).mono fun h s1 H1 G1 l1 r1 ⟨_, p1⟩ x hx => ⟨s1, G1, r1, (Po.seq p1).mono fun l s2 H2 G2 l2 r2 ⟨_, p2⟩ => ⟨s2, G2, r2, (Po.seq p2).mono fun u s3 H3 G3 l3 r3 ⟨_, p3⟩ => by
    obtain ⟨d, vd, p4⟩ := Po.see r3 ((hx.le l2).le l3) p3
    cases d <;> try exact p4.elim
    simp only [View] at vd
    obtain ⟨q, vs, rfl, h1, rl⟩ := vd
    refine ⟨q, vs, rfl, .of h1, fun p' hp => ?_⟩
    exact p4 _ G3 (GLe.refl _) (r3.new hp) p' (r3.fre_new hp (by simp only [Own]; exact ⟨_, upd_same, rl.cut _ _⟩))⟩⟩⟩
theorem cut_whole {α : Type} {xs : List α} {lo hi : Option Int} (h : HT.sIx xs.length 0 lo = 0 ∧ HT.sIx xs.length xs.length hi = xs.length) : cutL xs lo hi = xs := by
  unfold cutL
  rw [h.1, h.2]
  simp
theorem de_slice {mh : M Hd} {ml mu : M (Option Int)} {lo hi : Option Expr} {p2 : Pos} (hk : c.K = X.K) (he : DH c X W e mh) (hl : DO c X W lo ml) (hu : DO c X W hi mu) : DE c X W (.Subscript e (.Slice lo hi none p2) pos) (mSlice fSlT mh ml mu) :=
  pe_weak (pe_slice sl_tupA he hl hu) fun σ H Q ⟨st, G, r, p⟩ => ⟨st, G, r, (Po.seq p).mono fun h s1 H1 G1 l1 r1 ⟨_, p1⟩ x hx => ⟨s1, G1, r1, (Po.seq p1).mono fun l s2 H2 G2 l2 r2 ⟨_, p2⟩ => ⟨s2, G2, r2, (Po.seq p2).mono fun u s3 H3 G3 l3 r3 ⟨_, p3⟩ => by
    obtain ⟨d, vd, p4⟩ := Po.see r3 ((hx.le l2).le l3) p3
    cases d <;> try exact p4.elim
    rename_i ds
    simp only [View] at vd
    obtain ⟨q, vs, rfl, h1, rl⟩ := vd
    have el := rl.length
    refine ⟨q, vs, rfl, hk ▸ SqT.sub r3.sub h1, fun w => ?_, fun w p' hp => ?_⟩
    · refine p4 _ G3 (GLe.refl _) r3 _ ?_
      rw [← el] at w
      rw [cut_whole w]
      simp only [Rep]
      exact ⟨q, vs, rfl, h1, rl⟩
    · refine p4 _ _ (gle_upd (r3.sub.none hp)) (r3.newD hp) _ ?_
      simp only [Rep]
      exact ⟨p', _, rfl, .of upd_same, RepL.le (gle_upd (r3.sub.none hp)) (rl.cut _ _)⟩⟩⟩⟩

/-! ### arguments, displays -/
def tA' (c : Ct) (W : WX) (m : M (List D)) : TA := fun σ H Q => ∃ st G, R c st σ H G ∧ Po c W σ G (m st) fun ds st' H' G' => ∀ vs, RepL c.K c.mg G' ds vs → Q vs H'
abbrev DA (c : Ct) (X : Cx) (W : WX) (es : List Expr) (m : M (List D)) : Prop := PA X es (tA' c W m)
def mCons (m : M D) (r : M (List D)) : M (List D) := bnd m fun d => bnd r fun ds => ret (d :: ds)
theorem da_nil : DA c X W [] (ret []) := pa_weak pa_nil fun σ H Q ⟨st, G, r, p⟩ => p.done r _ .nil
theorem da_cons {m : M D} {r : M (List D)} (h : DE c X W e m) (hr : DA c X W es r) (hs : starEach (e :: es) X.env = (false, eval e X.env) :: starEach es X.env := by rfl) : DA c X W (e :: es) (mCons m r) :=
  pa_weak (pa_cons h hr hs) fun σ H Q ⟨st, G, r, p⟩ => ⟨st, G, r, (Po.seq p).mono fun d s1 H1 G1 l1 r1 ⟨_, p1⟩ v rep => ⟨s1, G1, r1, (Po.seq p1).mono fun ds s2 H2 G2 l2 r2 ⟨_, p2⟩ vs reps => p2.done r2 _ (.cons (rep.le l2) reps)⟩⟩
def mLst (m : M (List D)) : M D := bnd m fun ds => if ds.length ≤ 16777216 then ret (.lst ds) else fun _ => .stuck
def mTup (m : M (List D)) : M D := bnd m fun ds => if ds.length ≤ 16777216 then ret (.tup ds) else fun _ => .stuck
theorem dn_lst {m : M (List D)} (h : DA c X W es m) : DN c X W (.List es pos) (mLst m) := pe_weak (pe_lst h) fun σ H Q ⟨st, G, r, p⟩ => ⟨st, G, r, (Po.seq p).mono fun ds s1 H1 G1 l1 r1 ⟨_, p1⟩ vs reps => by
  split at p1
  · rename_i hz
    refine ⟨by rw [← reps.length, sl_eq]; exact hz, fun q hq => ?_⟩
    exact p1 _ G1 (GLe.refl _) (r1.new hq) q (r1.fre_new hq (by simp only [Own]; exact ⟨_, upd_same, reps⟩))
  · exact p1.elim⟩
theorem de_tup {x1} {m : M (List D)} (h : DA c X W es m) : DE c X W (.Tuple es x1 pos) (mTup m) := pe_weak (pe_tup h) fun σ H Q ⟨st, G, r, p⟩ => ⟨st, G, r, (Po.seq p).mono fun ds s1 H1 G1 l1 r1 ⟨_, p1⟩ vs reps => by
  split at p1
  · rename_i hz
    refine ⟨by rw [← reps.length, sl_eq]; exact hz, fun q hq => ?_⟩
    refine p1 _ _ (gle_upd (r1.sub.none hq)) (r1.newD hq) _ ?_
    simp only [Rep]
    exact ⟨q, vs, rfl, .of upd_same, RepL.le (gle_upd (r1.sub.none hq)) reps⟩
  · exact p1.elim⟩

/-! ### tests, and, or, not, if -/
def mNot (m : M Bool) : M Bool := bnd m fun k => ret (!k)
def mAnd (m n : M Bool) : M Bool := bnd m fun k => if k then n else ret false
def mOr (m n : M Bool) : M Bool := bnd m fun k => if k then ret true else n
def ofB (m : M Bool) : M D := bnd m fun k => ret (.bl k)
abbrev DW (c : Ct) (X : Cx) (W : WX) (e : Expr) (m : M Bool) : Prop := PW X e (tB' c W m)
theorem pw_weak {e : Expr} {t t' : TT} (h : PW X e t) (w : ∀ σ H Q, t' σ H Q → t σ H Q) : PW X e t' := ⟨fun wh pins s σ H Q I q => h.run wh pins s σ H Q I (w σ H Q q)⟩
theorem dt_not {m : M Bool} (h : DT c X W a m) : DT c X W (.UnaryOp .Not a pos) (mNot m) := pt_weak (pt_not h) fun σ H Q ⟨st, G, r, p⟩ => ⟨st, G, r, (Po.seq p).mono fun k s1 H1 G1 l1 r1 ⟨_, p1⟩ => p1.done r1⟩
theorem dw_and1 {m : M Bool} (h : DT c X W a m) : DW c X W (.BoolOp .And [a] pos) m := pw_and1 h
theorem dw_or1 {m : M Bool} (h : DT c X W a m) : DW c X W (.BoolOp .Or [a] pos) m := pw_or1 h
theorem dw_and {m n : M Bool} (h : DT c X W a m) (k : DW c X W (.BoolOp .And (b :: es) pos) n) : DW c X W (.BoolOp .And (a :: b :: es) pos) (mAnd m n) := pw_weak (pw_and h k) fun σ H Q ⟨st, G, r, p⟩ => ⟨st, G, r, (Po.seq p).mono fun k s1 H1 G1 l1 r1 ⟨_, p1⟩ => by
  cases k with
  | true => exact ⟨s1, G1, r1, p1⟩
  | false => exact p1.done r1⟩
theorem dw_or {m n : M Bool} (h : DT c X W a m) (k : DW c X W (.BoolOp .Or (b :: es) pos) n) : DW c X W (.BoolOp .Or (a :: b :: es) pos) (mOr m n) := pw_weak (pw_or h k) fun σ H Q ⟨st, G, r, p⟩ => ⟨st, G, r, (Po.seq p).mono fun k s1 H1 G1 l1 r1 ⟨_, p1⟩ => by
  cases k with
  | true => exact p1.done r1
  | false => exact ⟨s1, G1, r1, p1⟩⟩
theorem dt_bool {m : M Bool} (h : DW c X W e m) : DT c X W e m := h.pt
/-- as values -/
def mNotV (m : M D) : M D := bnd m fun d => match d with
  | .bl k => ret (.bl (!k))
  | _ => fun _ => .stuck
def mAndV (m n : M D) : M D := bnd m fun d => match d with
  | .bl k => if k then n else ret (.bl false)
  | _ => fun _ => .stuck
def mOrV (m n : M D) : M D := bnd m fun d => match d with
  | .bl k => if k then ret (.bl true) else n
  | _ => fun _ => .stuck
theorem de_not {m : M D} (h : DE c X W a m) : DE c X W (.UnaryOp .Not a pos) (mNotV m) := pe_weak (pe_not h) fun σ H Q ⟨st, G, r, p⟩ => ⟨st, G, r, (Po.seq p).mono fun d s1 H1 G1 l1 r1 ⟨_, p1⟩ v rep => by
  cases d <;> first
    | exact p1.elim
    | (simp only [Rep] at rep
       exact ⟨_, rep, p1.done r1 _ (by simp only [Rep])⟩)⟩
theorem de_one {op} {m : M D} (h : DE c X W a m) : DE c X W (.BoolOp op [a] pos) m := pe_one h
theorem de_and {m n : M D} (h : DE c X W a m) (k : DE c X W (.BoolOp .And (b :: es) pos) n) : DE c X W (.BoolOp .And (a :: b :: es) pos) (mAndV m n) := pe_weak (pe_and h k) fun σ H Q ⟨st, G, r, p⟩ => ⟨st, G, r, (Po.seq p).mono fun d s1 H1 G1 l1 r1 ⟨_, p1⟩ v rep => by
  cases d with
  | bl k =>
    simp only [Rep] at rep
    refine ⟨k, rep, ?_⟩
    cases k with
    | true => exact ⟨s1, G1, r1, p1⟩
    | false => exact p1.done r1 _ (by simp only [Rep])
  | _ => exact p1.elim⟩
theorem de_or {m n : M D} (h : DE c X W a m) (k : DE c X W (.BoolOp .Or (b :: es) pos) n) : DE c X W (.BoolOp .Or (a :: b :: es) pos) (mOrV m n) := pe_weak (pe_or h k) fun σ H Q ⟨st, G, r, p⟩ => ⟨st, G, r, (Po.seq p).mono fun d s1 H1 G1 l1 r1 ⟨_, p1⟩ v rep => by
  cases d with
  | bl k =>
    simp only [Rep] at rep
    refine ⟨k, rep, ?_⟩
    cases k with
    | true => exact p1.done r1 _ (by simp only [Rep])
    | false => exact ⟨s1, G1, r1, p1⟩
  | _ => exact p1.elim⟩
def mIf (t : M Bool) (m n : M D) : M D := bnd t fun k => if k then m else n
theorem de_if {t : Expr} {mt : M Bool} {m n : M D} (ht : DT c X W t mt) (ha : DE c X W a m) (hb : DE c X W b n) : DE c X W (.IfExp t a b pos) (mIf mt m n) := pe_weak (pe_ifExp ht ha hb) fun σ H Q ⟨st, G, r, p⟩ => ⟨st, G, r, (Po.seq p).mono fun k s1 H1 G1 l1 r1 ⟨_, p1⟩ => by
  cases k with
  | true => exact ⟨s1, G1, r1, p1⟩
  | false => exact ⟨s1, G1, r1, p1⟩⟩
theorem dn_if {t : Expr} {mt : M Bool} {m n : M D} (ht : DT c X W t mt) (ha : DN c X W a m) (hb : DN c X W b n) : DN c X W (.IfExp t a b pos) (mIf mt m n) := pe_weak (pe_ifExp ht ha hb) fun σ H Q ⟨st, G, r, p⟩ => ⟨st, G, r, (Po.seq p).mono fun k s1 H1 G1 l1 r1 ⟨_, p1⟩ => by
  cases k with
  | true => exact ⟨s1, G1, r1, p1⟩
  | false => exact ⟨s1, G1, r1, p1⟩⟩
/-- -n -/
def mNeg (m : M D) : M D := bnd m fun d => match d with
  | .int i => ret (.int (-i))
  | _ => fun _ => .stuck
theorem de_neg {m : M D} (h : DE c X W a m) : DE c X W (.UnaryOp .USub a pos) (mNeg m) := pe_weak (pe_un un_neg h) fun σ H Q ⟨st, G, r, p⟩ => ⟨st, G, r, (Po.seq p).mono fun d s1 H1 G1 l1 r1 ⟨_, p1⟩ v rep => by
  cases d <;> first
    | exact p1.elim
    | (simp only [Rep] at rep
       exact ⟨_, rep, p1.done r1 _ (by simp only [Rep])⟩)⟩
/-- a value's truth -/
def truD : D → Option Bool
  | .non => some false
  | .bl b => some b
  | .int i => some (i != 0)
  | .str x => if x.length ≤ 16777216 then some ((x.length : Int) != 0) else none
  | .lst ds => some !ds.isEmpty
  | .fl ds => some !ds.isEmpty
  | .tup ds => some !ds.isEmpty
  | _ => none
def mTru (m : M Hd) : M Bool := bnd m fun h => bnd (look h) fun d => ofO (truD d)
theorem empty_of {ds : List D} {vs : List V} (h : RepL K mg G ds vs) : ds.isEmpty = vs.isEmpty := by
  have := h.length
  cases ds <;> cases vs <;> first | rfl | (simp at this)
theorem dt_tru {m : M Hd} (hk : c.K = X.K) (h : DH c X W a m) (he : ∀ whole, isTrue a X.env whole = (do let v ← whole; standAt a.pos; holding [v] (truthy v)) := by intro _; rfl) : DT c X W a (mTru m) := pt_weak (pt_truth h he) fun σ H Q ⟨st, G, r, p⟩ => ⟨st, G, r, (Po.seq p).mono fun h s1 H1 G1 l1 r1 ⟨_, p1⟩ x hx => by
  obtain ⟨d, vd, p2⟩ := Po.see r1 hx p1
  obtain ⟨k, e, q⟩ := Po.opt r1 p2
  cases d <;> simp only [truD, reduceCtorEq, Option.some.injEq] at e <;> simp only [View] at vd
  · subst vd e; exact ⟨false, rfl, q⟩
  · subst vd e; exact ⟨_, rfl, q⟩
  · subst vd e; exact ⟨_, rfl, q⟩
  · subst vd
    split at e
    · rename_i hz
      cases e
      exact ⟨_, ⟨by rw [sl_eq]; exact hz, rfl⟩, q⟩
    · cases e
  · obtain ⟨a, vs, rfl, h1, rl⟩ := vd
    subst e
    exact ⟨_, .inl ⟨vs, .of h1, rfl⟩, by rw [← empty_of rl]; exact q⟩
  · obtain ⟨a, vs, rfl, h1, rl⟩ := vd
    subst e
    exact ⟨_, .inl ⟨vs, hk ▸ SqL.sub r1.sub h1, rfl⟩, by rw [← empty_of rl]; exact q⟩
  · obtain ⟨a, vs, rfl, h1, rl⟩ := vd
    subst e
    exact ⟨_, .inr (.inl ⟨vs, hk ▸ SqT.sub r1.sub h1, rfl⟩), by rw [← empty_of rl]; exact q⟩⟩
end
end Dn

set_option Elab.async false
set_option linter.all false
set_option maxRecDepth 100000
set_option maxHeartbeats 2000000
/-! Dn, part F: built-in calls. -/
namespace Dn
open PySem PySem.Spec PyProof.Rows L2
section
variable {c : Ct} {X : Cx} {W : WX} {σ : Sl} {G H : Hp} {e a b : Expr} {es : List Expr} {pos p : Pos} {K : PySem.W.Frag} {mg : MG} {x : Str} {bid T : String} {r : List V → Hp → VK → Prop}

def CalS (c : Ct) (r : List V → Hp → VK → Prop) (f : D → Option D) : Prop := ∀ (a d : D) (x : V) (G H : Hp) (Q : VK), f a = some d → Sub c.lk G H → View c G H a x → (∀ v, Rep c.K c.mg G d v → Q v H) → r [x] H Q
def CalN (c : Ct) (r : List V → Hp → VK → Prop) (f : D → Option D) : Prop := ∀ (a d : D) (x : V) (G H : Hp) (Q : VK), f a = some d → Sub c.lk G H → View c G H a x → (∀ p o, H p = none → Own c.K c.mg G (upd H p o) p d → Q (.ref p) (upd H p o)) → r [x] H Q
def CalT (c : Ct) (r : List V → Hp → VK → Prop) (f : D → Option D) : Prop := ∀ (a d : D) (x : V) (G H : Hp) (Q : VK), f a = some d → Sub c.lk G H → View c G H a x → (∀ v, Rep c.K c.mg G d v → Q v H) →
  (∀ p o, H p = none → Rep c.K c.mg (upd G p o) d (.ref p) → Q (.ref p) (upd H p o)) → r [x] H Q
def Cal2 (c : Ct) (r : List V → Hp → VK → Prop) (f : D → D → Option D) : Prop := ∀ (a b d : D) (x y : V) (G H : Hp) (Q : VK), f a b = some d → Sub c.lk G H → View c G H a x → View c G H b y → (∀ v, Rep c.K c.mg G d v → Q v H) → r [x, y] H Q
def mC1 (f : D → Option D) (m : M Hd) : M D := bnd m fun h => bnd (look h) fun a => ofO (f a)
theorem mC1_s {f : D → Option D} {m : M Hd} (ho : CalS c r f) : ∀ σ H Q, tM c W (mC1 f m) σ H Q → tCB r (tCons (tH c W m) tNil) σ H Q := by
  rintro σ H Q ⟨st, G, hr, p⟩
  refine ⟨st, G, hr, (Po.seq p).mono fun h s1 H1 G1 l1 r1 ⟨_, p1⟩ x hx => ?_⟩
  obtain ⟨a, va, p3⟩ := Po.see r1 hx p1
  obtain ⟨d, e, q⟩ := Po.opt r1 p3
  exact ho a d x G1 H1 Q e r1.sub va q
theorem mC1_n {f : D → Option D} {m : M Hd} (ho : CalN c r f) : ∀ σ H Q, tN c W (mC1 f m) σ H Q → tCB r (tCons (tH c W m) tNil) σ H Q := by
  rintro σ H Q ⟨st, G, hr, p⟩
  refine ⟨st, G, hr, (Po.seq p).mono fun h s1 H1 G1 l1 r1 ⟨_, p1⟩ x hx => ?_⟩
  obtain ⟨a, va, p3⟩ := Po.see r1 hx p1
  unfold ofO at p3
  cases e : f a with
  | none => rw [e] at p3; exact p3.elim
  | some d =>
    rw [e] at p3
    exact ho a d x G1 H1 Q e r1.sub va fun p o hp ow => p3 _ G1 (GLe.refl G1) (r1.new hp) p (r1.fre_new hp ow)
theorem mC1_t {f : D → Option D} {m : M Hd} (ho : CalT c r f) : ∀ σ H Q, tM c W (mC1 f m) σ H Q → tCB r (tCons (tH c W m) tNil) σ H Q := by
  rintro σ H Q ⟨st, G, hr, p⟩
  refine ⟨st, G, hr, (Po.seq p).mono fun h s1 H1 G1 l1 r1 ⟨_, p1⟩ x hx => ?_⟩
  obtain ⟨a, va, p3⟩ := Po.see r1 hx p1
  unfold ofO at p3
  cases e : f a with
  | none => rw [e] at p3; exact p3.elim
  | some d =>
    rw [e] at p3
    exact ho a d x G1 H1 Q e r1.sub va (p3 H1 G1 (GLe.refl G1) r1) fun p o hp ow => p3 _ _ (gle_upd (r1.sub.none hp)) (r1.newD hp) _ ow
theorem mC2_s {f : D → D → Option D} {ma mb : M Hd} (ho : Cal2 c r f) : ∀ σ H Q, tM c W (mB f ma mb) σ H Q → tCB r (tCons (tH c W ma) (tCons (tH c W mb) tNil)) σ H Q := by
  rintro σ H Q ⟨st, G, hr, p⟩
  refine ⟨st, G, hr, (Po.seq p).mono fun h s1 H1 G1 l1 r1 ⟨_, p1⟩ x hx => ?_⟩
  refine ⟨s1, G1, r1, (Po.seq p1).mono fun k s2 H2 G2 l2 r2 ⟨_, p2⟩ y hy => ?_⟩
  obtain ⟨a, va, p3⟩ := Po.see r2 (hx.le l2) p2
  obtain ⟨b, vb, p4⟩ := Po.see r2 hy p3
  obtain ⟨d, e, q⟩ := Po.opt r2 p4
  exact ho a b d x y G2 H2 Q e r2.sub va vb q
section
variable (hg : Gl X x) (hm : X.mg x = none)
theorem de_callB {f : D → Option D} {m : M Hd} (hc : CallR X (.builtin bid) r) (ho : CalS c r f) (hg : Gl X x) (hm : X.mg x = none) (hv : bootBuiltins x = some (.builtin bid)) (ha : DH c X W a m) (hn : x ≠ "__name__" := by decide) (hdb : (x == ("__debug__" : Str)) = false := by decide)
    (hs : starEach [a] X.env = (false, eval a X.env) :: starEach [] X.env := by rfl) (hpl : (backTo pos (starEach [] X.env)).any (·.1) = false := by rfl) : DE c X W (.Call (.Name x p) [a] [] pos) (mC1 f m) :=
  pe_weak (pe_callB hc hg hm hv (pa_cons ha pa_nil hs) hn hdb hs hpl) (mC1_s ho)
theorem de_callTy {f : D → Option D} {m : M Hd} (hc : CallR X (.type T) r) (ho : CalS c r f) (hg : Gl X x) (hm : X.mg x = none) (hv : bootBuiltins x = some (.type T)) (ha : DH c X W a m) (hn : x ≠ "__name__" := by decide) (hdb : (x == ("__debug__" : Str)) = false := by decide)
    (hs : starEach [a] X.env = (false, eval a X.env) :: starEach [] X.env := by rfl) (hpl : (backTo pos (starEach [] X.env)).any (·.1) = false := by rfl) : DE c X W (.Call (.Name x p) [a] [] pos) (mC1 f m) :=
  pe_weak (pe_callTy hc hg hm hv (pa_cons ha pa_nil hs) hn hdb hs hpl) (mC1_s ho)
theorem dn_callTy {f : D → Option D} {m : M Hd} (hc : CallR X (.type T) r) (ho : CalN c r f) (hg : Gl X x) (hm : X.mg x = none) (hv : bootBuiltins x = some (.type T)) (ha : DH c X W a m) (hn : x ≠ "__name__" := by decide) (hdb : (x == ("__debug__" : Str)) = false := by decide)
    (hs : starEach [a] X.env = (false, eval a X.env) :: starEach [] X.env := by rfl) (hpl : (backTo pos (starEach [] X.env)).any (·.1) = false := by rfl) : DN c X W (.Call (.Name x p) [a] [] pos) (mC1 f m) :=
  pe_weak (pe_callTy hc hg hm hv (pa_cons ha pa_nil hs) hn hdb hs hpl) (mC1_n ho)
theorem dn_callB {f : D → Option D} {m : M Hd} (hc : CallR X (.builtin bid) r) (ho : CalN c r f) (hg : Gl X x) (hm : X.mg x = none) (hv : bootBuiltins x = some (.builtin bid)) (ha : DH c X W a m) (hn : x ≠ "__name__" := by decide) (hdb : (x == ("__debug__" : Str)) = false := by decide)
    (hs : starEach [a] X.env = (false, eval a X.env) :: starEach [] X.env := by rfl) (hpl : (backTo pos (starEach [] X.env)).any (·.1) = false := by rfl) : DN c X W (.Call (.Name x p) [a] [] pos) (mC1 f m) :=
  pe_weak (pe_callB hc hg hm hv (pa_cons ha pa_nil hs) hn hdb hs hpl) (mC1_n ho)
theorem dt_callTy {f : D → Option D} {m : M Hd} (hc : CallR X (.type T) r) (ho : CalT c r f) (hg : Gl X x) (hm : X.mg x = none) (hv : bootBuiltins x = some (.type T)) (ha : DH c X W a m) (hn : x ≠ "__name__" := by decide) (hdb : (x == ("__debug__" : Str)) = false := by decide)
    (hs : starEach [a] X.env = (false, eval a X.env) :: starEach [] X.env := by rfl) (hpl : (backTo pos (starEach [] X.env)).any (·.1) = false := by rfl) : DE c X W (.Call (.Name x p) [a] [] pos) (mC1 f m) :=
  pe_weak (pe_callTy hc hg hm hv (pa_cons ha pa_nil hs) hn hdb hs hpl) (mC1_t ho)
theorem de_callB2 {f : D → D → Option D} {ma mb : M Hd} (hc : CallR X (.builtin bid) r) (ho : Cal2 c r f) (hg : Gl X x) (hm : X.mg x = none) (hv : bootBuiltins x = some (.builtin bid)) (ha : DH c X W a ma) (hb : DH c X W b mb) (hn : x ≠ "__name__" := by decide) (hdb : (x == ("__debug__" : Str)) = false := by decide)
    (hs : starEach [a, b] X.env = (false, eval a X.env) :: starEach [b] X.env := by rfl) (hs2 : starEach [b] X.env = (false, eval b X.env) :: starEach [] X.env := by rfl) (hpl : (backTo pos (starEach [b] X.env)).any (·.1) = false := by rfl) : DE c X W (.Call (.Name x p) [a, b] [] pos) (mB f ma mb) :=
  pe_weak (pe_callB hc hg hm hv (pa_cons ha (pa_cons hb pa_nil hs2) hs) hn hdb hs hpl) (mC2_s ho)
end

/-! ### the rules -/
def rLen' (K : PySem.W.Frag) : List V → Hp → VK → Prop := fun xs H Q => (∃ p ys, xs = [.ref p] ∧ (SqL K H p ys ∨ SqT K H p ys) ∧ Q (.int ys.length) H) ∨ (∃ z, xs = [.str z] ∧ z.length ≤ sizeLine ∧ Q (.int z.length) H)
theorem call_len' : CallR X (.builtin "len") (rLen' X.K) := call_len_seq.or call_len_str
theorem cals_len : CalS c (rLen' c.K) fLen := by
  intro a d x G H Q e s va q
  cases a <;> simp only [fLen, reduceCtorEq, Option.some.injEq] at e <;> simp only [View] at va
  · subst va
    split at e
    · rename_i hz
      cases e
      exact .inr ⟨_, rfl, by rw [sl_eq]; exact hz, q _ (by simp only [Rep])⟩
    · cases e
  · obtain ⟨p, vs, rfl, h1, rl⟩ := va
    subst e
    exact .inl ⟨p, vs, rfl, .inl (.of h1), q _ (by simp only [Rep]; rw [rl.length])⟩
  · obtain ⟨p, vs, rfl, h1, rl⟩ := va
    subst e
    exact .inl ⟨p, vs, rfl, .inl (SqL.sub s h1), q _ (by simp only [Rep]; rw [rl.length])⟩
  · obtain ⟨p, vs, rfl, h1, rl⟩ := va
    subst e
    exact .inl ⟨p, vs, rfl, .inr (SqT.sub s h1), q _ (by simp only [Rep]; rw [rl.length])⟩
def fInt : D → Option D
  | .int i => some (.int i)
  | .bl b => some (.int (if b then 1 else 0))
  | _ => none
theorem cals_int : CalS c (fun xs H Q => (∃ i, xs = [.int i] ∧ Q (.int i) H) ∨ ∃ k, xs = [.bl k] ∧ Q (.int (if k then 1 else 0)) H) fInt := by
  intro a d x G H Q e s va q
  cases a <;> simp only [fInt, reduceCtorEq, Option.some.injEq] at e <;> simp only [View] at va
  · subst va e
    exact .inr ⟨_, rfl, q _ (by simp only [Rep])⟩
  · subst va e
    exact .inl ⟨_, rfl, q _ (by simp only [Rep])⟩
theorem cal2_max : Cal2 c (fun xs H Q => ∃ i j, xs = [.int i, .int j] ∧ Q (.int (if j > i then j else i)) H) (fI fun i j => .int (if j > i then j else i)) := by
  intro a b d x y G H Q e s va vb q
  cases a <;> cases b <;> simp only [fI, reduceCtorEq, Option.some.injEq] at e
  simp only [View] at va vb
  subst va vb e
  exact ⟨_, _, rfl, q _ (by simp only [Rep])⟩
theorem cal2_min : Cal2 c (fun xs H Q => ∃ i j, xs = [.int i, .int j] ∧ Q (.int (if j < i then j else i)) H) (fI fun i j => .int (if j < i then j else i)) := by
  intro a b d x y G H Q e s va vb q
  cases a <;> cases b <;> simp only [fI, reduceCtorEq, Option.some.injEq] at e
  simp only [View] at va vb
  subst va vb e
  exact ⟨_, _, rfl, q _ (by simp only [Rep])⟩
/-- the bools, the ints, the texts of a list -/
def blsOf : List D → Option (List Bool)
  | [] => some []
  | .bl b :: ds => (blsOf ds).map (b :: ·)
  | _ => none
def intsOf : List D → Option (List Int)
  | [] => some []
  | .int b :: ds => (intsOf ds).map (b :: ·)
  | _ => none
def strsOf : List D → Option (List Str)
  | [] => some []
  | .str b :: ds => (strsOf ds).map (b :: ·)
  | _ => none
theorem bls_rep : ∀ {ds : List D} {vs : List V} {bs : List Bool}, RepL K mg G ds vs → blsOf ds = some bs → vs = bs.map V.bl
  | [], vs, bs, h, e => by
    simp only [RepL] at h
    simp only [blsOf, Option.some.injEq] at e
    subst h e
    rfl
  | d :: ds, vs, bs, h, e => by
    simp only [RepL] at h
    obtain ⟨v, r, rfl, h1, h2⟩ := h
    cases d <;> simp only [blsOf, reduceCtorEq] at e
    rw [Option.map_eq_some_iff] at e
    obtain ⟨bs', e, rfl⟩ := e
    simp only [Rep] at h1
    rw [bls_rep h2 e, h1]
    rfl
theorem ints_rep : ∀ {ds : List D} {vs : List V} {bs : List Int}, RepL K mg G ds vs → intsOf ds = some bs → vs = bs.map V.int
  | [], vs, bs, h, e => by
    simp only [RepL] at h
    simp only [intsOf, Option.some.injEq] at e
    subst h e
    rfl
  | d :: ds, vs, bs, h, e => by
    simp only [RepL] at h
    obtain ⟨v, r, rfl, h1, h2⟩ := h
    cases d <;> simp only [intsOf, reduceCtorEq] at e
    rw [Option.map_eq_some_iff] at e
    obtain ⟨bs', e, rfl⟩ := e
    simp only [Rep] at h1
    rw [ints_rep h2 e, h1]
    rfl
theorem strs_rep : ∀ {ds : List D} {vs : List V} {bs : List Str}, RepL K mg G ds vs → strsOf ds = some bs → vs = bs.map V.str
  | [], vs, bs, h, e => by
    simp only [RepL] at h
    simp only [strsOf, Option.some.injEq] at e
    subst h e
    rfl
  | d :: ds, vs, bs, h, e => by
    simp only [RepL] at h
    obtain ⟨v, r, rfl, h1, h2⟩ := h
    cases d <;> simp only [strsOf, reduceCtorEq] at e
    rw [Option.map_eq_some_iff] at e
    obtain ⟨bs', e, rfl⟩ := e
    simp only [Rep] at h1
    rw [strs_rep h2 e, h1]
    rfl
def lstOf : D → Option (List D)
  | .lst ds => some ds
  | _ => none
theorem lst_view {d : D} {x : V} {ds : List D} (h : View c G H d x) (e : lstOf d = some ds) : ∃ a vs, x = .ref a ∧ H a = some (.lst vs) ∧ RepL c.K c.mg G ds vs := by
  cases d <;> simp only [lstOf, reduceCtorEq, Option.some.injEq] at e
  subst e
  simp only [View] at h
  exact h
def fAny (d : D) : Option D := ((lstOf d).bind blsOf).map fun bs => .bl (bs.any id)
def fAll (d : D) : Option D := ((lstOf d).bind blsOf).map fun bs => .bl (bs.all id)
def fSum (d : D) : Option D := ((lstOf d).bind intsOf).map fun bs => .int bs.sum
theorem cals_any : CalS c (rAny c.K) fAny := by
  intro a d x G H Q e s va q
  simp only [fAny, Option.map_eq_some_iff, Option.bind_eq_some_iff] at e
  obtain ⟨bs, ⟨ds, e1, e2⟩, rfl⟩ := e
  obtain ⟨p, vs, rfl, h1, rl⟩ := lst_view va e1
  have := bls_rep rl e2
  subst this
  exact ⟨p, bs, rfl, .of h1, q _ (by simp only [Rep])⟩
theorem cals_all : CalS c (rAll c.K) fAll := by
  intro a d x G H Q e s va q
  simp only [fAll, Option.map_eq_some_iff, Option.bind_eq_some_iff] at e
  obtain ⟨bs, ⟨ds, e1, e2⟩, rfl⟩ := e
  obtain ⟨p, vs, rfl, h1, rl⟩ := lst_view va e1
  have := bls_rep rl e2
  subst this
  exact ⟨p, bs, rfl, .of h1, q _ (by simp only [Rep])⟩
theorem cals_sum : CalS c (rSum c.K) fSum := by
  intro a d x G H Q e s va q
  simp only [fSum, Option.map_eq_some_iff, Option.bind_eq_some_iff] at e
  obtain ⟨bs, ⟨ds, e1, e2⟩, rfl⟩ := e
  obtain ⟨p, vs, rfl, h1, rl⟩ := lst_view va e1
  have := ints_rep rl e2
  subst this
  exact ⟨p, bs, rfl, .of h1, q _ (by simp only [Rep])⟩
def fListOf (d : D) : Option D := (seqOf d).map .lst
theorem caln_list : CalN c (fun xs H Q => ∃ p ys, xs = [.ref p] ∧ (SqL c.K H p ys ∨ SqT c.K H p ys) ∧ ∀ l, H l = none → Q (.ref l) (upd H l (.lst ys))) fListOf := by
  intro a d x G H Q e s va q
  simp only [fListOf, Option.map_eq_some_iff] at e
  obtain ⟨ds, e1, rfl⟩ := e
  obtain ⟨p, vs, rfl, h1, rl⟩ := seq_view s va e1
  exact ⟨p, vs, rfl, h1, fun l hl => q l _ hl (by simp only [Own]; exact ⟨_, upd_same, rl⟩)⟩
def fTupOf : D → Option D
  | .lst ds => some (.tup ds)
  | .fl ds => some (.tup ds)
  | .tup ds => some (.tup ds)
  | _ => none
theorem calt_tuple : CalT c (fun xs H Q => ∃ p ys, xs = [.ref p] ∧ ((SqL c.K H p ys ∧ ∀ l, H l = none → Q (.ref l) (upd H l (.tup ys))) ∨ (SqT c.K H p ys ∧ Q (.ref p) H))) fTupOf := by
  intro a d x G H Q e s va q q2
  have go : ∀ {ds : List D} {vs : List V} {p : Addr}, RepL c.K c.mg G ds vs → H p = none → Rep c.K c.mg (upd G p (.tup vs)) (.tup ds) (.ref p) := fun rl hp => by
    simp only [Rep]
    exact ⟨_, _, rfl, .of upd_same, RepL.le (gle_upd (s.none hp)) rl⟩
  cases a <;> simp only [fTupOf, reduceCtorEq, Option.some.injEq] at e <;> subst e <;> simp only [View] at va
  · obtain ⟨p, vs, rfl, h1, rl⟩ := va
    exact ⟨p, vs, rfl, .inl ⟨.of h1, fun l hl => q2 l _ hl (go rl hl)⟩⟩
  · obtain ⟨p, vs, rfl, h1, rl⟩ := va
    exact ⟨p, vs, rfl, .inl ⟨SqL.sub s h1, fun l hl => q2 l _ hl (go rl hl)⟩⟩
  · obtain ⟨p, vs, rfl, h1, rl⟩ := va
    exact ⟨p, vs, rfl, .inr ⟨SqT.sub s h1, q _ (by simp only [Rep]; exact ⟨p, vs, rfl, h1, rl⟩)⟩⟩

/-! ### isinstance of built-in types -/
def tyD : D → Option String
  | .non => some "NoneType"
  | .bl _ => some "bool"
  | .int _ => some "int"
  | .str _ => some "str"
  | .lst _ => some "list"
  | .tup _ => some "tuple"
  | .dK _ _ => some "dict"
  | _ => none
def isiT (T : String) (d : D) : Option Bool := (tyD d).bind fun t => kitB t T
theorem tyX_view {d : D} {x : V} {t : String} (s : Sub c.lk G H) (h : View c G H d x) (e : tyD d = some t) : TyX c.K H x (.type t) := by
  cases d <;> simp only [tyD, reduceCtorEq, Option.some.injEq] at e <;> subst e <;> simp only [View] at h
  · subst h; exact .base .non
  · subst h; exact .base (.bl _)
  · subst h; exact .base (.int _)
  · subst h; exact .base (.str _)
  · obtain ⟨a, vs, rfl, h1, _⟩ := h; exact .base (.lst h1)
  · obtain ⟨a, vs, rfl, h1, _⟩ := h
    rcases SqT.sub s h1 with (h1 | ⟨o, h1⟩) | ⟨o, its, n, h1, h2, _⟩
    · exact .base (.tup h1)
    · exact .fTuple h1
    · exact .kTuple h1 h2
  · obtain ⟨a, vs, rfl, h1, _⟩ := h
    rcases h1 with h1 | ⟨o, h1⟩
    · exact .base (.dK h1)
    · exact .fDict h1

theorem cals_isi {T : String} : ∀ (a : D) (d : D) (x : V) (G H : Hp) (Q : VK), (isiT T a).map D.bl = some d → Sub c.lk G H → View c G H a x → (∀ v, Rep c.K c.mg G d v → Q v H) → rIsi c.K [x, .ty T] H Q := by
  intro a d x G H Q e s va q
  rw [Option.map_eq_some_iff] at e
  obtain ⟨k, e, rfl⟩ := e
  unfold isiT at e
  rw [Option.bind_eq_some_iff] at e
  obtain ⟨t, e1, e2⟩ := e
  exact ⟨x, .ty T, .type t, .type T, k, rfl, .ty T, tyX_view s va e1, kit_ty e2, q _ (by simp only [Rep])⟩
/-- isinstance(e, T), T a built-in type -/
theorem de_isi {T : String} {y : Str} {q : Pos} {m : M Hd} (hk : c.K = X.K) (hg : Gl X x) (hm : X.mg x = none) (hv : bootBuiltins x = some (.builtin "isinstance")) (hgT : Gl X y) (hmT : X.mg y = none) (hvT : bootBuiltins y = some (.type T)) (ha : DH c X W a m)
    (hn : x ≠ "__name__" := by decide) (hdb : (x == ("__debug__" : Str)) = false := by decide) (hn2 : y ≠ "__name__" := by decide) (hdb2 : (y == ("__debug__" : Str)) = false := by decide)
    (hs : starEach [a, .Name y q] X.env = (false, eval a X.env) :: starEach [.Name y q] X.env := by rfl) (hs2 : starEach [.Name y q] X.env = (false, eval (.Name y q) X.env) :: starEach [] X.env := by rfl) (hpl : (backTo pos (starEach [.Name y q] X.env)).any (·.1) = false := by rfl) :
    DE c X W (.Call (.Name x p) [a, .Name y q] [] pos) (mC1 (fun d => (isiT T d).map D.bl) m) :=
  pe_weak (pe_callB call_isi hg hm hv (pa_cons ha (pa_cons (pe_bltn (v := .ty T) hgT hmT hvT rfl hn2 hdb2) pa_nil hs2) hs) hn hdb hs hpl) fun σ H Q ⟨st, G, r, p⟩ => ⟨st, G, r, (Po.seq p).mono fun h s1 H1 G1 l1 r1 ⟨_, p1⟩ x hx => by
    obtain ⟨d, vd, p2⟩ := Po.see r1 hx p1
    obtain ⟨v, e, q⟩ := Po.opt r1 p2
    exact hk ▸ cals_isi d v x G1 H1 Q e r1.sub vd q⟩
/-- isinstance(e, (T, U)) -/
def isiT2 (T U : String) (d : D) : Option D := match isiT T d, isiT U d with
  | some k, some l => some (.bl (k || l))
  | _, _ => none
theorem de_isi2 {T U : String} {y z : Str} {q q2 pt : Pos} {kt : Nat} {m : M Hd} (hk : c.K = X.K) (hg : Gl X x) (hm : X.mg x = none) (hv : bootBuiltins x = some (.builtin "isinstance")) (hgT : Gl X y) (hmT : X.mg y = none) (hvT : bootBuiltins y = some (.type T)) (hgU : Gl X z) (hmU : X.mg z = none) (hvU : bootBuiltins z = some (.type U)) (ha : DH c X W a m)
    (hn : x ≠ "__name__" := by decide) (hdb : (x == ("__debug__" : Str)) = false := by decide) (hn2 : y ≠ "__name__" := by decide) (hdb2 : (y == ("__debug__" : Str)) = false := by decide) (hn3 : z ≠ "__name__" := by decide) (hdb3 : (z == ("__debug__" : Str)) = false := by decide)
    (hs : starEach [a, .Tuple [.Name y q, .Name z q2] kt pt] X.env = (false, eval a X.env) :: starEach [.Tuple [.Name y q, .Name z q2] kt pt] X.env := by rfl)
    (hs2 : starEach [.Tuple [.Name y q, .Name z q2] kt pt] X.env = (false, eval (.Tuple [.Name y q, .Name z q2] kt pt) X.env) :: starEach [] X.env := by rfl)
    (hs3 : starEach [.Name y q, .Name z q2] X.env = (false, eval (.Name y q) X.env) :: starEach [.Name z q2] X.env := by rfl) (hs4 : starEach [.Name z q2] X.env = (false, eval (.Name z q2) X.env) :: starEach [] X.env := by rfl)
    (hpl : (backTo pos (starEach [.Tuple [.Name y q, .Name z q2] kt pt] X.env)).any (·.1) = false := by rfl) :
    DE c X W (.Call (.Name x p) [a, .Tuple [.Name y q, .Name z q2] kt pt] [] pos) (mC1 (isiT2 T U) m) :=
  pe_weak (pe_callB call_isiT hg hm hv (pa_cons ha (pa_cons (pe_tup (pa_cons (pe_bltn (v := .ty T) hgT hmT hvT rfl hn2 hdb2) (pa_cons (pe_bltn (v := .ty U) hgU hmU hvU rfl hn3 hdb3) pa_nil hs4) hs3)) pa_nil hs2) hs) hn hdb hs hpl) fun σ H Q ⟨st, G, r, p⟩ => ⟨st, G, r, (Po.seq p).mono fun h s1 H1 G1 l1 r1 ⟨_, p1⟩ x hx => by
    obtain ⟨d, vd, p2⟩ := Po.see r1 hx p1
    refine ⟨by show 2 ≤ sizeLine; decide, fun tp htp => ?_⟩
    have r2 := r1.new (o := .tup [.ty T, .ty U]) htp
    have vd2 : View c G1 (upd H1 tp (.tup [.ty T, .ty U])) d x := by
      cases h with
      | v d' =>
        cases d <;> first
          | exact vd
          | (simp only [View] at vd ⊢
             obtain ⟨a, vs, e, h1, rl⟩ := vd
             first
               | exact ⟨a, vs, e, by rw [upd_ne (ne_of_none h1 htp)]; exact h1, rl⟩
               | (rcases h1 with h1 | ⟨o, h1⟩
                  · exact ⟨a, vs, e, .inl (by rw [upd_ne (ne_of_none h1 htp)]; exact h1), rl⟩
                  · exact ⟨a, vs, e, .inr ⟨o, by rw [upd_ne (ne_of_none h1 htp)]; exact h1⟩, rl⟩))
          | (simp only [View] at vd ⊢
             obtain ⟨a, C, dx, vs, e, h1, rl⟩ := vd
             first
               | exact ⟨a, C, dx, vs, e, by rw [upd_ne (ne_of_none h1 htp)]; exact h1, by rw [upd_ne (ne_of_none rl htp)]; exact rl⟩
               | exact ⟨a, C, dx, vs, e, by rw [upd_ne (ne_of_none h1 htp)]; exact h1, rl⟩)
      | s i =>
        cases d <;> first
          | exact vd
          | (simp only [View] at vd ⊢
             obtain ⟨a, vs, e, h1, rl⟩ := vd
             first
               | exact ⟨a, vs, e, by rw [upd_ne (ne_of_none h1 htp)]; exact h1, rl⟩
               | (rcases h1 with h1 | ⟨o, h1⟩
                  · exact ⟨a, vs, e, .inl (by rw [upd_ne (ne_of_none h1 htp)]; exact h1), rl⟩
                  · exact ⟨a, vs, e, .inr ⟨o, by rw [upd_ne (ne_of_none h1 htp)]; exact h1⟩, rl⟩))
          | (simp only [View] at vd ⊢
             obtain ⟨a, C, dx, vs, e, h1, rl⟩ := vd
             first
               | exact ⟨a, C, dx, vs, e, by rw [upd_ne (ne_of_none h1 htp)]; exact h1, by rw [upd_ne (ne_of_none rl htp)]; exact rl⟩
               | exact ⟨a, C, dx, vs, e, by rw [upd_ne (ne_of_none h1 htp)]; exact h1, rl⟩)
    unfold ofO isiT2 at p2
    cases e1 : isiT T d with
    | none => simp only [e1] at p2; exact p2.elim
    | some k =>
      cases e2 : isiT U d with
      | none => simp only [e1, e2] at p2; exact p2.elim
      | some l =>
        simp only [e1, e2] at p2
        unfold isiT at e1 e2
        rw [Option.bind_eq_some_iff] at e1 e2
        obtain ⟨t, ht, k1⟩ := e1
        obtain ⟨t', ht', k2⟩ := e2
        rw [ht] at ht'
        cases ht'
        refine ⟨x, tp, [.ty T, .ty U], .type t, [.type T, .type U], k || l, rfl, upd_same, .cons (.ty T) (.cons (.ty U) .nil), hk ▸ tyX_view r2.sub vd2 ht, ?_, p2 _ G1 (GLe.refl _) r2 _ (by simp only [Rep])⟩
        refine kitAny_cons (kit_ty k1) (fun ek => ?_) fun ek => by rw [ek]; rfl
        subst ek
        exact kitAny_cons (kit_ty k2) (fun el => by subst el; rfl) fun el => by rw [el]; rfl⟩
end
end Dn

set_option Elab.async false
set_option linter.all false
set_option maxRecDepth 100000
set_option maxHeartbeats 2000000
/-! Dn, part G: statements. -/
namespace Dn
open PySem PySem.Spec PyProof.Rows L2

inductive SRes where
  | nx (st : S) | rt (d : D) (st : S) | bk (st : S) | ct (st : S) | exc (c : Str) (ns : List Str) (ds : List D) (st : S) | stuck
abbrev SM := S → SRes
def PoS (c : Ct) (W : WX) (G : Hp) (r : SRes) (De : Ends) : Prop := match r with
  | .nx st' => ∀ σ' H' G', GLe G G' → R c st' σ' H' G' → De.nx σ' H'
  | .rt d st' => ∀ v σ' H' G', GLe G G' → R c st' σ' H' G' → Rep c.K c.mg G' d v → De.rt v H'
  | .bk st' => ∀ σ' H' G', GLe G G' → R c st' σ' H' G' → De.bk σ' H'
  | .ct st' => ∀ σ' H' G', GLe G G' → R c st' σ' H' G' → De.ct σ' H'
  | .exc cn ns ds st' => ∀ cls od σ' H' G', GLe G G' → R c st' σ' H' G' → ExR c.K c.mg G' cn ns ds cls od → W cls od σ' H'
  | .stuck => False
def tS (c : Ct) (W : WX) (m : SM) : TS := fun De σ H => ∃ st G, R c st σ H G ∧ PoS c W G (m st) De
abbrev DS (c : Ct) (X : Cx) (W : WX) (s : Stmt) (m : SM) : Prop := PS X s (tS c W m)
abbrev DSs (c : Ct) (X : Cx) (W : WX) (s : List Stmt) (m : SM) : Prop := PSs X s (tS c W m)
section
variable {c : Ct} {X : Cx} {W : WX} {σ : Sl} {G G' H : Hp} {e a b : Expr} {es : List Expr} {pos p : Pos} {s : Stmt} {ss : List Stmt} {De De' : Ends}
theorem PoS.le {r : SRes} (l : GLe G G') (h : PoS c W G r De) : PoS c W G' r De := by
  cases r with
  | nx st => exact fun σ' H' G2 l2 => h σ' H' G2 (l.trans l2)
  | rt d st => exact fun v σ' H' G2 l2 => h v σ' H' G2 (l.trans l2)
  | bk st => exact fun σ' H' G2 l2 => h σ' H' G2 (l.trans l2)
  | ct st => exact fun σ' H' G2 l2 => h σ' H' G2 (l.trans l2)
  | exc cn ns ds st => exact fun cls od σ' H' G2 l2 => h cls od σ' H' G2 (l.trans l2)
  | stuck => exact h
/-- from an expression's result to what follows -/
def eS {α : Type} (m : M α) (k : α → SM) : SM := fun st => match m st with
  | .ok a st' => k a st'
  | .exc cn ns ds st' => .exc cn ns ds st'
  | .stuck => .stuck
theorem PoS.of {α : Type} {m : M α} {k : α → SM} {st : S} (h : PoS c W G (eS m k st) De) : Po c W σ G (m st) (fun a st' H' G' => R c st' σ H' G' ∧ PoS c W G' (k a st') De) := by
  unfold eS at h
  cases e : m st with
  | ok a st' =>
    rw [e] at h
    exact fun H2 G2 l r => ⟨r, PoS.le l h⟩
  | exc cn ns ds st' =>
    rw [e] at h
    exact fun cls od H2 G2 l r x => h cls od σ H2 G2 l r x
  | stuck =>
    rw [e] at h
    exact h
def nop : SM := fun st => .nx st
def sq (m n : SM) : SM := fun st => match m st with
  | .nx st' => n st'
  | r => r
theorem dss_nil : DSs c X W [] nop := pss_weak pss_nil fun De σ H ⟨st, G, r, p⟩ => p σ H G (GLe.refl G) r
theorem dss_one {m : SM} (h : DS c X W s m) : DSs c X W [s] m := pss_one h
theorem dss_cons {m n : SM} (h : DS c X W s m) (k : DSs c X W ss n) : DSs c X W (s :: ss) (sq m n) := pss_weak (pss_cons h k) fun De σ H ⟨st, G, r, p⟩ => ⟨st, G, r, by
  unfold sq at p
  cases e : m st with
  | nx st' => rw [e] at p; exact fun σ' H' G' l r' => ⟨st', G', r', PoS.le l p⟩
  | rt d st' => rw [e] at p; exact p
  | bk st' => rw [e] at p; exact p
  | ct st' => rw [e] at p; exact p
  | exc cn ns ds st' => rw [e] at p; exact p
  | stuck => rw [e] at p; exact p⟩
theorem ds_pass : DS c X W (.Pass pos) nop := ps_weak ps_pass fun De σ H ⟨st, G, r, p⟩ => p σ H G (GLe.refl G) r
theorem ds_brk : DS c X W (.Break pos) (fun st => .bk st) := ps_weak ps_break fun De σ H ⟨st, G, r, p⟩ => p σ H G (GLe.refl G) r
theorem ds_cont : DS c X W (.Continue pos) (fun st => .ct st) := ps_weak ps_continue fun De σ H ⟨st, G, r, p⟩ => p σ H G (GLe.refl G) r
def sRet (m : M D) : SM := eS m fun d st => .rt d st
theorem ds_ret {m : M D} (h : DE c X W e m) : DS c X W (.Return (some e) pos) (sRet m) := ps_weak (ps_ret h) fun De σ H ⟨st, G, r, p⟩ => ⟨st, G, r, (PoS.of p).mono fun d s1 H1 G1 l1 r1 ⟨_, p1⟩ v rep => p1 v σ H1 G1 (GLe.refl G1) r1 rep⟩
theorem ds_retN : DS c X W (.Return none pos) (fun st => .rt .non st) := ps_weak ps_retN fun De σ H ⟨st, G, r, p⟩ => p _ σ H G (GLe.refl G) r (by simp only [Rep])
def sExpr (m : M D) : SM := eS m fun _ st => .nx st
theorem ds_expr {m : M D} (h : DE c X W e m) (hs : swapsWith e none pos.line X.env = pure false := by rfl) : DS c X W (.Expr e pos) (sExpr m) := ps_weak (ps_expr h hs) fun De σ H ⟨st, G, r, p⟩ => ⟨st, G, r, (PoS.of p).mono fun d s1 H1 G1 l1 r1 ⟨_, p1⟩ v rep => p1 σ H1 G1 (GLe.refl G1) r1⟩
def sIf (t : M Bool) (m n : SM) : SM := eS t fun k => if k then m else n
theorem ds_if {t : Expr} {x y : List Stmt} {mt : M Bool} {m n : SM} (ht : DT c X W t mt) (hm : DSs c X W x m) (hn : DSs c X W y n) : DS c X W (.If t x y pos) (sIf mt m n) := ps_weak (ps_if ht hm hn) fun De σ H ⟨st, G, r, p⟩ => ⟨st, G, r, (PoS.of p).mono fun k s1 H1 G1 l1 r1 ⟨_, p1⟩ => by
  cases k with
  | true => exact ⟨s1, G1, r1, p1⟩
  | false => exact ⟨s1, G1, r1, p1⟩⟩

/-! ### targets -/
abbrev GM := D → S → Option S
/-- only the slots ws may have changed -/
def Ch (ws : List Nat) (σ σ' : Sl) : Prop := σ'.length = σ.length ∧ ∀ j, j ∉ ws → σ'[j]? = σ[j]?
theorem Ch.trans {ws us : List Nat} {σ1 σ2 σ3 : Sl} (a : Ch ws σ1 σ2) (b : Ch us σ2 σ3) : Ch (ws ++ us) σ1 σ3 :=
  ⟨b.1.trans a.1, fun j h => (b.2 j fun z => h (List.mem_append_right _ z)).trans (a.2 j fun z => h (List.mem_append_left _ z))⟩
def tT (c : Ct) (g : GM) (ws : List Nat) : TG := fun v σ H Q => ∃ st G d st', R c st σ H G ∧ Rep c.K c.mg G d v ∧ g d st = some st' ∧ ∀ σ', R c st' σ' H G → Ch ws σ σ' → Q σ' H
def tTs (c : Ct) (g : List D → S → Option S) (ws : List Nat) : TGs := fun vs σ H Q => ∃ st G ds st', R c st σ H G ∧ RepL c.K c.mg G ds vs ∧ g ds st = some st' ∧ ∀ σ', R c st' σ' H G → Ch ws σ σ' → Q σ' H
abbrev DG (c : Ct) (X : Cx) (e : Expr) (g : GM) (ws : List Nat) : Prop := PG X e (tT c g ws)
abbrev DGs (c : Ct) (X : Cx) (es : List Expr) (g : List D → S → Option S) (ws : List Nat) : Prop := PGs X es (tTs c g ws)
theorem pg_weak {t t' : TG} (h : PG X e t) (w : ∀ v σ H Q, t' v σ H Q → t v σ H Q) : PG X e t' := ⟨fun pins s σ H v u Q I r q => h.run pins s σ H v u Q I r (w v σ H Q q)⟩
theorem pgs_weak {t t' : TGs} (h : PGs X es t) (w : ∀ v σ H Q, t' v σ H Q → t v σ H Q) : PGs X es t' := ⟨fun pins s σ H v u Q I r q => h.run pins s σ H v u Q I r (w v σ H Q q)⟩
def gN (i : Nat) : GM := fun d st => some (st.set i (.va d))
theorem dg_name {i : Nat} {x : Str} (hN : X.N.Nodup) (hi : X.N[i]? = some x) (hx : Loc X.env.scope x) (hf : X.fn x = true ∨ X.env.scope.names.lookup x = some .local := by first | exact .inl rfl | exact .inr rfl | assumption) : DG c X (.Name x pos) (gN i) [i] :=
  pg_weak (pg_name hN hi hx hf) fun v σ H Q ⟨st, G, d, st', r, rep, e, q⟩ => by
    cases e
    exact q _ (r.set rep) ⟨by simp, fun j h => List.getElem?_set_ne (fun z => h (by simp [z]))⟩
def gNil' : List D → S → Option S
  | [], st => some st
  | _, _ => none
def gCons' (g : GM) (gs : List D → S → Option S) : List D → S → Option S
  | d :: ds, st => (g d st).bind (gs ds)
  | [], _ => none
theorem dgs_nil : DGs c X [] gNil' [] := pgs_weak pgs_nil fun vs σ H Q ⟨st, G, ds, st', r, rep, e, q⟩ => by
  cases ds with
  | nil =>
    simp only [RepL] at rep
    simp only [gNil', Option.some.injEq] at e
    subst e
    exact ⟨rep, q _ r ⟨rfl, fun _ _ => rfl⟩⟩
  | cons _ _ => simp only [gNil', reduceCtorEq] at e
theorem dgs_cons {g : GM} {gs : List D → S → Option S} {ws us : List Nat} (h : DG c X e g ws) (k : DGs c X es gs us) (hs : (assignEach (e :: es) X.env).map (·.2) = assign e X.env :: (assignEach es X.env).map (·.2) := by rfl) : DGs c X (e :: es) (gCons' g gs) (ws ++ us) :=
  pgs_weak (pgs_cons h k hs) fun vs σ H Q ⟨st, G, ds, st', r, rep, e, q⟩ => by
    cases ds with
    | nil => simp only [gCons', reduceCtorEq] at e
    | cons d ds =>
      simp only [RepL] at rep
      obtain ⟨v, vr, rfl, h1, h2⟩ := rep
      simp only [gCons', Option.bind_eq_some_iff] at e
      obtain ⟨s1, e1, e2⟩ := e
      exact ⟨v, vr, rfl, st, G, d, s1, r, h1, e1, fun σ' r' ch => ⟨s1, G, ds, st', r', h2, e2, fun σ2 r2 ch2 => q σ2 r2 (ch.trans ch2)⟩⟩
/-- (x, y, ..): of a tuple of so many -/
def gT (n : Nat) (gs : List D → S → Option S) : GM := fun d st => match d with
  | .tup ds => if ds.length = n then gs ds st else none
  | _ => none
theorem dg_tup {k n : Nat} {gs : List D → S → Option S} {ws : List Nat} (hk : c.K = X.K) (hc : X.calm = true) (h : DGs c X es gs ws) (hn : (assignEach es X.env).length = n := by rfl) (hst : (assignEach es X.env).findIdx? (·.1) = none := by rfl) : DG c X (.Tuple es k pos) (gT n gs) ws :=
  pg_weak (pg_tup hc h hn hst) fun v σ H Q ⟨st, G, d, st', r, rep, e, q⟩ => by
    cases d with
    | tup ds =>
      simp only [gT] at e
      split at e
      · rename_i hz
        simp only [Rep] at rep
        obtain ⟨a, vs, rfl, h1, rl⟩ := rep
        exact ⟨a, vs, rfl, hk ▸ SqT.sub r.sub h1, by rw [← rl.length]; exact hz, st, G, ds, st', r, rl, e, q⟩
      · cases e
    | _ => simp only [gT, reduceCtorEq] at e

/-! ### x = e -/
def sSet (i : Nat) (m : M D) : SM := eS m fun d st => .nx (st.set i (.va d))
def sOwn (i : Nat) (m : M D) : SM := eS m fun d st => .nx (st.set i (.ow d))
def sAsg (g : GM) (m : M D) : SM := eS m fun d st => match g d st with
  | some st' => .nx st'
  | none => .stuck
section
variable {i : Nat} {x : Str} {pos' : Pos} {m : M D}
theorem ds_set (hN : X.N.Nodup) (hi : X.N[i]? = some x) (hx : Loc X.env.scope x) (he : DE c X W e m) (hs : swapsWith e (some (.Name x pos')) pos.line X.env = pure false := by rfl) (hf : X.fn x = true ∨ X.env.scope.names.lookup x = some .local := by first | exact .inl rfl | exact .inr rfl | assumption) :
    DS c X W (.Assign [.Name x pos'] e pos) (sSet i m) := ps_weak (ps_set hN hi hx he hs hf) fun De σ H ⟨st, G, r, p⟩ => ⟨st, G, r, (PoS.of p).mono fun d s1 H1 G1 l1 r1 ⟨_, p1⟩ v rep => p1 _ H1 G1 (GLe.refl G1) (r1.set rep)⟩
theorem own_asg {t : TE} (w : ∀ σ H Q, tN c W m σ H Q → t σ H Q) : ∀ De σ H, tS c W (sOwn i m) De σ H → tAsg t (gName i) De σ H := fun De σ H ⟨st, G, r, p⟩ => w σ H _ ⟨st, G, r, (PoS.of p).mono fun d s1 H1 G1 l1 r1 ⟨_, p1⟩ a f => p1 _ H1 G1 (GLe.refl G1) (r1.setOw f)⟩
theorem ds_own (hN : X.N.Nodup) (hi : X.N[i]? = some x) (hx : Loc X.env.scope x) (he : DN c X W e m) (hs : swapsWith e (some (.Name x pos')) pos.line X.env = pure false := by rfl) (hf : X.fn x = true ∨ X.env.scope.names.lookup x = some .local := by first | exact .inl rfl | exact .inr rfl | assumption) :
    DS c X W (.Assign [.Name x pos'] e pos) (sOwn i m) := ps_weak (ps_set hN hi hx he hs hf) (own_asg fun _ _ _ q => q)
theorem ds_asg {tg : Expr} {g : GM} {ws : List Nat} (he : DE c X W e m) (hg : DG c X tg g ws) (hs : swapsWithSole [tg] e pos.line X.env = pure false := by rfl) (hw : swappedStores [tg] e X.env = pure none := by rfl)
    (h1 : (assignEach [tg] X.env).map (·.2) = [assign tg X.env] := by rfl) : DS c X W (.Assign [tg] e pos) (sAsg g m) := ps_weak (ps_asg he hg hs hw h1) fun De σ H ⟨st, G, r, p⟩ => ⟨st, G, r, (PoS.of p).mono fun d s1 H1 G1 l1 r1 ⟨_, p1⟩ v rep => by
  cases eg : g d s1 with
  | none => rw [eg] at p1; exact p1.elim
  | some s2 =>
    rw [eg] at p1
    exact ⟨s1, G1, d, s2, r1, rep, eg, fun σ' r' _ => p1 σ' H1 G1 (GLe.refl G1) r'⟩⟩
end

/-! ### own objects changed -/
def ownAt (st : S) (i : Nat) : Option D := match st[i]? with
  | some (.ow d) => some d
  | some (.io d) => some d
  | _ => none
def putOwn (st : S) (i : Nat) (d : D) : S := st.set i (match st[i]? with | some (.io _) => .io d | _ => .ow d)
theorem ownAt_of {st : S} {i : Nat} {d : D} (h : ownAt st i = some d) : st[i]? = some (.ow d) ∨ st[i]? = some (.io d) := by
  unfold ownAt at h
  split at h
  · rename_i e; cases h; exact .inl e
  · rename_i e; cases h; exact .inr e
  · cases h
theorem R.own {st : S} {i : Nat} {d : D} (r : R c st σ H G) (h : ownAt st i = some d) : ∃ a, at' σ i = some (.ref a) ∧ Own c.K c.mg G H a d := by
  rcases ownAt_of h with e | e
  · obtain ⟨a, x, _, _, q⟩ := r.slot i _ e
    exact ⟨a, x, q⟩
  · obtain ⟨a, x, _, _, q⟩ := r.slot i _ e
    exact ⟨a, x, q⟩
theorem R.put {st : S} {i : Nat} {d d' : D} {a : Addr} {o : HO} (r : R c st σ H G) (h : ownAt st i = some d) (x : at' σ i = some (.ref a)) (q : Own c.K c.mg G (upd H a o) a d') : R c (putOwn st i d') σ (upd H a o) G :=
  r.change (ownAt_of h) x q
/-- x.append(e) -/
def isLst : Option D → Bool
  | some (.lst _) => true
  | _ => false
def sApp (i : Nat) (m : M D) : SM := fun st => if isLst (ownAt st i) = true then eS m (fun d st' => match ownAt st' i with
    | some (.lst ds) => if ds.length < 16777216 then .nx (putOwn st' i (.lst (ds ++ [d]))) else .stuck
    | _ => .stuck) st else .stuck
theorem ds_app (i : Nat) {x : Str} {px pa pc : Pos} {m : M D} (he : DE c X W e m) (hN : X.N[i]? = some x := by rfl) (hv : Vis X.env.scope x := by first | exact Or.inl rfl | exact Or.inr (Or.inl rfl) | exact Or.inr (Or.inr rfl)) (hd : (x == ("__debug__" : Str)) = false := by decide)
    (hcd : (x == ("__classdict__" : Str)) = false := by decide) (h1 : starEach [e] X.env = (false, eval e X.env) :: starEach [] X.env := by rfl) (h4 : attributeBase (.Name x px) "append" X.env (eval (.Name x px) X.env) = eval (.Name x px) X.env := by rfl)
    (h5 : ((backTo pc (starEach [e] X.env)).all (fun x => !x.1) && (backToKw pc (keywordEach [] X.env)).all (fun x => x.1.isSome)
      && decide ([e].length + ([] : List Keyword).length + (if ([] : List Keyword).isEmpty then 0 else 1) < 30)) = true := by rfl)
    (h2 : (pa.endLine == pc.line) = true := by rfl) (h3 : (backTo pc (starEach [] X.env)).any (·.1) = false := by rfl) (h6 : swapsWith (.Call (.Attribute (.Name x px) "append" pa) [e] [] pc) none pos.line X.env = pure false := by rfl) :
    DS c X W (.Expr (.Call (.Attribute (.Name x px) "append" pa) [e] [] pc) pos) (sApp i m) := by
  refine ps_weak (ps_expr (pe_bm PySem.F.plainAttrs_list PySem.F.slot_list_append PySem.F.type_list_append mt_append (pe_var (i := i) hN hv hd hcd) (pa_cons he pa_nil h1) h4 h5 h2 h1 h3) h6) fun De σ H ⟨st, G, r, p⟩ => ?_
  unfold sApp at p
  cases e0 : ownAt st i with
  | none => simp only [e0, isLst] at p; exact p.elim
  | some d0 =>
    cases d0 with
    | lst ds0 =>
      simp only [e0, isLst, if_true] at p
      obtain ⟨a0, x0, q0⟩ := r.own e0
      simp only [Own] at q0
      obtain ⟨vs0, h0, _⟩ := q0
      refine ⟨_, at'_some x0, .inl ⟨rfl, _, .of h0⟩, st, G, r, (PoS.of p).mono fun d s1 H1 G1 l1 r1 ⟨_, p1⟩ v rep => ?_⟩
      cases e1 : ownAt s1 i with
      | none => simp only [e1] at p1; exact p1.elim
      | some d1 =>
        cases d1 with
        | lst ds1 =>
          simp only [e1] at p1
          split at p1
          · rename_i hz
            obtain ⟨a1, x1, q1⟩ := r1.own e1
            rw [x0] at x1
            cases x1
            simp only [Own] at q1
            obtain ⟨vs1, h1, rl⟩ := q1
            refine ⟨a0, vs1, v, rfl, rfl, h1, by rw [← rl.length, sl_eq]; exact hz, ?_⟩
            exact p1 σ _ G1 (GLe.refl G1) (r1.put e1 x0 (by simp only [Own]; exact ⟨_, upd_same, rl.snoc rep⟩))
          · exact p1.elim
        | _ => simp only [e1] at p1; exact p1.elim
    | _ => simp only [e0, isLst] at p; exact p.elim
/-- x[k] = e, x a list of one's own -/
def sPut (i : Nat) (mk m : M D) : SM := eS m fun d st1 => if isLst (ownAt st1 i) = true then eS mk (fun k st => match ownAt st i, k with
  | some (.lst ds), .int z => match ixN ds.length z with
    | some j => .nx (putOwn st i (.lst (ds.set j d)))
    | none => .stuck
  | _, _ => .stuck) st1 else .stuck
theorem ds_put (i : Nat) {x : Str} {k : Expr} {px p : Pos} {m mk : M D} (hk : DE c X W k mk) (he : DE c X W e m) (hN : X.N[i]? = some x := by rfl) (hv : Vis X.env.scope x := by first | exact Or.inl rfl | exact Or.inr (Or.inl rfl) | exact Or.inr (Or.inr rfl)) (hd : (x == ("__debug__" : Str)) = false := by decide)
    (hcd : (x == ("__classdict__" : Str)) = false := by decide)
    (ha : ∀ v, assign (.Subscript (.Name x px) k p) X.env v = (do
      let ov ← holding [v] (eval (.Name x px) X.env)
      let iv ← holding [v, ov] (eval k X.env)
      standAt p
      holding [v, ov, iv] (setItem ov iv v)
      release [v, ov, iv] []) := by intro _; rfl)
    (hs : swapsWithSole [.Subscript (.Name x px) k p] e pos.line X.env = pure false := by rfl) (hw : swappedStores [.Subscript (.Name x px) k p] e X.env = pure none := by rfl)
    (h1 : (assignEach [.Subscript (.Name x px) k p] X.env).map (·.2) = [assign (.Subscript (.Name x px) k p) X.env] := by rfl) :
    DS c X W (.Assign [.Subscript (.Name x px) k p] e pos) (sPut i mk m) := by
  refine ps_weak (ps_asg he (pg_sub (pe_var (i := i) hN hv hd hcd) hk set_list ha) hs hw h1) fun De σ H ⟨st, G, r, p⟩ => ?_
  refine ⟨st, G, r, (PoS.of p).mono fun d s1 H1 G1 l1 r1 ⟨_, p1⟩ v rep => ?_⟩
  cases e0 : ownAt s1 i with
  | none => simp only [e0, isLst] at p1; exact p1.elim
  | some d0 =>
    cases d0 with
    | lst ds0 =>
      simp only [e0, isLst, if_true] at p1
      obtain ⟨a0, x0, q0⟩ := r1.own e0
      refine ⟨_, at'_some x0, s1, G1, r1, (PoS.of p1).mono fun kd s2 H2 G2 l2 r2 ⟨_, p3⟩ kv krep => ?_⟩
      cases e1 : ownAt s2 i with
      | none => simp only [e1] at p3; exact p3.elim
      | some d1 =>
        cases d1 with
        | lst ds1 =>
          cases kd with
          | int z =>
            simp only [e1] at p3
            obtain ⟨a1, x1, q1⟩ := r2.own e1
            rw [x0] at x1
            cases x1
            simp only [Own] at q1
            obtain ⟨vs1, h1, rl⟩ := q1
            simp only [Rep] at krep
            cases ej : ixN ds1.length z with
            | none => simp only [ej] at p3; exact p3.elim
            | some j =>
              simp only [ej] at p3
              refine ⟨a0, vs1, z, j, rfl, krep, h1, by rw [← rl.length]; exact ej, ?_⟩
              exact p3 σ _ G2 (GLe.refl G2) (r2.put e1 x0 (by simp only [Own]; exact ⟨_, upd_same, rl.set j (rep.le l2)⟩))
          | _ => simp only [e1] at p3; exact p3.elim
        | _ => simp only [e1] at p3; exact p3.elim
    | _ => simp only [e0, isLst] at p1; exact p1.elim
/-- x += e of a value: by an operator's rule -/
def sAug (f : D → D → Option D) (i : Nat) (m : M D) : SM := fun st => match st[i]? with
  | some (.va d) => eS m (fun y st' => match f d y with
    | some z => .nx (st'.set i (.va z))
    | none => .stuck) st
  | _ => .stuck
theorem ds_aug (i : Nat) {op : Operator} {x : Str} {pos' : Pos} {m : M D} {f : D → D → Option D} {r' : R2} (hop : OpR X (inplaceOp op) r') (ho : OpS c r' f) (he : DE c X W e m) (hN : X.N.Nodup) (hi : X.N[i]? = some x := by rfl) (hx : Loc X.env.scope x := by first | exact Or.inl rfl | exact Or.inr rfl)
    (hf : X.fn x = true ∨ X.env.scope.names.lookup x = some .local := by first | exact .inl rfl | exact .inr rfl | assumption) : DS c X W (.AugAssign (.Name x pos') op e pos) (sAug f i m) := by
  refine ps_weak (ps_aug (i := i) hN hi hx he (ti := r') (fun pins s σ H x y v u Q I rx ry h => hop pins s σ H x y v u Q I rx ry h) hf) fun De σ H ⟨st, G, r, p⟩ => ?_
  unfold sAug at p
  cases e0 : st[i]? with
  | none => simp only [e0] at p; exact p.elim
  | some sv =>
    cases sv with
    | va d =>
      simp only [e0] at p
      obtain ⟨v, x0, rep0⟩ := r.slot i _ e0
      refine ⟨v, at'_some x0, st, G, r, (PoS.of p).mono fun y s1 H1 G1 l1 r1 ⟨_, p1⟩ yv yrep => ?_⟩
      cases ef : f d y with
      | none => simp only [ef] at p1; exact p1.elim
      | some z =>
        simp only [ef] at p1
        exact ho d y z v yv G1 H1 _ ef r1.sub ((rep0.le l1).view r1.sub) (yrep.view r1.sub) fun zv zrep => p1 _ H1 G1 (GLe.refl G1) (r1.set zrep)
    | _ => simp only [e0] at p; exact p.elim
/-- x += e, x a list of one's own -/
def sExt (i : Nat) (m : M D) : SM := fun st => if isLst (ownAt st i) = true then eS m (fun y st' => match ownAt st' i, y with
    | some (.lst ds), .lst es => if ds.length + es.length ≤ 16777216 then .nx (putOwn st' i (.lst (ds ++ es))) else .stuck
    | _, _ => .stuck) st else .stuck
theorem ds_ext (i : Nat) {x : Str} {pos' : Pos} {m : M D} (he : DE c X W e m) (hN : X.N.Nodup) (hi : X.N[i]? = some x := by rfl) (hx : Loc X.env.scope x := by first | exact Or.inl rfl | exact Or.inr rfl)
    (hf : X.fn x = true ∨ X.env.scope.names.lookup x = some .local := by first | exact .inl rfl | exact .inr rfl | assumption) : DS c X W (.AugAssign (.Name x pos') .Add e pos) (sExt i m) := by
  refine ps_weak (ps_aug (i := i) hN hi hx he (ti := rExt2) (fun pins s σ H x y v u Q I rx ry h => iop_ext pins s σ H x y v u Q I rx ry h) hf) fun De σ H ⟨st, G, r, p⟩ => ?_
  unfold sExt at p
  cases e0 : ownAt st i with
  | none => simp only [e0, isLst] at p; exact p.elim
  | some d0 =>
    cases d0 with
    | lst ds0 =>
      simp only [e0, isLst, if_true] at p
      obtain ⟨a0, x0, q0⟩ := r.own e0
      refine ⟨_, at'_some x0, st, G, r, (PoS.of p).mono fun y s1 H1 G1 l1 r1 ⟨_, p1⟩ yv yrep => ?_⟩
      cases e1 : ownAt s1 i with
      | none => simp only [e1] at p1; exact p1.elim
      | some d1 =>
        cases d1 with
        | lst ds1 =>
          cases y with
          | lst es =>
            simp only [e1] at p1
            split at p1
            · rename_i hz
              obtain ⟨a1, x1, q1⟩ := r1.own e1
              rw [x0] at x1
              cases x1
              simp only [Own] at q1
              obtain ⟨vs1, h1, rl⟩ := q1
              have vy := yrep.view r1.sub
              simp only [View] at vy
              obtain ⟨b, ws, rfl, h2, rl2⟩ := vy
              refine ⟨a0, b, vs1, ws, rfl, rfl, h1, h2, by rw [← rl.length, ← rl2.length, sl_eq]; exact hz, ?_⟩
              have es' : σ.set i (some (.ref a0)) = σ := by
                have e2 := at'_some x0
                have hσ := (List.getElem?_eq_some_iff.mp e2).1
                exact List.ext_getElem? fun j => by
                  by_cases n : i = j
                  · subst n; rw [List.getElem?_set_self hσ, e2]
                  · rw [List.getElem?_set_ne n]
              show De.nx (σ.set i (some (.ref a0))) _
              rw [es']
              exact p1 σ _ G1 (GLe.refl G1) (r1.put e1 x0 (by simp only [Own]; exact ⟨_, upd_same, rl.append rl2⟩))
            · exact p1.elim
          | _ => simp only [e1] at p1; exact p1.elim
        | _ => simp only [e1] at p1; exact p1.elim
    | _ => simp only [e0, isLst] at p; exact p.elim
end
end Dn

set_option Elab.async false
set_option linter.all false
set_option maxRecDepth 100000
set_option maxHeartbeats 2000000
/-! Dn, part H: x[k] op= e, loops, comprehensions. -/
namespace Dn
open PySem PySem.Spec PyProof.Rows L2
/-- the same stand, with another heap at the entry -/
@[reducible] def Ct.h (c : Ct) (H0 : Hp) : Ct := { c with H0 := H0 }
section
variable {c : Ct} {X : Cx} {W : WX} {σ : Sl} {G G' H : Hp} {e a b : Expr} {es : List Expr} {pos p : Pos} {s : Stmt} {ss : List Stmt} {De De' : Ends}
def rGetL (K : PySem.W.Frag) : V → V → Hp → VK → Prop := fun x y H Q => ∃ p xs i v, x = .ref p ∧ y = .int i ∧ SqL K H p xs ∧ 0 ≤ i ∧ atI xs i = some v ∧ Q v H
theorem get_list : PGet X (rGetL X.K) := by
  intro pins s σ H o i ov iv Q I ro ri h
  obtain ⟨p, xs, i, z, rfl, rfl, hq, h0, he, q⟩ := h
  cases ro
  obtain ⟨t, rfl⟩ := ri
  obtain ⟨its, r, pl, hz⟩ := I.list hq
  obtain ⟨j, h1, h2, h3, h4, h5⟩ := atI_get he
  obtain ⟨w, ew, rw'⟩ := r.get h2
  have hl := r.length
  have hn := line63
  have hj : i.toNat = j := by
    rw [seqIndex_of h0 h5] at h1
    exact Option.some.inj h1
  exact wpAny_getItem_list pl.isList h0 (by omega) (by rw [hj]; simpa using ew) ⟨z, H, I, rw', q⟩
/-- x[k] += e, x a list of one's own -/
def sAugIx (f : D → D → Option D) (i : Nat) (mk m : M D) : SM := fun st => if isLst (ownAt st i) = true then eS mk (fun k st1 => match ownAt st1 i, k with
  | some (.lst ds), .int z => if 0 ≤ z then (match atI ds z with
    | some d0 => eS m (fun y st2 => match f d0 y with
      | some w => match ownAt st2 i with
        | some (.lst es) => match ixN es.length z with
          | some j => .nx (putOwn st2 i (.lst (es.set j w)))
          | none => .stuck
        | _ => .stuck
      | none => .stuck) st1
    | none => .stuck) else .stuck
  | _, _ => .stuck) st else .stuck
theorem ds_augIx (i : Nat) {op : Operator} {x : Str} {px p : Pos} {k : Expr} {mk m : M D} {f : D → D → Option D} {r' : R2} (hk : c.K = X.K) (hop : OpR X (inplaceOp op) r') (ho : OpS c r' f) (hik : DE c X W k mk) (he : DE c X W e m) (hN : X.N[i]? = some x := by rfl) (hv : Vis X.env.scope x := by first | exact Or.inl rfl | exact Or.inr (Or.inl rfl) | exact Or.inr (Or.inr rfl)) (hd : (x == ("__debug__" : Str)) = false := by decide)
    (hcd : (x == ("__classdict__" : Str)) = false := by decide)
    (ha : ∀ ov iv new, augStore k ov iv new = (do holding [new, ov, iv] (setItem ov iv new); release [new, ov, iv] []; pure .next) := by intros; rfl) :
    DS c X W (.AugAssign (.Subscript (.Name x px) k p) op e pos) (sAugIx f i mk m) := by
  refine ps_weak (ps_augS (pe_var (i := i) hN hv hd hcd) hik (get_list) he (tip := r') (fun pins s σ H x y v u Q I rx ry h => hop pins s σ H x y v u Q I rx ry h) set_list ha) fun De σ H ⟨st, G, r, p⟩ => ?_
  unfold sAugIx at p
  cases e0 : ownAt st i with
  | none => simp only [e0, isLst] at p; exact p.elim
  | some d0 =>
    cases d0 with
    | lst ds0 =>
      simp only [e0, isLst, if_true] at p
      obtain ⟨a0, x0, q0⟩ := r.own e0
      refine ⟨_, at'_some x0, st, G, r, (PoS.of p).mono fun kd s1 H1 G1 l1 r1 ⟨_, p1⟩ kv krep => ?_⟩
      cases e1 : ownAt s1 i with
      | none => simp only [e1] at p1; exact p1.elim
      | some d1 =>
        cases d1 with
        | lst ds1 =>
          cases kd with
          | int z =>
            simp only [e1] at p1
            split at p1
            · rename_i hz0
              cases ea : L2.atI ds1 z with
              | none => simp only [ea] at p1; exact p1.elim
              | some dz =>
                simp only [ea] at p1
                obtain ⟨a1, x1, q1⟩ := r1.own e1
                rw [x0] at x1
                cases x1
                simp only [Own] at q1
                obtain ⟨vs1, h1, rl⟩ := q1
                simp only [Rep] at krep
                obtain ⟨vz, ev, rz⟩ := rl.atI ea
                refine ⟨a0, vs1, z, vz, rfl, krep, .of h1, hz0, ev, s1, G1, r1, (PoS.of p1).mono fun y s2 H2 G2 l2 r2 ⟨_, p2⟩ yv yrep => ?_⟩
                cases ef : f dz y with
                | none => simp only [ef] at p2; exact p2.elim
                | some w =>
                  simp only [ef] at p2
                  refine ho dz y w vz yv G2 H2 _ ef r2.sub ((rz.le l2).view r2.sub) (yrep.view r2.sub) fun wv wrep => ?_
                  cases e2 : ownAt s2 i with
                  | none => simp only [e2] at p2; exact p2.elim
                  | some d2 =>
                    cases d2 with
                    | lst es2 =>
                      simp only [e2] at p2
                      cases ej : ixN es2.length z with
                      | none => simp only [ej] at p2; exact p2.elim
                      | some j =>
                        simp only [ej] at p2
                        obtain ⟨a2, x2, q2⟩ := r2.own e2
                        rw [x0] at x2
                        cases x2
                        simp only [Own] at q2
                        obtain ⟨vs2, h2, rl2⟩ := q2
                        refine ⟨a0, vs2, z, j, rfl, krep, h2, by rw [← rl2.length]; exact ej, ?_⟩
                        exact p2 σ _ G2 (GLe.refl G2) (r2.put e2 x0 (by simp only [Own]; exact ⟨_, upd_same, rl2.set j wrep⟩))
                    | _ => simp only [e2] at p2; exact p2.elim
            · exact p1.elim
          | _ => simp only [e1] at p1; exact p1.elim
        | _ => simp only [e1] at p1; exact p1.elim
    | _ => simp only [e0, isLst] at p; exact p.elim

/-! ### what is walked -/
def Yields1 (c : Ct) (G0 : Hp) (J : It) (ds : List D) : Prop :=
  (∀ (i : Nat) (st : S) (σ : Sl) (H G : Hp) (d : D), R c st σ H G → GLe G0 G → ds[i]? = some d → J.go i H ∧ ∀ x H', J.yld i H x H' → ∃ G', GLe G G' ∧ R c st σ H' G' ∧ Rep c.K c.mg G' d x) ∧
  (∀ (i : Nat) (st : S) (σ : Sl) (H G : Hp), R c st σ H G → GLe G0 G → ds.length ≤ i → J.stop i H)
/-- whatever stood at the entry -/
def Yields (c : Ct) (G0 : Hp) (J : It) (ds : List D) : Prop := ∀ H0', Yields1 (c.h H0') G0 J ds
def tI (c : Ct) (W : WX) (m : M (List D)) : TI := fun σ H Rr => ∃ st G, R c st σ H G ∧ Po c W σ G (m st) fun ds st' H' G' => ∀ J, Yields c G' J ds → Rr J H'
abbrev DI (c : Ct) (X : Cx) (W : WX) (tg iter : Expr) (m : M (List D)) : Prop := PI X tg iter (tI c W m)
theorem pi_weak {tg iter : Expr} {t t' : TI} (h : PI X tg iter t) (w : ∀ σ H Q, t' σ H Q → t σ H Q) : PI X tg iter t' := ⟨fun pins s σ H Q I q => h.run pins s σ H Q I (w σ H Q q)⟩
theorem yields_lst {ds : List D} {a : Addr} (h : Rep c.K c.mg G (.lst ds) (.ref a)) : Yields c G (Itl c.K a) ds := by
  simp only [Rep] at h
  obtain ⟨a', vs, e, h1, rl⟩ := h
  cases e
  refine fun H0' => ⟨fun i st σ H G2 d r le ed => ?_, fun i st σ H G2 r le hi => ?_⟩
  · have hH : SqL c.K H a vs := by
      rcases r.sub _ _ (le _ _ h1) with q | ⟨_, m, _⟩
      · exact .of q
      · exact m.elim
    obtain ⟨v, ev, rv⟩ := rl.get ed
    refine ⟨⟨vs, v, hH, ev⟩, fun x H' y => ?_⟩
    obtain ⟨rfl, y⟩ := y
    have := (y vs hH).symm.trans ev
    cases this
    exact ⟨G2, GLe.refl _, r, rv.le le⟩
  · have hH : SqL c.K H a vs := by
      rcases r.sub _ _ (le _ _ h1) with q | ⟨_, m, _⟩
      · exact .of q
      · exact m.elim
    exact ⟨vs, hH, by rw [← rl.length]; exact hi⟩
theorem yields_tup {ds : List D} {a : Addr} (h : Rep c.K c.mg G (.tup ds) (.ref a)) : Yields c G (Itt c.K a) ds := by
  simp only [Rep] at h
  obtain ⟨a', vs, e, h1, rl⟩ := h
  cases e
  refine fun H0' => ⟨fun i st σ H G2 d r le ed => ?_, fun i st σ H G2 r le hi => ?_⟩
  · have hH : SqT c.K H a vs := SqT.sub r.sub (SqT.le le h1)
    obtain ⟨v, ev, rv⟩ := rl.get ed
    refine ⟨⟨vs, v, hH, ev⟩, fun x H' y => ?_⟩
    obtain ⟨rfl, y⟩ := y
    have := (y vs hH).symm.trans ev
    cases this
    exact ⟨G2, GLe.refl _, r, rv.le le⟩
  · exact ⟨vs, SqT.sub r.sub (SqT.le le h1), by rw [← rl.length]; exact hi⟩
theorem yields_rng {lo : Int} {n : Nat} : Yields c G (Itr lo n) ((List.range n).map fun i => .int (lo + (i : Nat))) := by
  refine fun H0' => ⟨fun i st σ H G2 d r le ed => ?_, fun i st σ H G2 r le hi => ?_⟩
  · rw [List.getElem?_map, Option.map_eq_some_iff] at ed
    obtain ⟨j, ej, rfl⟩ := ed
    obtain ⟨hj, e2⟩ := List.getElem?_eq_some_iff.mp ej
    rw [List.length_range] at hj
    rw [List.getElem_range] at e2
    subst e2
    refine ⟨hj, fun x H' y => ?_⟩
    obtain ⟨rfl, rfl⟩ := y
    exact ⟨G2, GLe.refl _, r, by simp only [Rep]⟩
  · rw [List.length_map, List.length_range] at hi
    exact hi
/-- the pairs of enumerate -/
def enumD : Nat → List D → List D
  | _, [] => []
  | k, d :: ds => .tup [.int k, d] :: enumD (k + 1) ds
theorem enumD_get : ∀ {ds : List D} {k i : Nat}, (enumD k ds)[i]? = (ds[i]?).map fun d => .tup [.int ((k + i : Nat) : Int), d]
  | [], k, i => by simp [enumD]
  | d :: ds, k, 0 => by simp [enumD]
  | d :: ds, k, i + 1 => by
    show (enumD (k + 1) ds)[i]? = _
    rw [enumD_get, List.getElem?_cons_succ]
    have : k + 1 + i = k + (i + 1) := by omega
    rw [this]
theorem enumD_length : ∀ {ds : List D} {k : Nat}, (enumD k ds).length = ds.length
  | [], _ => rfl
  | d :: ds, k => by
    show (enumD (k + 1) ds).length + 1 = ds.length + 1
    rw [enumD_length]
theorem pair_new {x y : V} {d1 d2 : D} {T : Addr} (hT : G T = none) (h1 : Rep c.K c.mg G d1 x) (h2 : Rep c.K c.mg G d2 y) : Rep c.K c.mg (upd G T (.tup [x, y])) (.tup [d1, d2]) (.ref T) := by
  simp only [Rep]
  exact ⟨T, _, rfl, .of upd_same, RepL.le (gle_upd hT) (.cons h1 (.cons h2 .nil))⟩
theorem yields_enum {ds : List D} {a : Addr} (h : Rep c.K c.mg G (.lst ds) (.ref a)) : Yields c G (Ite c.K a) (enumD 0 ds) := by
  simp only [Rep] at h
  obtain ⟨a', vs, e, h1, rl⟩ := h
  cases e
  have hL : ∀ {H0' st σ H G2}, R (c.h H0') st σ H G2 → GLe G G2 → SqL c.K H a vs := fun r le => by
    rcases r.sub _ _ (le _ _ h1) with q | ⟨_, m, _⟩
    · exact .of q
    · exact m.elim
  refine fun H0' => ⟨fun i st σ H G2 d r le ed => ?_, fun i st σ H G2 r le hi => ?_⟩
  · rw [enumD_get, Option.map_eq_some_iff] at ed
    obtain ⟨d, ed, rfl⟩ := ed
    have hH := hL r le
    obtain ⟨v, ev, rv⟩ := rl.get ed
    refine ⟨⟨vs, v, hH, ev⟩, fun x H' y => ?_⟩
    obtain ⟨T, z, rfl, hT, rfl, y⟩ := y
    have := (y vs hH).symm.trans ev
    cases this
    exact ⟨_, gle_upd (r.sub.none hT), r.newD hT, pair_new (r.sub.none hT) (by simp only [Rep]; simp) (rv.le le)⟩
  · rw [enumD_length] at hi
    exact ⟨vs, hL r le, by rw [← rl.length]; exact hi⟩
def zipD : List D → List D → List D
  | d :: ds, e :: es => .tup [d, e] :: zipD ds es
  | _, _ => []
theorem zipD_get : ∀ {ds es : List D} {i : Nat} {z : D}, (zipD ds es)[i]? = some z → ∃ d e, ds[i]? = some d ∧ es[i]? = some e ∧ z = .tup [d, e]
  | d :: ds, e :: es, 0, z, h => by
    simp only [zipD, List.getElem?_cons_zero, Option.some.injEq] at h
    exact ⟨d, e, rfl, rfl, h.symm⟩
  | d :: ds, e :: es, i + 1, z, h => by
    simp only [zipD, List.getElem?_cons_succ] at h
    obtain ⟨d', e', h1, h2, h3⟩ := zipD_get h
    exact ⟨d', e', by simpa using h1, by simpa using h2, h3⟩
  | [], _, i, z, h => by simp [zipD] at h
  | _ :: _, [], i, z, h => by simp [zipD] at h
theorem zipD_length : ∀ {ds es : List D}, (zipD ds es).length = min ds.length es.length
  | d :: ds, e :: es => by
    simp only [zipD, List.length_cons, zipD_length]
    omega
  | [], es => by simp [zipD]
  | d :: ds, [] => by simp [zipD]
theorem yields_zip {ds es : List D} {a b : Addr} (h : Rep c.K c.mg G (.lst ds) (.ref a)) (h' : Rep c.K c.mg G (.lst es) (.ref b)) : Yields c G (Itz c.K a b) (zipD ds es) := by
  simp only [Rep] at h h'
  obtain ⟨a', vs, e, h1, rl⟩ := h
  cases e
  obtain ⟨b', ws, e, h2, rl2⟩ := h'
  cases e
  have hL : ∀ {H0' a vs st σ H G2}, G a = some (.lst vs) → R (c.h H0') st σ H G2 → GLe G G2 → SqL c.K H a vs := fun h1 r le => by
    rcases r.sub _ _ (le _ _ h1) with q | ⟨_, m, _⟩
    · exact .of q
    · exact m.elim
  refine fun H0' => ⟨fun i st σ H G2 d r le ed => ?_, fun i st σ H G2 r le hi => ?_⟩
  · obtain ⟨d1, d2, e1, e2, rfl⟩ := zipD_get ed
    have hA := hL h1 r le
    have hB := hL h2 r le
    obtain ⟨v, ev, rv⟩ := rl.get e1
    obtain ⟨w, ew, rw'⟩ := rl2.get e2
    refine ⟨⟨vs, ws, v, w, hA, hB, ev, ew⟩, fun x H' y => ?_⟩
    obtain ⟨T, z1, z2, rfl, hT, rfl, y1, y2⟩ := y
    have := (y1 vs hA).symm.trans ev
    cases this
    have := (y2 ws hB).symm.trans ew
    cases this
    exact ⟨_, gle_upd (r.sub.none hT), r.newD hT, pair_new (r.sub.none hT) (rv.le le) (rw'.le le)⟩
  · rw [zipD_length] at hi
    refine ⟨vs, ws, hL h1 r le, hL h2 r le, ?_⟩
    rw [← rl.length, ← rl2.length]
    omega
/-- iterators: a list, a tuple, ranges, enumerate, zip -/
def mIl (m : M D) : M (List D) := bnd m fun d => match d with
  | .lst ds => ret ds
  | _ => fun _ => .stuck
def mIt (m : M D) : M (List D) := bnd m fun d => match d with
  | .tup ds => ret ds
  | _ => fun _ => .stuck
theorem di_list {tg : Expr} {m : M D} (hk : c.K = X.K) (h : DE c X W e m) : DI c X W tg e (mIl m) := pi_weak (pi_list h) fun σ H Q ⟨st, G, r, p⟩ => ⟨st, G, r, (Po.seq p).mono fun d s1 H1 G1 l1 r1 ⟨_, p1⟩ v rep => by
  cases d with
  | lst ds =>
    have rep' := rep
    simp only [Rep] at rep
    obtain ⟨a, vs, rfl, h1, rl⟩ := rep
    refine ⟨a, rfl, ⟨vs, ?_⟩, p1.done r1 _ (hk ▸ yields_lst rep')⟩
    rcases r1.sub _ _ h1 with q | ⟨_, m, _⟩
    · exact .of q
    · exact m.elim
  | _ => exact p1.elim⟩
theorem di_tup {tg : Expr} {m : M D} (hk : c.K = X.K) (h : DE c X W e m) : DI c X W tg e (mIt m) := pi_weak (pi_tup h) fun σ H Q ⟨st, G, r, p⟩ => ⟨st, G, r, (Po.seq p).mono fun d s1 H1 G1 l1 r1 ⟨_, p1⟩ v rep => by
  cases d with
  | tup ds =>
    have rep' := rep
    simp only [Rep] at rep
    obtain ⟨a, vs, rfl, h1, rl⟩ := rep
    exact ⟨a, rfl, ⟨vs, hk ▸ SqT.sub r1.sub h1⟩, p1.done r1 _ (hk ▸ yields_tup rep')⟩
  | _ => exact p1.elim⟩
def rngD (lo hi : Int) : List D := (List.range (hi - lo).toNat).map fun i => .int (lo + (i : Nat))
def mR1 (m : M D) : M (List D) := bnd m fun d => match d with
  | .int j => if -4611686018427387904 ≤ j ∧ j < 4611686018427387904 then ret (rngD 0 j) else fun _ => .stuck
  | _ => fun _ => .stuck
def mR2 (m n : M D) : M (List D) := bnd m fun d => bnd n fun e => match d, e with
  | .int i, .int j => if (-4611686018427387904 ≤ i ∧ i < 4611686018427387904) ∧ (-4611686018427387904 ≤ j ∧ j < 4611686018427387904) then ret (rngD i j) else fun _ => .stuck
  | _, _ => fun _ => .stuck
theorem di_r1 {tg : Expr} {m : M D} (hg : Gl X "range") (hm : X.mg "range" = none) (h : DE c X W a m) (h1 : starEach [a] X.env = (false, eval a X.env) :: starEach [] X.env := by rfl) (hs : starEach [a] X.env = [(false, eval a X.env)] := by rfl) : DI c X W tg (.Call (.Name "range" p) [a] [] pos) (mR1 m) :=
  pi_weak (pi_range1 hg hm (pa_cons h pa_nil h1) hs) fun σ H Q ⟨st, G, r, p⟩ => ⟨st, G, r, (Po.seq p).mono fun d s1 H1 G1 l1 r1 ⟨_, p1⟩ v rep => by
    cases d with
    | int j =>
      simp only [Rep] at rep
      subst rep
      simp only at p1
      split at p1
      · rename_i hz
        refine ⟨j, rfl, hz.1, hz.2, p1.done r1 _ ?_⟩
        have := yields_rng (c := c) (G := G1) (lo := 0) (n := j.toNat)
        unfold rngD
        rw [Int.sub_zero]
        exact this
      · exact p1.elim
    | _ => exact p1.elim⟩
theorem di_r2 {tg : Expr} {m n : M D} (hg : Gl X "range") (hm : X.mg "range" = none) (ha : DE c X W a m) (hb : DE c X W b n) (h1 : starEach [a, b] X.env = (false, eval a X.env) :: starEach [b] X.env := by rfl) (h2 : starEach [b] X.env = (false, eval b X.env) :: starEach [] X.env := by rfl)
    (hs : starEach [a, b] X.env = [(false, eval a X.env), (false, eval b X.env)] := by rfl) (hs2 : starEach [b] X.env = [(false, eval b X.env)] := by rfl) : DI c X W tg (.Call (.Name "range" p) [a, b] [] pos) (mR2 m n) :=
  pi_weak (pi_range2 hg hm (pa_cons ha (pa_cons hb pa_nil h2) h1) hs hs2) fun σ H Q ⟨st, G, r, p⟩ => ⟨st, G, r, (Po.seq p).mono fun d s1 H1 G1 l1 r1 ⟨_, p1⟩ v rep => ⟨s1, G1, r1, (Po.seq p1).mono fun d2 s2 H2 G2 l2 r2 ⟨_, p2⟩ v2 rep2 => by
    cases d with
    | int i =>
      cases d2 with
      | int j =>
        simp only [Rep] at rep rep2
        subst rep rep2
        simp only at p2
        split at p2
        · rename_i hz
          exact ⟨i, j, rfl, ⟨hz.1.1, hz.1.2, hz.2.1, hz.2.2⟩, p2.done r2 _ yields_rng⟩
        · exact p2.elim
      | _ => exact p2.elim
    | _ => cases d2 <;> exact p2.elim⟩⟩
def mEn (m : M D) : M (List D) := bnd m fun d => match d with
  | .lst ds => ret (enumD 0 ds)
  | _ => fun _ => .stuck
theorem di_enum {m : M D} {elts : List Expr} {kk : Nat} {tpos : Pos} (hk : c.K = X.K) (hg : Gl X "enumerate") (hm : X.mg "enumerate" = none) (h : DE c X W a m) (h1 : starEach [a] X.env = (false, eval a X.env) :: starEach [] X.env := by rfl) (hs : starEach [a] X.env = [(false, eval a X.env)] := by rfl) :
    DI c X W (.Tuple elts kk tpos) (.Call (.Name "enumerate" p) [a] [] pos) (mEn m) :=
  pi_weak (pi_enum hg hm (pa_cons h pa_nil h1) hs) fun σ H Q ⟨st, G, r, p⟩ => ⟨st, G, r, (Po.seq p).mono fun d s1 H1 G1 l1 r1 ⟨_, p1⟩ v rep => by
    cases d with
    | lst ds =>
      have rep' := rep
      simp only [Rep] at rep
      obtain ⟨a, vs, rfl, h1, rl⟩ := rep
      refine ⟨a, vs, rfl, ?_, p1.done r1 _ (hk ▸ yields_enum rep')⟩
      rcases r1.sub _ _ h1 with q | ⟨_, m, _⟩
      · exact .of q
      · exact m.elim
    | _ => exact p1.elim⟩
def mZip (m n : M D) : M (List D) := bnd m fun d => bnd n fun e => match d, e with
  | .lst ds, .lst es => ret (zipD ds es)
  | _, _ => fun _ => .stuck
theorem di_zip {m n : M D} {elts : List Expr} {kk : Nat} {tpos : Pos} (hk : c.K = X.K) (hg : Gl X "zip") (hm : X.mg "zip" = none) (ha : DE c X W a m) (hb : DE c X W b n) (h1 : starEach [a, b] X.env = (false, eval a X.env) :: starEach [b] X.env := by rfl) (h2 : starEach [b] X.env = (false, eval b X.env) :: starEach [] X.env := by rfl)
    (hpl : (backTo pos (starEach [b] X.env)).any (·.1) = false := by rfl) : DI c X W (.Tuple elts kk tpos) (.Call (.Name "zip" p) [a, b] [] pos) (mZip m n) :=
  pi_weak (pi_zip hg hm (pa_cons ha (pa_cons hb pa_nil h2) h1) h1 hpl) fun σ H Q ⟨st, G, r, p⟩ => ⟨st, G, r, (Po.seq p).mono fun d s1 H1 G1 l1 r1 ⟨_, p1⟩ v rep => ⟨s1, G1, r1, (Po.seq p1).mono fun d2 s2 H2 G2 l2 r2 ⟨_, p2⟩ v2 rep2 => by
    cases d with
    | lst ds =>
      cases d2 with
      | lst es =>
        have rep' := rep.le l2
        have rep2' := rep2
        simp only [Rep] at rep rep2
        obtain ⟨a, vs, rfl, h1, rl⟩ := rep
        obtain ⟨b, ws, rfl, h2, rl2⟩ := rep2
        have hA : SqL X.K H2 a vs := by
          rcases r2.sub _ _ (l2 _ _ h1) with q | ⟨_, m, _⟩
          · exact .of q
          · exact m.elim
        have hB : SqL X.K H2 b ws := by
          rcases r2.sub _ _ h2 with q | ⟨_, m, _⟩
          · exact .of q
          · exact m.elim
        exact ⟨a, b, vs, ws, rfl, hA, hB, p2.done r2 _ (hk ▸ yields_zip rep' rep2')⟩
      | _ => exact p2.elim
    | _ => cases d2 <;> exact p2.elim⟩⟩

/-! ### for -/
def forL (g : GM) (body : SM) : List D → SM
  | [], st => .nx st
  | d :: ds, st => match g d st with
    | none => .stuck
    | some s1 => match body s1 with
      | .nx s2 => forL g body ds s2
      | .ct s2 => forL g body ds s2
      | .bk s2 => .nx s2
      | .rt d' s2 => .rt d' s2
      | .exc cn ns es s2 => .exc cn ns es s2
      | .stuck => .stuck
def sFor (mi : M (List D)) (g : GM) (body : SM) : SM := eS mi fun ds => forL g body ds
theorem for_run {J : It} {g : GM} {ws : List Nat} {m : SM} {G1 : Hp} : ∀ (ds : List D), Yields c G1 J ds → ∀ {st : S} {σ : Sl} {H G : Hp}, R c st σ H G → GLe G1 G → PoS c W G (forL g m ds st) De →
    ∃ Wv : Nat → Nat → L2.St → Hp → Prop, (∃ m, Wv 0 m σ H) ∧ ∀ i k σ H, Wv i k σ H →
      (J.stop i H ∧ De.nx σ H) ∨ (J.go i H ∧ ∃ N : L2.St → Hp → Prop, (∀ σ' H', N σ' H' → ∃ k', k' < k ∧ Wv (i + 1) k' σ' H') ∧ ∀ x H', J.yld i H x H' → tT c g ws x σ H' fun σ2 H2 => tS c W m { De with nx := N, ct := N, bk := De.nx } σ2 H2) := by
  intro ds Y st σ H G r le p
  refine ⟨fun i k σ H => k = ds.length - i ∧ i ≤ ds.length ∧ ∃ st G, R c st σ H G ∧ GLe G1 G ∧ PoS c W G (forL g m (ds.drop i) st) De, ⟨_, rfl, Nat.zero_le _, st, G, r, le, p⟩, ?_⟩
  rintro i k σ H ⟨rfl, hi, st, G, r, le, p⟩
  by_cases hlt : i < ds.length
  · have ed : ds[i]? = some ds[i] := List.getElem?_eq_getElem hlt
    obtain ⟨go, yl⟩ := (Y c.H0).1 i st σ H G _ r le ed
    rw [List.drop_eq_getElem_cons hlt] at p
    refine .inr ⟨go, fun σ' H' => ∃ st G, R c st σ' H' G ∧ GLe G1 G ∧ PoS c W G (forL g m (ds.drop (i + 1)) st) De, fun σ' H' q => ⟨ds.length - (i + 1), by omega, rfl, hlt, q⟩, fun x H' y => ?_⟩
    obtain ⟨G', l', r', rep⟩ := yl x H' y
    simp only [forL] at p
    cases eg : g ds[i] st with
    | none => rw [eg] at p; exact p.elim
    | some s1 =>
      rw [eg] at p
      refine ⟨st, G', _, s1, r', rep, eg, fun σ2 r2 _ => ⟨s1, G', r2, ?_⟩⟩
      simp only at p
      cases em : m s1 with
      | nx s2 => rw [em] at p; exact fun σ3 H3 G3 l3 r3 => ⟨s2, G3, r3, (le.trans l').trans l3, PoS.le (l'.trans l3) p⟩
      | ct s2 => rw [em] at p; exact fun σ3 H3 G3 l3 r3 => ⟨s2, G3, r3, (le.trans l').trans l3, PoS.le (l'.trans l3) p⟩
      | bk s2 => rw [em] at p; exact PoS.le l' p
      | rt d' s2 => rw [em] at p; exact PoS.le l' p
      | exc cn ns es s2 => rw [em] at p; exact PoS.le l' p
      | stuck => rw [em] at p; exact p
  · have e : i = ds.length := by omega
    subst e
    rw [List.drop_length] at p
    exact .inl ⟨(Y c.H0).2 _ st σ H G r le (Nat.le_refl _), p σ H G (GLe.refl G) r⟩
theorem ds_for {tg iter : Expr} {body : List Stmt} {mi : M (List D)} {g : GM} {ws : List Nat} {m : SM} (hp : PassesOwn (model X.prog X.w) X.A X.env X.xe) (hc : X.calm = true) (hi : DI c X W tg iter mi) (hg : DG c X tg g ws) (hb : DSs c X W body m)
    (hs : ∀ x, foldedSetIterable iter X.env x = pure x := by intro _; rfl) : DS c X W (.For tg iter body [] pos) (sFor mi g m) :=
  ps_weak (ps_for hp hc hi hg hb hs) fun De σ H ⟨st, G, r, p⟩ => ⟨st, G, r, (PoS.of p).mono fun ds s1 H1 G1 l1 r1 ⟨_, p1⟩ J Y => for_run ds Y r1 (GLe.refl G1) p1⟩

/-! ### while -/
def whileN (t : M Bool) (body : SM) : Nat → SM
  | 0, _ => .stuck
  | n + 1, st => match t st with
    | .ok true s1 => match body s1 with
      | .nx s2 => whileN t body n s2
      | .ct s2 => whileN t body n s2
      | .bk s2 => .nx s2
      | .rt d' s2 => .rt d' s2
      | .exc cn ns es s2 => .exc cn ns es s2
      | .stuck => .stuck
    | .ok false s1 => .nx s1
    | .exc cn ns es s1 => .exc cn ns es s1
    | .stuck => .stuck
theorem ds_while (fuel : Nat) {t : Expr} {body : List Stmt} {mt : M Bool} {m : SM} (hp : PassesOwn (model X.prog X.w) X.A X.env X.xe) (ht : DT c X W t mt) (hb : DSs c X W body m) : DS c X W (.While t body [] pos) (whileN mt m fuel) := by
  refine ps_weak (ps_while hp ht hb) fun De σ H ⟨st, G, r, p⟩ => ?_
  refine ⟨fun n σ H => ∃ st G, R c st σ H G ∧ PoS c W G (whileN mt m n st) De, ⟨fuel, st, G, r, p⟩, ?_⟩
  rintro n σ H ⟨st, G, r, p⟩
  cases n with
  | zero => exact p.elim
  | succ n =>
    simp only [whileN] at p
    refine ⟨st, G, r, ?_⟩
    cases et : mt st with
    | ok k s1 =>
      rw [et] at p
      intro H1 G1 l1 r1
      cases k with
      | true =>
        simp only at p
        refine ⟨fun σ' H' => ∃ st G, R c st σ' H' G ∧ PoS c W G (whileN mt m n st) De, fun σ' H' q => ⟨n, Nat.lt_succ_self n, q⟩, s1, G1, r1, ?_⟩
        cases em : m s1 with
        | nx s2 => rw [em] at p; exact fun σ3 H3 G3 l3 r3 => ⟨s2, G3, r3, PoS.le (l1.trans l3) p⟩
        | ct s2 => rw [em] at p; exact fun σ3 H3 G3 l3 r3 => ⟨s2, G3, r3, PoS.le (l1.trans l3) p⟩
        | bk s2 => rw [em] at p; exact PoS.le l1 p
        | rt d' s2 => rw [em] at p; exact PoS.le l1 p
        | exc cn ns es s2 => rw [em] at p; exact PoS.le l1 p
        | stuck => rw [em] at p; exact p
      | false =>
        simp only at p
        exact p σ H1 G1 l1 r1
    | exc cn ns es s1 => rw [et] at p; exact fun cls od H1 G1 l1 r1 x => p cls od σ H1 G1 l1 r1 x
    | stuck => rw [et] at p; exact p
end
end Dn

set_option Elab.async false
set_option linter.all false
set_option maxRecDepth 100000
set_option maxHeartbeats 2000000
/-! Dn, part I: list comprehensions. -/
namespace Dn
open PySem PySem.Spec PyProof.Rows L2

def unset : List Nat → S → S
  | [], st => st
  | i :: is, st => (unset is st).set i .un
def keepV : Option SV → SV
  | some (.va d) => .va d
  | _ => .un
def restore (st0 : S) : List Nat → S → S
  | [], st => st
  | i :: is, st => (restore st0 is st).set i (keepV (st0[i]?))
section
variable {c : Ct} {st st0 : S} {σ σ' : Sl} {G G0 H : Hp}
theorem at'_wipe_ne {i : Nat} {vs : List Nat} (h : i ∉ vs) : at' (wipe σ vs) i = at' σ i := by
  unfold at'
  rw [wipe_out h]
/-- slots without a value may be anything -/
theorem R.slots (r : R c st σ H G) (hl : σ'.length = σ.length) (hs : ∀ (i : Nat) (sv : SV), st[i]? = some sv → (∃ d, sv = .va d ∨ sv = .bo d ∨ sv = .ow d ∨ sv = .io d) → at' σ' i = at' σ i) : R c st σ' H G := by
  refine ⟨by rw [hl]; exact r.len, r.sub, fun i sv e => ?_, fun i j a si sj n ei ej oi oj x y => ?_, r.frame, r.ge0, r.fresh, r.alive, r.wf⟩
  · have q := r.slot i sv e
    cases sv with
    | un => exact trivial
    | va d => rw [hs i _ e ⟨d, .inl rfl⟩]; exact q
    | bo d => rw [hs i _ e ⟨d, .inr (.inl rfl)⟩]; exact q
    | ow d => rw [hs i _ e ⟨d, .inr (.inr (.inl rfl))⟩]; exact q
    | io d => rw [hs i _ e ⟨d, .inr (.inr (.inr rfl))⟩]; exact q
  · have eo : ∀ (m : Nat) (sv : SV), st[m]? = some sv → sv.own = true → at' σ' m = at' σ m := fun m sv em om => by
      cases sv with
      | un => cases om
      | va d => cases om
      | bo d => cases om
      | ow d => exact hs m _ em ⟨d, .inr (.inr (.inl rfl))⟩
      | io d => exact hs m _ em ⟨d, .inr (.inr (.inr rfl))⟩
    rw [eo i si ei oi] at x
    rw [eo j sj ej oj] at y
    exact r.apart i j a si sj n ei ej oi oj x y
theorem unset_length : ∀ {vs : List Nat}, (unset vs st).length = st.length
  | [] => rfl
  | v :: vs => by
    show ((unset vs st).set v .un).length = _
    rw [List.length_set, unset_length]
theorem unset_get {i : Nat} {sv : SV} : ∀ {vs : List Nat}, (unset vs st)[i]? = some sv → sv = .un ∨ (i ∉ vs ∧ st[i]? = some sv)
  | [], h => .inr ⟨by simp, h⟩
  | v :: vs, h => by
    have h : ((unset vs st).set v .un)[i]? = some sv := h
    by_cases e : v = i
    · subst e
      have hi : v < (unset vs st).length := by
        obtain ⟨h', _⟩ := List.getElem?_eq_some_iff.mp h
        simpa using h'
      rw [List.getElem?_set_self hi] at h
      cases h
      exact .inl rfl
    · rw [List.getElem?_set_ne e] at h
      rcases unset_get h with z | ⟨z1, z2⟩
      · exact .inl z
      · exact .inr ⟨by simp only [List.mem_cons, not_or]; exact ⟨fun q => e q.symm, z1⟩, z2⟩
theorem R.unset1 (r : R c st σ H G) : ∀ (vs : List Nat), R c (unset vs st) σ H G
  | [] => r
  | v :: vs => (r.unset1 vs).forget rfl fun _ _ => rfl
/-- into a block -/
theorem R.blk (r : R c st σ H G) (vs : List Nat) : R c (unset vs st) (wipe σ vs) H G := (r.unset1 vs).slots (wipe_length σ vs) fun i sv e ⟨d, h⟩ => by
  rcases unset_get e with z | ⟨z1, _⟩
  · subst z
    rcases h with h | h | h | h <;> cases h
  · exact at'_wipe_ne z1
/-- out of it -/
theorem R.unblk (r : R c (unset vs st) (wipe σ vs) H G) : R c (unset vs st) σ H G := r.slots (wipe_length σ vs).symm fun i sv e ⟨d, h⟩ => by
  rcases unset_get e with z | ⟨z1, _⟩
  · subst z
    rcases h with h | h | h | h <;> cases h
  · exact (at'_wipe_ne z1).symm
theorem R.restore (r0 : R c st0 σ H0' G0) (le : GLe G0 G) : ∀ (vs : List Nat) {st : S}, R c st σ H G → R c (Dn.restore st0 vs st) σ H G
  | [], _, r => r
  | v :: vs, st, r => by
    have r1 := R.restore r0 le vs r
    show R c ((Dn.restore st0 vs st).set v (keepV (st0[v]?))) σ H G
    cases e : st0[v]? with
    | none => exact r1.forget rfl fun _ _ => rfl
    | some sv =>
      cases sv with
      | va d =>
        obtain ⟨w, x, q⟩ := r0.slot v _ e
        have r2 := r1.set (i := v) (q.le le)
        have e2 := at'_some x
        have hσ := (List.getElem?_eq_some_iff.mp e2).1
        have es' : σ.set v (some w) = σ := List.ext_getElem? fun j => by
          by_cases n : v = j
          · subst n; rw [List.getElem?_set_self hσ, e2]
          · rw [List.getElem?_set_ne n]
        rw [es'] at r2
        exact r2
      | _ => exact r1.forget rfl fun _ _ => rfl
/-- an object that no one owns is guarded as if it had stood at the entry -/
theorem R.guard (r : R c st σ H G) {a : Addr} {o : HO} (h : H a = some o) (h0 : c.H0 a = none) (g : G a = none) (ni : a ∉ c.ios) (ap : ∀ (i : Nat) (sv : SV), st[i]? = some sv → sv.own = true → at' σ i ≠ some (.ref a)) : R (c.h (upd c.H0 a o)) st σ H G := by
  refine ⟨r.len, r.sub, fun i sv e => ?_, r.apart, fun b u e n => ?_, r.ge0, fun b e e0 => ?_, r.alive, ⟨fun b u e => ⟨?_, (r.wf.lent b u e).2⟩, fun b hb => ?_⟩⟩
  · have q := r.slot i sv e
    cases sv with
    | un => exact trivial
    | va d => exact q
    | bo d => exact q
    | ow d =>
      obtain ⟨b, x, q1, q2, q3⟩ := q
      refine ⟨b, x, q1, ?_, q3⟩
      show upd c.H0 a o b = none
      rw [upd_ne (fun z => ap i _ e rfl (by rw [x, z]))]
      exact q2
    | io d => exact q
  · have e : upd c.H0 a o b = some u := e
    by_cases z : b = a
    · subst z
      rw [upd_same] at e
      cases e
      exact .inl h
    · rw [upd_ne z] at e
      exact r.frame b u e n
  · show upd c.H0 a o b = none
    have z : b ≠ a := fun z => e (by rw [z]; exact g)
    rw [upd_ne z]
    exact r.fresh b e e0
  · show upd c.H0 a o b = some u
    have q := (r.wf.lent b u e).1
    rw [upd_ne (fun z => by rw [z, h0] at q; cases q)]
    exact q
  · show upd c.H0 a o b ≠ none
    rw [upd_ne (fun z => ni (by rw [← z]; exact hb))]
    exact r.wf.ios0 b hb
theorem R.unguard {H0' : Hp} (r : R (c.h H0') st σ H G) (le : ∀ a o, c.H0 a = some o → H0' a = some o) (ln : Wf c) : R c st σ H G := by
  have none_of : ∀ a, H0' a = none → c.H0 a = none := fun a h => by
    cases e : c.H0 a with
    | none => rfl
    | some o => rw [le a o e] at h; cases h
  refine ⟨r.len, r.sub, fun i sv e => ?_, r.apart, fun b u e n => r.frame b u (le b u e) n, r.ge0, fun b e e0 => none_of b (r.fresh b e e0), r.alive, ln⟩
  have q := r.slot i sv e
  cases sv with
  | un => exact trivial
  | va d => exact q
  | bo d => exact q
  | ow d =>
    obtain ⟨b, x, q1, q2, q3⟩ := q
    exact ⟨b, x, q1, none_of b q2, q3⟩
  | io d => exact q
end

/-! ### [e for x in xs if t] -/
def lcL (own : List Nat) (g : GM) (t : M Bool) (te : M D) : List D → M (List D)
  | [], st => .ok [] st
  | d :: ds, st => match g d st with
    | none => .stuck
    | some s1 => match t s1 with
      | .ok true s2 => match te s2 with
        | .ok y s3 => match lcL own g t te ds (unset own s3) with
          | .ok ys s4 => if ys.length < 16777215 then .ok (y :: ys) s4 else .stuck
          | _ => .stuck
        | _ => .stuck
      | .ok false s2 => lcL own g t te ds (unset own s2)
      | _ => .stuck
def mLc (mi : M (List D)) (own : List Nat) (g : GM) (t : M Bool) (te : M D) : M D := bnd mi fun ds st => match lcL own g t te ds (unset own st) with
  | .ok ys st' => .ok (.lst ys) (restore st own st')
  | _ => .stuck
abbrev W0 : WX := fun _ _ _ _ => False
section
variable {c : Ct} {X : Cx} {W : WX} {σ : Sl} {G H : Hp}
theorem wipe_of_ch {ws vs : List Nat} {σ σ2 : Sl} (h : Ch ws (wipe σ vs) σ2) (sub : ∀ j ∈ ws, j ∈ vs) : wipe σ2 vs = wipe σ vs := by
  have key : ∀ (us : List Nat) (j : Nat), j ∈ us → ∀ τ : Sl, (wipe τ us)[j]? = (τ[j]?).map fun _ => none := by
    intro us
    induction us with
    | nil => intro j hj; cases hj
    | cons u us ih =>
      intro j hj τ
      show ((wipe τ us).set u none)[j]? = _
      by_cases e : u = j
      · subst e
        by_cases hl : u < τ.length
        · rw [List.getElem?_set_self (by rw [wipe_length]; exact hl), List.getElem?_eq_getElem hl]
          rfl
        · rw [List.getElem?_eq_none (by rw [List.length_set, wipe_length]; omega), List.getElem?_eq_none (by omega)]
          rfl
      · rw [List.getElem?_set_ne e]
        rcases List.mem_cons.mp hj with z | z
        · exact absurd z.symm e
        · exact ih j z τ
  refine List.ext_getElem? fun j => ?_
  by_cases hj : j ∈ vs
  · rw [key vs j hj σ2, key vs j hj σ]
    have hl : σ2.length = σ.length := by rw [h.1, wipe_length]
    by_cases hz : j < σ.length
    · rw [List.getElem?_eq_getElem hz, List.getElem?_eq_getElem (by omega)]
      rfl
    · rw [List.getElem?_eq_none (by omega), List.getElem?_eq_none (by omega)]
  · rw [wipe_out hj, wipe_out hj, h.2 j (fun z => hj (sub j z)), wipe_out hj]
theorem restore_own {st0 : S} {i : Nat} {sv : SV} (o : sv.own = true) : ∀ {vs : List Nat} {st : S}, (restore st0 vs st)[i]? = some sv → st[i]? = some sv
  | [], _, h => h
  | v :: vs, st, h => by
    have h : ((restore st0 vs st).set v (keepV (st0[v]?)))[i]? = some sv := h
    by_cases e : v = i
    · subst e
      have hi : v < (restore st0 vs st).length := by
        obtain ⟨h', _⟩ := List.getElem?_eq_some_iff.mp h
        simpa using h'
      rw [List.getElem?_set_self hi] at h
      cases h
      unfold keepV at o
      split at o <;> cases o
    · rw [List.getElem?_set_ne e] at h
      exact restore_own o h
theorem R.apartOf {H0' : Hp} {st : S} {Dl : Addr} {u : HO} (r : R (c.h H0') st σ H G) (h : H0' Dl = some u) (ni : Dl ∉ c.ios) (i : Nat) (sv : SV) (e : st[i]? = some sv) (o : sv.own = true) : at' σ i ≠ some (.ref Dl) := fun x => by
  have q := r.slot i sv e
  cases sv with
  | un => cases o
  | va d => cases o
  | bo d => cases o
  | ow d =>
    obtain ⟨b, y, _, z, _⟩ := q
    rw [x] at y
    cases y
    have z : H0' Dl = none := z
    rw [h] at z
    cases z
  | io d =>
    obtain ⟨b, y, _, z, _⟩ := q
    rw [x] at y
    cases y
    exact ni z
/-- the guarded object is changed -/
theorem R.regu {st : S} {Dl : Addr} {u u' : HO} (r : R (c.h (upd c.H0 Dl u)) st σ H G) (ni : Dl ∉ c.ios) (g : G Dl = none) (hB : c.B Dl = none) : R (c.h (upd c.H0 Dl u')) st σ (upd H Dl u') G := by
  have ne0 : ∀ {a : Addr}, upd c.H0 Dl u a = none → a ≠ Dl := fun h z => by rw [z, upd_same] at h; cases h
  refine ⟨r.len, fun a o e => ?_, fun i sv e => ?_, r.apart, fun b o e n => ?_, r.ge0, fun b e e0 => ?_, fun b hb => ?_, ⟨fun b o e => ?_, fun b hb => ?_⟩⟩
  · rw [upd_ne (fun z => by rw [z, g] at e; cases e)]
    exact r.sub a o e
  · have q := r.slot i sv e
    cases sv with
    | un => exact trivial
    | va d => exact q
    | bo d => exact q
    | ow d =>
      obtain ⟨a, x, q1, q2, q3⟩ := q
      have na := ne0 q2
      refine ⟨a, x, q1, ?_, q3.le (GLe.refl _) fun o h => by rw [upd_ne na]; exact h⟩
      have q2 : upd c.H0 Dl u a = none := q2
      show upd c.H0 Dl u' a = none
      rw [upd_ne na] at q2 ⊢
      exact q2
    | io d =>
      obtain ⟨a, x, q1, q2, q3⟩ := q
      have na : a ≠ Dl := fun z => ni (by rw [← z]; exact q2)
      exact ⟨a, x, q1, q2, q3.le (GLe.refl _) fun o h => by rw [upd_ne na]; exact h⟩
  · have e : upd c.H0 Dl u' b = some o := e
    by_cases z : b = Dl
    · subst z
      rw [upd_same] at e ⊢
      exact .inl e
    · rw [upd_ne z] at e ⊢
      exact r.frame b o (show upd c.H0 Dl u b = some o by rw [upd_ne z]; exact e) n
  · have z : b ≠ Dl := fun z => e (by rw [z]; exact g)
    have q : upd c.H0 Dl u b = none := r.fresh b e e0
    show upd c.H0 Dl u' b = none
    rw [upd_ne z] at q ⊢
    exact q
  · rw [upd_ne (fun z => ni (by rw [← z]; exact hb))]
    exact r.alive b hb
  · have z : b ≠ Dl := fun z => by rw [z, hB] at e; cases e
    obtain ⟨q1, q2⟩ := r.wf.lent b o e
    have q1 : upd c.H0 Dl u b = some o := q1
    refine ⟨?_, q2⟩
    show upd c.H0 Dl u' b = some o
    rw [upd_ne z] at q1 ⊢
    exact q1
  · have q : upd c.H0 Dl u b ≠ none := r.wf.ios0 b hb
    have z : b ≠ Dl := fun z => ni (by rw [← z]; exact hb)
    show upd c.H0 Dl u' b ≠ none
    rw [upd_ne z] at q ⊢
    exact q
def tTE (c : Ct) (g : GM) (ws : List Nat) : TG := fun v σ H Q => ∃ H0', tT (c.h H0') g ws v σ H Q
def tBE (c : Ct) (t : M Bool) : TT := fun σ H Q => ∃ H0', tB' (c.h H0') W0 t σ H Q
def tME (c : Ct) (t : M D) : TE := fun σ H Q => ∃ H0', tM (c.h H0') W0 t σ H Q
theorem lc_run {J : It} {g : GM} {ws own : List Nat} {t : M Bool} {te : M D} {H1 : Hp} {Dl : Addr} {st : S} {Qd : Hp → Prop} (sub : ∀ j ∈ ws, j ∈ own) (ds : List D) (Y : Yields c G J ds) (r : R c st σ H1 G) (hD : H1 Dl = none)
    {ys : List D} {st' : S} (e : lcL own g t te ds (unset own st) = .ok ys st')
    (q : ∀ H' G' vs, GLe G G' → R c (restore st own st') σ H' G' → H' Dl = some (.lst vs) → RepL c.K c.mg G' ys vs → G' Dl = none → c.H0 Dl = none → (∀ (i : Nat) (sv : SV), (restore st own st')[i]? = some sv → sv.own = true → at' σ i ≠ some (.ref Dl)) → Qd H') :
    ∃ Wv : Nat → Nat → Hp → Prop, (∃ m, Wv 0 m (upd H1 Dl (.lst []))) ∧ ∀ i k H, Wv i k H →
      (J.stop i H ∧ Qd H) ∨ (J.go i H ∧ ∃ Nx : Hp → Prop, (∀ H', Nx H' → ∃ k', k' < k ∧ Wv (i + 1) k' H') ∧ ∀ x H', J.yld i H x H' → tTE c g ws x (wipe σ own) H' fun σ2 H2 => wipe σ2 own = wipe σ own ∧ tBE c t σ2 H2 fun b H3 =>
        if b = true then tME c te σ2 H3 fun y H4 => ∃ acc, H4 Dl = some (.lst acc) ∧ acc.length < sizeLine ∧ Nx (upd H4 Dl (.lst (acc ++ [y]))) else Nx H3) := by
  have g0 : G Dl = none := r.sub.none hD
  have h0 : c.H0 Dl = none := r.h0none hD
  have ni : Dl ∉ c.ios := fun z => r.alive Dl z hD
  have hB : c.B Dl = none := by
    cases eb : c.B Dl with
    | none => rfl
    | some o => have := (r.wf.lent Dl o eb).1; rw [h0] at this; cases this
  -- what holds at turn i
  refine ⟨fun i k H => k = ds.length - i ∧ i ≤ ds.length ∧ ∃ sb G2 acc accD ysr, R (c.h (upd c.H0 Dl (.lst acc))) (unset own sb) (wipe σ own) H G2 ∧ GLe G G2 ∧ H Dl = some (.lst acc) ∧ RepL c.K c.mg G2 accD acc ∧ G2 Dl = none ∧
    lcL own g t te (ds.drop i) (unset own sb) = .ok ysr st' ∧ ys = accD ++ ysr ∧ (accD ≠ [] → accD.length + ysr.length ≤ 16777216), ⟨_, rfl, Nat.zero_le _, st, G, [], [], ys, ?_, GLe.refl G, upd_same, .nil, g0, e, rfl, fun z => absurd rfl z⟩, ?_⟩
  · have r1 := (r.blk own).new (o := .lst []) hD
    exact r1.guard upd_same h0 g0 ni fun i sv ei oi x => by
      rcases unset_get ei with z | ⟨z1, z2⟩
      · subst z; cases oi
      · rw [at'_wipe_ne z1] at x
        have q := r.slot i sv z2
        cases sv with
        | un => cases oi
        | va d => cases oi
        | bo d => cases oi
        | ow d =>
          obtain ⟨a, y, _, _, w⟩ := q
          rw [x] at y; cases y
          obtain ⟨o, ho⟩ := w.there
          rw [hD] at ho; cases ho
        | io d =>
          obtain ⟨a, y, _, _, w⟩ := q
          rw [x] at y; cases y
          obtain ⟨o, ho⟩ := w.there
          rw [hD] at ho; cases ho
  · rintro i k H ⟨rfl, hi, sb, G2, acc, accD, ysr, rI, le, hDl, rlA, gD, el, ey, hsz⟩
    by_cases hlt : i < ds.length
    · have ed : ds[i]? = some ds[i] := List.getElem?_eq_getElem hlt
      obtain ⟨go, yl⟩ := (Y _).1 i _ _ H G2 _ rI le ed
      rw [List.drop_eq_getElem_cons hlt] at el
      refine .inr ⟨go, fun H' => i + 1 ≤ ds.length ∧ ∃ sb G2 acc accD ysr, R (c.h (upd c.H0 Dl (.lst acc))) (unset own sb) (wipe σ own) H' G2 ∧ GLe G G2 ∧ H' Dl = some (.lst acc) ∧ RepL c.K c.mg G2 accD acc ∧ G2 Dl = none ∧
        lcL own g t te (ds.drop (i + 1)) (unset own sb) = .ok ysr st' ∧ ys = accD ++ ysr ∧ (accD ≠ [] → accD.length + ysr.length ≤ 16777216), fun H' q => ⟨ds.length - (i + 1), by omega, rfl, q⟩, fun x H' y => ?_⟩
      obtain ⟨G3, l3, r3, rep3⟩ := yl x H' y
      simp only [lcL] at el
      cases eg : g ds[i] (unset own sb) with
      | none => simp only [eg, reduceCtorEq] at el
      | some s1 =>
        simp only [eg] at el
        refine ⟨upd c.H0 Dl (.lst acc), _, G3, _, s1, r3, rep3, eg, fun σ2 r4 ch => ?_⟩
        have wq := wipe_of_ch ch sub
        refine ⟨wq, upd c.H0 Dl (.lst acc), s1, G3, r4, ?_⟩
        have look3 : H' Dl = some (.lst acc) := by
          rcases r4.frame Dl (.lst acc) (show upd c.H0 Dl (.lst acc) Dl = _ from upd_same) ni with z | ⟨_, m, _⟩
          · exact z
          · exact m.elim
        cases et : t s1 with
        | stuck => simp only [et, reduceCtorEq] at el
        | exc cn ns es s2 => simp only [et, reduceCtorEq] at el
        | ok b s2 =>
          intro H5 G5 l5 r5
          cases b with
          | false =>
            simp only [et] at el
            show i + 1 ≤ ds.length ∧ _
            have r6 := r5.blk own
            rw [wq] at r6
            refine ⟨hlt, s2, G5, acc, accD, ysr, r6, (le.trans l3).trans l5, ?_, RepL.le (l3.trans l5) rlA, ?_, el, ey, hsz⟩
            · rcases r5.frame Dl (.lst acc) (show upd c.H0 Dl (.lst acc) Dl = _ from upd_same) ni with z | ⟨_, m, _⟩
              · exact z
              · exact m.elim
            · cases z : G5 Dl with
              | none => rfl
              | some o =>
                have z0 : c.G0 Dl = none := by
                  cases zz : c.G0 Dl with
                  | none => rfl
                  | some o => have := r.ge0 _ _ zz; rw [g0] at this; cases this
                have := r5.fresh Dl (by rw [z]; exact fun y => nomatch y) z0
                have this : upd c.H0 Dl (.lst acc) Dl = none := this
                rw [upd_same] at this
                cases this
          | true =>
            simp only [et] at el
            cases ee : te s2 with
            | stuck => simp only [ee, reduceCtorEq] at el
            | exc cn ns es s3 => simp only [ee, reduceCtorEq] at el
            | ok y1 s3 =>
              simp only [ee] at el
              cases ek : lcL own g t te (ds.drop (i + 1)) (unset own s3) with
              | stuck => simp only [ek, reduceCtorEq] at el
              | exc cn ns es s4 => simp only [ek, reduceCtorEq] at el
              | ok ys4 s4 =>
                simp only [ek] at el
                split at el
                · rename_i hz
                  have e1 : y1 :: ys4 = ysr := by
                    injection el
                  have e2 : s4 = st' := by
                    injection el
                  subst e1 e2
                  show ∃ H0', _
                  refine ⟨upd c.H0 Dl (.lst acc), s2, G5, r5, ?_⟩
                  rw [ee]
                  intro H6 G6 l6 r6 v repv
                  have look6 : H6 Dl = some (.lst acc) := by
                    rcases r6.frame Dl (.lst acc) (show upd c.H0 Dl (.lst acc) Dl = _ from upd_same) ni with z | ⟨_, m, _⟩
                    · exact z
                    · exact m.elim
                  have gD6 : G6 Dl = none := by
                    cases z : G6 Dl with
                    | none => rfl
                    | some o =>
                      have z0 : c.G0 Dl = none := by
                        cases zz : c.G0 Dl with
                        | none => rfl
                        | some o => have := r.ge0 _ _ zz; rw [g0] at this; cases this
                      have := r6.fresh Dl (by rw [z]; exact fun y => nomatch y) z0
                      have this : upd c.H0 Dl (.lst acc) Dl = none := this
                      rw [upd_same] at this
                      cases this
                  have rl6 := RepL.le (l3.trans (l5.trans l6)) rlA
                  have hlen : accD.length + 1 + ys4.length ≤ 16777216 := by
                    by_cases z : accD = []
                    · subst z
                      simp only [List.length_nil]
                      omega
                    · have := hsz z
                      simp only [List.length_cons] at this
                      omega
                  refine ⟨acc, look6, by rw [← rlA.length, sl_eq]; omega, hlt, s3, G6, acc ++ [v], accD ++ [y1], ys4, ?_, (le.trans l3).trans (l5.trans l6), upd_same, rl6.snoc repv, gD6, ek, by rw [ey]; simp, fun _ => by simp only [List.length_append, List.length_cons, List.length_nil]; omega⟩
                  have r7 := (r6.blk own).regu (u' := .lst (acc ++ [v])) ni gD6 hB
                  rw [wq] at r7
                  exact r7
                · cases el
    · have ei : i = ds.length := by omega
      subst ei
      rw [List.drop_length] at el
      simp only [lcL] at el
      have e1 : [] = ysr := by injection el
      have e2 : unset own sb = st' := by injection el
      subst e1
      rw [List.append_nil] at ey
      subst ey
      refine .inl ⟨(Y _).2 _ _ _ H G2 rI le (Nat.le_refl _), ?_⟩
      have r1 : R (c.h (upd c.H0 Dl (.lst acc))) (unset own sb) σ H G2 := rI.unblk
      have r2 : R c (unset own sb) σ H G2 := r1.unguard (fun a o h => by rw [upd_ne (fun z => by rw [z, h0] at h; cases h)]; exact h) r.wf
      have r3 := R.restore r le own r2
      rw [← e2] at q
      refine q H G2 acc le r3 hDl rlA gD h0 fun j sv ej oj => ?_
      exact r1.apartOf (show upd c.H0 Dl (.lst acc) Dl = _ from upd_same) ni j sv (restore_own oj ej) oj
/-! ### the rules -/
abbrev DTs (c : Ct) (X : Cx) (ifs : List Expr) (m : M Bool) : Prop := PTs X ifs (tB' c W0 m)
theorem pts_weak {ifs : List Expr} {t t' : TT} (h : PTs X ifs t) (w : ∀ σ H Q, t' σ H Q → t σ H Q) : PTs X ifs t' := ⟨fun pins s σ H Q I q => h.run pins s σ H Q I (w σ H Q q)⟩
theorem dts_nil : DTs c X [] (ret true) := pts_weak pts_nil fun σ H Q ⟨st, G, r, p⟩ => p.done r
theorem dts_one {e : Expr} {m : M Bool} (h : DT c X W0 e m) : DTs c X [e] m := pts_one h
theorem pg_ex {tg : Expr} {g : GM} {ws : List Nat} (h : ∀ H0', DG (c.h H0') X tg g ws) : PG X tg (tTE c g ws) := ⟨fun pins s σ H v u Q I r ⟨H0', q⟩ => (h H0').run pins s σ H v u Q I r q⟩
theorem pts_ex {ifs : List Expr} {m : M Bool} (h : ∀ H0', DTs (c.h H0') X ifs m) : PTs X ifs (tBE c m) := ⟨fun pins s σ H Q I ⟨H0', q⟩ => (h H0').run pins s σ H Q I q⟩
theorem pe_ex {e : Expr} {m : M D} (h : ∀ H0', DE (c.h H0') X W0 e m) : PE X e (tME c m) := ⟨fun pins s σ H Q I ⟨H0', q⟩ => (h H0').run pins s σ H Q I q⟩
theorem lc_s {mi : M (List D)} {g : GM} {ws own : List Nat} {t : M Bool} {te : M D} (sub : ∀ j ∈ ws, j ∈ own) : ∀ σ H Q, tN c W (mLc mi own g t te) σ H Q → tLc (tI c W mi) (tTE c g ws) (tBE c t) (tME c te) own σ H Q := fun σ H Q ⟨st, G, r, p⟩ => ⟨st, G, r, (Po.seq p).mono fun ds s1 H1 G1 l1 r1 ⟨_, p1⟩ J Y Dl hD => by
  cases e : lcL own g t te ds (unset own s1) with
  | stuck => rw [e] at p1; exact p1.elim
  | exc cn ns es s2 => rw [e] at p1; exact p1.elim
  | ok ys st' =>
    rw [e] at p1
    refine lc_run sub ds Y r1 hD e fun H' G' vs le r' hl rl g h0 ap => ?_
    exact p1 H' G' le r' Dl ⟨g, h0, by simp only [Own]; exact ⟨vs, hl, rl⟩, ap⟩⟩
section
variable {elt tg iter : Expr} {ifs : List Expr} {scope : Scope} {own : List (Str × Nat)} {pos : Pos} {mi : M (List D)} {g : GM} {ws : List Nat} {t : M Bool} {te : M D}
theorem dn_lc (hc : X.calm = true) (hN : X.N.Nodup) (hi : DI c X W tg iter mi) (ok : BlkOk X.N X.env.scope scope own) (sub : ∀ j ∈ ws, j ∈ own.map (·.2))
    (hg : ∀ (s : Shared) (H : Hp) (C : Addr) (cl : List (Str × Addr)) (fp : List Addr) (H0' : Hp), DG (c.h H0') (X.blk s H scope (compEnvC scope cl C X.env) fp) tg g ws)
    (ht : ∀ (s : Shared) (H : Hp) (C : Addr) (cl : List (Str × Addr)) (fp : List Addr) (H0' : Hp), DTs (c.h H0') (X.blk s H scope (compEnvC scope cl C X.env) fp) ifs t)
    (he : ∀ (s : Shared) (H : Hp) (C : Addr) (cl : List (Str × Addr)) (fp : List Addr) (H0' : Hp), DE (c.h H0') (X.blk s H scope (compEnvC scope cl C X.env) fp) W0 elt te)
    (hs : ∀ x, foldedSetIterable iter X.env x = pure x := by intro _; rfl) : DN c X W (.ListComp elt [⟨tg, iter, ifs, 0⟩] scope pos) (mLc mi (own.map (·.2)) g t te) :=
  pe_weak (pe_lc hc hN hi ok (fun s H C cl fp => pg_ex (hg s H C cl fp)) (fun s H C cl fp => pts_ex (ht s H C cl fp)) (fun s H C cl fp => pe_ex (he s H C cl fp)) hs) (lc_s sub)
theorem ds_setLc {i : Nat} {y : Str} {py spos : Pos} (hc : X.calm = true) (hN : X.N.Nodup) (hy : X.N[i]? = some y) (hyl : X.env.scope.names.lookup y = some .local)
    (hsw : swapsWith (.ListComp elt [⟨tg, iter, ifs, 0⟩] scope pos) (some (.Name y py)) spos.line X.env = pure true) (hi : DI c X W tg iter mi) (ok : BlkOk X.N X.env.scope scope own) (sub : ∀ j ∈ ws, j ∈ own.map (·.2))
    (hg : ∀ (s : Shared) (H : Hp) (C : Addr) (cl : List (Str × Addr)) (fp : List Addr) (H0' : Hp), DG (c.h H0') (X.blk s H scope (compEnvC scope cl C X.env) fp) tg g ws)
    (ht : ∀ (s : Shared) (H : Hp) (C : Addr) (cl : List (Str × Addr)) (fp : List Addr) (H0' : Hp), DTs (c.h H0') (X.blk s H scope (compEnvC scope cl C X.env) fp) ifs t)
    (he : ∀ (s : Shared) (H : Hp) (C : Addr) (cl : List (Str × Addr)) (fp : List Addr) (H0' : Hp), DE (c.h H0') (X.blk s H scope (compEnvC scope cl C X.env) fp) W0 elt te)
    (hs : ∀ x, foldedSetIterable iter X.env x = pure x := by intro _; rfl) : DS c X W (.Assign [.Name y py] (.ListComp elt [⟨tg, iter, ifs, 0⟩] scope pos) spos) (sOwn i (mLc mi (own.map (·.2)) g t te)) :=
  ps_weak (ps_setLc hc hN hy hyl hsw hi ok (fun s H C cl fp => pg_ex (hg s H C cl fp)) (fun s H C cl fp => pts_ex (ht s H C cl fp)) (fun s H C cl fp => pe_ex (he s H C cl fp)) hs) (own_asg (lc_s sub))
end
end
end Dn

set_option Elab.async false
set_option linter.all false
set_option maxRecDepth 100000
set_option maxHeartbeats 2000000
/-! Dn, part J: defs: what they promise, their calls. -/
namespace Dn
open PySem PySem.Spec PyProof.Rows L2

/-- what a def hands back; io: what then stands in the object that was handed to be changed -/
inductive FRes where
  | ok (d : D) (io : Option D) | exc (c : Str) (ns : List Str) (ds : List D) (io : Option D) | stuck
abbrev FM := List SV → FRes
def ioOf : List SV → Option D
  | [] => none
  | .io d :: _ => some d
  | _ :: r => ioOf r
def isIo : SV → Bool
  | .io _ => true
  | _ => false
def isBo : SV → Bool
  | .bo _ => true
  | _ => false
def AOk (K : PySem.W.Frag) (mg : MG) (G H : Hp) : SV → V → Prop
  | .va d, v => Rep K mg G d v
  | .bo (.lst ds), v => ∃ a vs, v = .ref a ∧ H a = some (.lst vs) ∧ RepL K mg G ds vs
  | .io d, v => ∃ a, v = .ref a ∧ G a = none ∧ Own K mg G H a d
  | _, _ => False
/-- the arguments: at most one to be changed, at x (none: x = none) -/
def ArgsOk (K : PySem.W.Frag) (mg : MG) (G H : Hp) (x : Option Addr) : List SV → List V → Prop
  | [], vs => vs = []
  | sv :: r, vs => ∃ v rs, vs = v :: rs ∧ AOk K mg G H sv v ∧ (isIo sv = true → ∃ a, x = some a ∧ v = .ref a) ∧ (isBo sv = true → ∀ a, v = .ref a → x ≠ some a) ∧ ArgsOk K mg G H x r rs
/-- behind a call -/
structure After (K : PySem.W.Frag) (mg : MG) (lk : List Addr) (x : Option Addr) (io : Option D) (H G H' G' : Hp) : Prop where
  frame : ∀ a o, H a = some o → x ≠ some a → H' a = some o
  le : GLe G G'
  new : ∀ a, G' a ≠ none → G a = none → H a = none
  sub : Sub lk G' H'
  io : ∀ a, x = some a → ∃ d, io = some d ∧ G' a = none ∧ Own K mg G' H' a d
def ioCount (svs : List SV) : Nat := (svs.filter isIo).length
/-- THE PROMISE of a def by its meaning -/
def spM (K : PySem.W.Frag) (mg : MG) (n : Nat) (f : FM) : Sp := fun vs H Q E => vs.length = n ∧ ∃ (G : Hp) (lk : List Addr) (x : Option Addr) (svs : List SV), Sub lk G H ∧ ArgsOk K mg G H x svs vs ∧ (x = none ∨ ioCount svs = 1) ∧
  match f svs with
  | .ok d io => ∀ v H' G', After K mg lk x io H G H' G' → Rep K mg G' d v → Q v H'
  | .exc cn ns ds io => ∀ cls od H' G', After K mg lk x io H G H' G' → ExR K mg G' cn ns ds cls od → E cls od H'
  | .stuck => False

/-! ### a def by its body -/
def initS (n : Nat) (svs : List SV) : S := svs ++ List.replicate (n - svs.length) .un
/-- where the object that was handed stands -/
def ioIx : List SV → Option Nat
  | [] => none
  | .io _ :: _ => some 0
  | _ :: r => (ioIx r).map (· + 1)
def ioEnd (svs : List SV) (st : S) : Option (Option D) := match ioIx svs with
  | none => some none
  | some i => match st[i]? with
    | some (.io d) => some (some d)
    | _ => none
/-- a body's meaning as a def's -/
def fnOf (n : Nat) (m : SM) : FM := fun svs => match m (initS n svs) with
  | .rt d st => match ioEnd svs st with
    | some io => .ok d io
    | none => .stuck
  | .nx st => match ioEnd svs st with
    | some io => .ok .non io
    | none => .stuck
  | .exc cn ns ds st => match ioEnd svs st with
    | some io => .exc cn ns ds io
    | none => .stuck
  | _ => .stuck
section
variable {K : PySem.W.Frag} {mg : MG} {G H : Hp} {x : Option Addr}
theorem ArgsOk.length : ∀ {svs : List SV} {vs : List V}, ArgsOk K mg G H x svs vs → svs.length = vs.length
  | [], _, h => by
    simp only [ArgsOk] at h
    rw [h]
    rfl
  | sv :: r, _, h => by
    simp only [ArgsOk] at h
    obtain ⟨v, rs, rfl, _, _, _, h⟩ := h
    rw [List.length_cons, List.length_cons, ArgsOk.length h]
theorem ArgsOk.get : ∀ {svs : List SV} {vs : List V} {i : Nat} {sv : SV}, ArgsOk K mg G H x svs vs → svs[i]? = some sv → ∃ v, vs[i]? = some v ∧ AOk K mg G H sv v ∧ (isIo sv = true → ∃ a, x = some a ∧ v = .ref a) ∧ (isBo sv = true → ∀ a, v = .ref a → x ≠ some a)
  | [], _, _, _, _, e => by simp at e
  | sv :: r, _, 0, _, h, e => by
    simp only [ArgsOk] at h
    obtain ⟨v, rs, rfl, h1, h2, h3, h⟩ := h
    simp at e
    subst e
    exact ⟨v, rfl, h1, h2, h3⟩
  | sv :: r, _, i + 1, _, h, e => by
    simp only [ArgsOk] at h
    obtain ⟨v, rs, rfl, h1, h2, h3, h⟩ := h
    obtain ⟨v', e', q⟩ := ArgsOk.get (i := i) h (by simpa using e)
    exact ⟨v', by simpa using e', q⟩
theorem ioIx_some : ∀ {svs : List SV} {i : Nat}, ioIx svs = some i → ∃ d, svs[i]? = some (.io d)
  | [], _, h => by cases h
  | sv :: r, i, h => by
    cases sv with
    | io d =>
      simp only [ioIx, Option.some.injEq] at h
      subst h
      exact ⟨d, rfl⟩
    | _ =>
      simp only [ioIx, Option.map_eq_some_iff] at h
      obtain ⟨j, hj, rfl⟩ := h
      obtain ⟨d, e⟩ := ioIx_some hj
      exact ⟨d, by simpa using e⟩
theorem ioIx_none : ∀ {svs : List SV}, ioIx svs = none → ioCount svs = 0
  | [], _ => rfl
  | sv :: r, h => by
    cases sv with
    | io d => simp only [ioIx, reduceCtorEq] at h
    | _ =>
      simp only [ioIx, Option.map_eq_none_iff] at h
      have := ioIx_none h
      unfold ioCount at this ⊢
      simpa [isIo] using this
theorem one_io : ∀ {svs : List SV} {i j : Nat} {d e : D}, ioCount svs ≤ 1 → svs[i]? = some (.io d) → svs[j]? = some (.io e) → i = j
  | [], _, _, _, _, _, h, _ => by simp at h
  | sv :: r, i, j, d, e, hc, hi, hj => by
    have pos : ∀ {k : Nat} {d : D}, r[k]? = some (.io d) → 0 < ioCount r := fun {k d} h => by
      unfold ioCount
      exact List.length_pos_of_mem (List.mem_filter.mpr ⟨List.mem_of_getElem? h, rfl⟩)
    cases i with
    | zero =>
      simp at hi
      subst hi
      cases j with
      | zero => rfl
      | succ j =>
        have := pos (show r[j]? = some (.io e) by simpa using hj)
        unfold ioCount at hc this
        simp only [List.filter_cons, isIo, if_true, List.length_cons] at hc
        omega
    | succ i =>
      cases j with
      | zero =>
        simp at hj
        subst hj
        have := pos (show r[i]? = some (.io d) by simpa using hi)
        unfold ioCount at hc this
        simp only [List.filter_cons, isIo, if_true, List.length_cons] at hc
        omega
      | succ j =>
        have hc' : ioCount r ≤ 1 := by
          unfold ioCount at hc ⊢
          rw [List.filter_cons] at hc
          split at hc
          · simp only [List.length_cons] at hc; omega
          · exact hc
        rw [one_io hc' (show r[i]? = some (.io d) by simpa using hi) (show r[j]? = some (.io e) by simpa using hj)]
theorem start_at {N : List Str} {vs : List V} {i : Nat} {v : V} (h : vs[i]? = some v) : at' (L2.start N vs) i = some v := by
  unfold L2.start at'
  have hi := (List.getElem?_eq_some_iff.mp h).1
  rw [List.getElem?_append_left (by simpa using hi), List.getElem?_map, h]
  rfl
/-- the entry's stand -/
theorem R.start {lk : List Addr} {svs : List SV} {vs : List V} {N : List Str} (sub : Sub lk G H) (A : ArgsOk K mg G H x svs vs) (hx : x = none ∨ ioCount svs = 1) (hN : vs.length ≤ N.length) :
    R ⟨K, mg, H, G, x.toList, lk, [], fun a => if x = some a then none else H a⟩ (initS N.length svs) (L2.start N vs) H G := by
  have hl := A.length
  have key : ∀ (i : Nat) (sv : SV), (initS N.length svs)[i]? = some sv → sv = .un ∨ svs[i]? = some sv := fun i sv e => by
    unfold initS at e
    by_cases hi : i < svs.length
    · rw [List.getElem?_append_left hi] at e
      exact .inr e
    · rw [List.getElem?_append_right (by omega), List.getElem?_replicate] at e
      split at e
      · cases e; exact .inl rfl
      · cases e
  have al : ∀ a ∈ x.toList, H a ≠ none := by
    intro a ha
    have ha : x = some a := by
      cases x with
      | none => simp at ha
      | some b => simp at ha; rw [ha]
    subst ha
    rcases hx with hx | hx
    · cases hx
    · cases ei : ioIx svs with
      | none => rw [ioIx_none ei] at hx; cases hx
      | some i =>
        obtain ⟨d, e⟩ := ioIx_some ei
        obtain ⟨v, _, q, qi, _⟩ := A.get e
        obtain ⟨b, eb, ev⟩ := qi rfl
        obtain ⟨b', ev', _, ow⟩ := q
        cases eb
        rw [ev] at ev'
        cases ev'
        obtain ⟨o, ho⟩ := ow.there
        rw [ho]
        exact fun z => nomatch z
  refine ⟨?_, sub, fun i sv e => ?_, fun i j a si sj n ei ej oi oj xi xj => ?_, fun a o e n => .inl e, GLe.refl G, fun a e e0 => absurd e0 e, al, ⟨fun a o e => ?_, al⟩⟩
  · unfold initS L2.start
    simp [hl]
  · rcases key i sv e with z | e
    · subst z; exact trivial
    · obtain ⟨v, ev, q, qi, qb⟩ := A.get e
      have ea := start_at (N := N) ev
      cases sv with
      | un => exact trivial
      | va d => exact ⟨v, ea, q⟩
      | bo d =>
        cases d with
        | lst ds =>
          obtain ⟨a, us, rfl, h1, rl⟩ := q
          refine ⟨a, ea, us, ?_, rl⟩
          show (if x = some a then none else H a) = _
          rw [if_neg (qb rfl a rfl)]
          exact h1
        | _ => exact q.elim
      | ow d => exact q.elim
      | io d =>
        obtain ⟨a, rfl, g, ow⟩ := q
        obtain ⟨b, eb, ev'⟩ := qi rfl
        cases ev'
        exact ⟨a, ea, g, by rw [eb]; simp, ow⟩
  · rcases key i si ei with z | ei
    · subst z; cases oi
    · rcases key j sj ej with z | ej
      · subst z; cases oj
      · cases si with
        | io d1 =>
          cases sj with
          | io d2 =>
            rcases hx with hx | hx
            · obtain ⟨v, _, _, q, _⟩ := A.get ei
              obtain ⟨b, eb, _⟩ := q rfl
              rw [hx] at eb
              cases eb
            · exact n (one_io (by omega) ei ej)
          | ow d2 => obtain ⟨v, _, q, _⟩ := A.get ej; exact q.elim
          | _ => cases oj
        | ow d1 => obtain ⟨v, _, q, _⟩ := A.get ei; exact q.elim
        | _ => cases oi
  · have e : (if x = some a then none else H a) = some o := e
    split at e
    · cases e
    · rename_i nx
      refine ⟨e, fun ha => nx ?_⟩
      cases x with
      | none => simp at ha
      | some b => simp at ha; rw [ha]
/-- the end's stand -/
theorem R.finish {lk : List Addr} {svs : List SV} {vs : List V} {st : S} {σ : Sl} {H' G' B : Hp} {io : Option D} (A : ArgsOk K mg G H x svs vs) (hx : x = none ∨ ioCount svs = 1) (r : R ⟨K, mg, H, G, x.toList, lk, [], B⟩ st σ H' G') (e : ioEnd svs st = some io) : After K mg lk x io H G H' G' := by
  refine ⟨fun a o h nx => ?_, r.ge0, fun a h1 h2 => r.fresh a h1 h2, r.sub, fun a ha => ?_⟩
  · have := r.frame a o h (fun z => nx (by
      cases x with
      | none => simp at z
      | some b => simp at z; rw [z]))
    rcases this with z | ⟨z, _⟩
    · exact z
    · cases z
  · subst ha
    rcases hx with hx | hx
    · cases hx
    · unfold ioEnd at e
      cases ei : ioIx svs with
      | none => rw [ioIx_none ei] at hx; cases hx
      | some i =>
        rw [ei] at e
        simp only at e
        cases es : st[i]? with
        | none => rw [es] at e; cases e
        | some sv =>
          rw [es] at e
          cases sv with
          | io d =>
            simp only [Option.some.injEq] at e
            subst e
            obtain ⟨b, _, g, hb, ow⟩ := r.slot i _ es
            have hb : b ∈ (some a).toList := hb
            simp at hb
            subst hb
            exact ⟨d, rfl, g, ow⟩
          | _ => simp only [reduceCtorEq] at e
end
section
variable {P : Program} {w : World} {K : PySem.W.Frag} {mg : MG} {base : Heap}
/-- A DEF KEEPS THE PROMISE OF ITS BODY'S MEANING -/
theorem fn_ok {x qual : Str} {st : Stmt} {f : Addr} {fd : FuncData} {N ps : List Str} {k : Nat} {m : SM} (F : Fun K x qual st f fd) (Sc : FnScope N ps (defScope st)) (hps : ps.length ≤ N.length)
    (hbody : ∀ (cdv : Value) (A : Around) (outer : List Env) (s : Shared) (H : Hp) (E : XK) (c : Ct) (W : WX), Room k (A.deeper (envOfC qual (defScope st) s.heap.objs.size f cdv)) → c.K = K → c.mg = mg →
      Takes (cxOf (L2.CX P w) P w K mg base N qual (defScope st) f cdv A outer s H E) W → PassesOwn (model P w) (cxOf (L2.CX P w) P w K mg base N qual (defScope st) f cdv A outer s H E).A (cxOf (L2.CX P w) P w K mg base N qual (defScope st) f cdv A outer s H E).env (cxOf (L2.CX P w) P w K mg base N qual (defScope st) f cdv A outer s H E).xe →
      DSs c (cxOf (L2.CX P w) P w K mg base N qual (defScope st) f cdv A outer s H E) W (defBody st) m) :
    FnOk P w K mg base (L2.CX P w) (k + 1) f fd ps (spM K mg ps.length (fnOf N.length m)) := by
  refine F.okX Sc (fun vs H Q E h => h.1) fun cdv A outer s H vs Q E hr h => ?_
  obtain ⟨hl, G, lk, xa, svs, sub, AO, hx, h⟩ := h
  refine ⟨_, hbody cdv A outer s H E ⟨K, mg, H, G, xa.toList, lk, [], fun a => if xa = some a then none else H a⟩ (fun cls d _ H => E cls d H) hr rfl rfl (takes_of rfl rfl rfl rfl) (passes_of rfl), initS N.length svs, G, R.start sub AO hx (by rw [hl]; exact hps), ?_⟩
  unfold fnOf at h
  cases e : m (initS N.length svs) with
  | nx st' =>
    rw [e] at h
    simp only at h
    cases ei : ioEnd svs st' with
    | none => rw [ei] at h; exact h.elim
    | some io =>
      rw [ei] at h
      exact fun σ' H' G' le r => h .non H' G' (R.finish AO hx r ei) (by simp only [Rep])
  | rt d st' =>
    rw [e] at h
    simp only at h
    cases ei : ioEnd svs st' with
    | none => rw [ei] at h; exact h.elim
    | some io =>
      rw [ei] at h
      exact fun v σ' H' G' le r rep => h v H' G' (R.finish AO hx r ei) rep
  | exc cn ns ds st' =>
    rw [e] at h
    simp only at h
    cases ei : ioEnd svs st' with
    | none => rw [ei] at h; exact h.elim
    | some io =>
      rw [ei] at h
      exact fun cls od σ' H' G' le r ex => h cls od H' G' (R.finish AO hx r ei) ex
  | bk st' => rw [e] at h; exact h.elim
  | ct st' => rw [e] at h; exact h.elim
  | stuck => rw [e] at h; exact h.elim
end
end Dn

set_option Elab.async false
set_option linter.all false
set_option maxRecDepth 100000
set_option maxHeartbeats 2000000
/-! Dn, part K: calls of defs. -/
namespace Dn
open PySem PySem.Spec PyProof.Rows L2

/-- an argument: a value, a lent object of slot i, the object of slot i to be changed -/
inductive Ag where
  | v (d : D) | b (i : Nat) | o (i : Nat)
def AgOk (c : Ct) (σ : Sl) (G : Hp) : Ag → V → Prop
  | .v d, v => Rep c.K c.mg G d v
  | .b i, v => at' σ i = some v
  | .o i, v => at' σ i = some v
def AgsOk (c : Ct) (σ : Sl) (G : Hp) : List Ag → List V → Prop
  | [], vs => vs = []
  | a :: r, vs => ∃ v rs, vs = v :: rs ∧ AgOk c σ G a v ∧ AgsOk c σ G r rs
def tG (c : Ct) (W : WX) (m : M (List Ag)) : TA := fun σ H Q => ∃ st G, R c st σ H G ∧ Po c W σ G (m st) fun ags st' H' G' => ∀ vs, AgsOk c σ G' ags vs → Q vs H'
abbrev DAg (c : Ct) (X : Cx) (W : WX) (es : List Expr) (m : M (List Ag)) : Prop := PA X es (tG c W m)
def lendOf : SV → Option SV
  | .va d => some (.va d)
  | .bo (.lst ds) => some (.bo (.lst ds))
  | .ow (.lst ds) => some (.bo (.lst ds))
  | .io (.lst ds) => some (.bo (.lst ds))
  | _ => none
def handOf : SV → Option SV
  | .ow d => some (.io d)
  | .io d => some (.io d)
  | _ => none
def svsOf (st : S) : List Ag → Option (List SV)
  | [] => some []
  | .v d :: r => (svsOf st r).map (.va d :: ·)
  | .b i :: r => ((st[i]?).bind lendOf).bind fun sv => (svsOf st r).map (sv :: ·)
  | .o i :: r => ((st[i]?).bind handOf).bind fun sv => (svsOf st r).map (sv :: ·)
/-- no other one is lent or handed -/
def noO (j : Nat) : List Ag → Bool
  | [] => true
  | .v _ :: r => noO j r
  | .b i :: r => !(i == j) && noO j r
  | .o _ :: _ => false
def oSlot : List Ag → Option Nat
  | [] => none
  | .o i :: _ => some i
  | _ :: r => oSlot r
def agChk : List Ag → Bool
  | [] => true
  | .v _ :: r => agChk r
  | .b i :: r => agChk r && !(oSlot r == some i)
  | .o i :: r => noO i r
def putIo (st : S) (j : Option Nat) (io : Option D) : S := match j, io with
  | some j, some d => putOwn st j d
  | _, _ => st
def mCall (n : Nat) (f : FM) (ma : M (List Ag)) : M D := bnd ma fun ags st => if agChk ags = true ∧ ags.length = n then (match svsOf st ags with
  | none => .stuck
  | some svs => match f svs with
    | .ok d io => .ok d (putIo st (oSlot ags) io)
    | .exc cn ns ds io => .exc cn ns ds (putIo st (oSlot ags) io)
    | .stuck => .stuck) else .stuck
section
variable {c : Ct} {st : S} {σ : Sl} {G G' H H' : Hp}
theorem AgsOk.le (e : GLe G G') : ∀ {ags : List Ag} {vs : List V}, AgsOk c σ G ags vs → AgsOk c σ G' ags vs
  | [], _, h => h
  | a :: r, _, h => by
    obtain ⟨v, rs, rfl, h1, h2⟩ := h
    refine ⟨v, rs, rfl, ?_, AgsOk.le e h2⟩
    cases a with
    | v d => exact Rep.le e h1
    | b i => exact h1
    | o i => exact h1
theorem noO_none {j : Nat} : ∀ {ags : List Ag}, noO j ags = true → oSlot ags = none
  | [], _ => rfl
  | .v _ :: r, h => noO_none (ags := r) h
  | .b i :: r, h => by
    simp only [noO, Bool.and_eq_true] at h
    exact noO_none (ags := r) h.2
  | .o _ :: _, h => by simp only [noO, Bool.false_eq_true] at h
/-- what is lent -/
theorem R.lends (r : R c st σ H G) {i : Nat} {sv sw : SV} {v : V} (e : st[i]? = some sv) (l : lendOf sv = some sw) (x : at' σ i = some v) : AOk c.K c.mg G H sw v ∧ isIo sw = false ∧
    ∀ (j : Nat) (a b : Addr) (sj : SV), j ≠ i → isBo sw = true → v = .ref a → st[j]? = some sj → sj.own = true → at' σ j = some (.ref b) → b ≠ a := by
  have q := r.slot i sv e
  cases sv with
  | un => cases l
  | va d =>
    cases l
    obtain ⟨w, y, rep⟩ := q
    rw [x] at y; cases y
    exact ⟨rep, rfl, fun _ _ _ _ _ z => nomatch z⟩
  | bo d =>
    cases d with
    | lst ds =>
      cases l
      obtain ⟨a, y, us, h1, rl⟩ := q
      rw [x] at y; cases y
      obtain ⟨h0, ni⟩ := r.wf.lent _ _ h1
      refine ⟨⟨a, us, rfl, ?_, rl⟩, rfl, fun j a' b sj n _ ea ej oj xj z => ?_⟩
      · rcases r.frame _ _ h0 ni with z | ⟨_, m, _⟩
        · exact z
        · exact m.elim
      · cases ea
        subst z
        have qj := r.slot j sj ej
        cases sj with
        | ow d =>
          obtain ⟨b', y', _, z0, _⟩ := qj
          rw [xj] at y'; cases y'
          rw [h0] at z0; cases z0
        | io d =>
          obtain ⟨b', y', _, z0, _⟩ := qj
          rw [xj] at y'; cases y'
          exact ni z0
        | _ => cases oj
    | _ => cases l
  | ow d =>
    cases d with
    | lst ds =>
      cases l
      obtain ⟨a, y, _, _, us, h1, rl⟩ := q
      rw [x] at y; cases y
      refine ⟨⟨a, us, rfl, h1, rl⟩, rfl, fun j a' b sj n _ ea ej oj xj z => ?_⟩
      cases ea
      exact r.apart j i b sj _ n ej e oj rfl xj (by rw [x, z])
    | _ => cases l
  | io d =>
    cases d with
    | lst ds =>
      cases l
      obtain ⟨a, y, _, _, us, h1, rl⟩ := q
      rw [x] at y; cases y
      refine ⟨⟨a, us, rfl, h1, rl⟩, rfl, fun j a' b sj n _ ea ej oj xj z => ?_⟩
      cases ea
      exact r.apart j i b sj _ n ej e oj rfl xj (by rw [x, z])
    | _ => cases l
theorem ioCount_cons {sv : SV} {r : List SV} : ioCount (sv :: r) = (if isIo sv = true then 1 else 0) + ioCount r := by
  unfold ioCount
  rw [List.filter_cons]
  split
  · rw [List.length_cons]; omega
  · omega
/-- arguments without one to be changed, while slot j (at x) is another's -/
theorem args_rest (r : R c st σ H G) {x : Option Addr} {j : Nat} (hx : ∀ a, x = some a → ∃ sj, st[j]? = some sj ∧ sj.own = true ∧ at' σ j = some (.ref a)) : ∀ {ags : List Ag} {vs : List V} {svs : List SV}, noO j ags = true → AgsOk c σ G ags vs → svsOf st ags = some svs → ArgsOk c.K c.mg G H x svs vs ∧ ioCount svs = 0
  | [], vs, svs, _, h, e => by
    simp only [svsOf, Option.some.injEq] at e
    subst e
    exact ⟨h, rfl⟩
  | .v d :: r', vs, svs, hn, h, e => by
    simp only [svsOf, Option.map_eq_some_iff] at e
    obtain ⟨t, e, rfl⟩ := e
    obtain ⟨v, rs, rfl, h1, h2⟩ := h
    obtain ⟨q1, q2⟩ := args_rest r hx (ags := r') hn h2 e
    exact ⟨⟨v, rs, rfl, h1, fun z => (nomatch z), fun z => (nomatch z), q1⟩, by rw [ioCount_cons, q2] <;> rfl⟩
  | .b i :: r', vs, svs, hn, h, e => by
    simp only [svsOf, Option.bind_eq_some_iff, Option.map_eq_some_iff] at e
    obtain ⟨sw, ⟨sv, e1, e2⟩, t, e, rfl⟩ := e
    obtain ⟨v, rs, rfl, h1, h2⟩ := h
    simp only [noO, Bool.and_eq_true, Bool.not_eq_true', beq_eq_false_iff_ne] at hn
    obtain ⟨q1, q2⟩ := args_rest r hx (ags := r') hn.2 h2 e
    obtain ⟨w1, w2, w3⟩ := r.lends e1 e2 h1
    refine ⟨⟨v, rs, rfl, w1, fun z => (by rw [w2] at z; cases z), fun z a ea z2 => ?_, q1⟩, by rw [ioCount_cons, q2, w2] <;> rfl⟩
    obtain ⟨sj, ej, oj, xj⟩ := hx a z2
    exact w3 j a a sj (Ne.symm hn.1) z ea ej oj xj rfl
  | .o i :: r', _, _, hn, _, _ => by simp only [noO, Bool.false_eq_true] at hn
theorem args_of (r : R c st σ H G) : ∀ {ags : List Ag} {vs : List V} {svs : List SV}, agChk ags = true → AgsOk c σ G ags vs → svsOf st ags = some svs →
    ∃ x, ArgsOk c.K c.mg G H x svs vs ∧ ((x = none ∧ ioCount svs = 0 ∧ oSlot ags = none) ∨ (ioCount svs = 1 ∧ ∃ j a d, oSlot ags = some j ∧ x = some a ∧ ownAt st j = some d ∧ at' σ j = some (.ref a)))
  | [], vs, svs, _, h, e => by
    simp only [svsOf, Option.some.injEq] at e
    subst e
    exact ⟨none, h, .inl ⟨rfl, rfl, rfl⟩⟩
  | .v d :: r', vs, svs, hn, h, e => by
    simp only [svsOf, Option.map_eq_some_iff] at e
    obtain ⟨t, e, rfl⟩ := e
    obtain ⟨v, rs, rfl, h1, h2⟩ := h
    obtain ⟨x, q1, q2⟩ := args_of r (ags := r') hn h2 e
    refine ⟨x, ⟨v, rs, rfl, h1, fun z => (nomatch z), fun z => (nomatch z), q1⟩, ?_⟩
    rcases q2 with ⟨a1, a2, a3⟩ | ⟨a2, a3⟩
    · exact .inl ⟨a1, by rw [ioCount_cons, a2] <;> rfl, a3⟩
    · exact .inr ⟨by rw [ioCount_cons, a2] <;> rfl, a3⟩
  | .b i :: r', vs, svs, hn, h, e => by
    simp only [svsOf, Option.bind_eq_some_iff, Option.map_eq_some_iff] at e
    obtain ⟨sw, ⟨sv, e1, e2⟩, t, e, rfl⟩ := e
    obtain ⟨v, rs, rfl, h1, h2⟩ := h
    simp only [agChk, Bool.and_eq_true, Bool.not_eq_true', beq_eq_false_iff_ne] at hn
    obtain ⟨x, q1, q2⟩ := args_of r (ags := r') hn.1 h2 e
    obtain ⟨w1, w2, w3⟩ := r.lends e1 e2 h1
    refine ⟨x, ⟨v, rs, rfl, w1, fun z => (by rw [w2] at z; cases z), fun z a ea z2 => ?_, q1⟩, ?_⟩
    · rcases q2 with ⟨a1, _⟩ | ⟨_, j, b, d, b1, b2, b3, b4⟩
      · rw [a1] at z2; cases z2
      · rw [b2] at z2
        cases z2
        have nj : j ≠ i := fun z3 => hn.2 (by rw [b1, z3])
        rcases ownAt_of b3 with ej | ej
        · exact w3 j a a _ nj z ea ej rfl b4 rfl
        · exact w3 j a a _ nj z ea ej rfl b4 rfl
    · rcases q2 with ⟨a1, a2, a3⟩ | ⟨a2, a3⟩
      · exact .inl ⟨a1, by rw [ioCount_cons, a2, w2] <;> rfl, a3⟩
      · exact .inr ⟨by rw [ioCount_cons, a2, w2] <;> rfl, a3⟩
  | .o i :: r', vs, svs, hn, h, e => by
    simp only [svsOf, Option.bind_eq_some_iff, Option.map_eq_some_iff] at e
    obtain ⟨sw, ⟨sv, e1, e2⟩, t, e, rfl⟩ := e
    obtain ⟨v, rs, rfl, h1, h2⟩ := h
    have q := r.slot i sv e1
    cases sv with
    | ow d =>
      cases e2
      obtain ⟨a, y, g, _, ow⟩ := q
      have h1 : at' σ i = some v := h1
      rw [h1] at y
      cases y
      obtain ⟨q1, q2⟩ := args_rest r (x := some a) (j := i) (fun b eb => by cases eb; exact ⟨_, e1, rfl, h1⟩) (ags := r') hn h2 e
      exact ⟨some a, ⟨_, rs, rfl, ⟨a, rfl, g, ow⟩, fun _ => ⟨a, rfl, rfl⟩, fun z => (nomatch z), q1⟩, .inr ⟨by rw [ioCount_cons, q2] <;> rfl, i, a, d, rfl, rfl, by unfold ownAt; rw [e1], h1⟩⟩
    | io d =>
      cases e2
      obtain ⟨a, y, g, _, ow⟩ := q
      have h1 : at' σ i = some v := h1
      rw [h1] at y
      cases y
      obtain ⟨q1, q2⟩ := args_rest r (x := some a) (j := i) (fun b eb => by cases eb; exact ⟨_, e1, rfl, h1⟩) (ags := r') hn h2 e
      exact ⟨some a, ⟨_, rs, rfl, ⟨a, rfl, g, ow⟩, fun _ => ⟨a, rfl, rfl⟩, fun z => (nomatch z), q1⟩, .inr ⟨by rw [ioCount_cons, q2] <;> rfl, i, a, d, rfl, rfl, by unfold ownAt; rw [e1], h1⟩⟩
    | _ => cases e2
/-- the stand behind a call -/
theorem R.after (r : R c st σ H G) {x : Option Addr} {j : Option Nat} {io : Option D} (q : After c.K c.mg c.lk x io H G H' G')
    (hx : (x = none ∧ j = none) ∨ ∃ i a d, j = some i ∧ x = some a ∧ ownAt st i = some d ∧ at' σ i = some (.ref a)) : R c (putIo st j io) σ H' G' := by
  rcases hx with ⟨rfl, rfl⟩ | ⟨i, a, d, rfl, rfl, ho, hxa⟩
  · exact r.grow q.le (fun a o h => q.frame a o h (fun z => nomatch z)) q.sub q.new
  · obtain ⟨d', rfl, g', ow'⟩ := q.io a rfl
    have gn : G a = none := by
      cases z : G a with
      | none => rfl
      | some o => rw [q.le _ _ z] at g'; cases g'
    have k : ∀ b o, H b = some o → b ≠ a → H' b = some o := fun b o h n => q.frame b o h (fun z => n (by cases z; rfl))
    have own_ne : ∀ (m : Nat) (sm : SV) (b : Addr), m ≠ i → st[m]? = some sm → sm.own = true → at' σ m = some (.ref b) → b ≠ a := fun m sm b n em om xm z => by
      rcases ownAt_of ho with ei | ei
      · exact r.apart m i b sm _ n em ei om rfl xm (by rw [hxa, z])
      · exact r.apart m i b sm _ n em ei om rfl xm (by rw [hxa, z])
    have hi : i < st.length := by rcases ownAt_of ho with ei | ei <;> exact (List.getElem?_eq_some_iff.mp ei).1
    show R c (putOwn st i d') σ H' G'
    refine ⟨by unfold putOwn; simp [r.len], q.sub, fun m sv em => ?_, fun m n b sm sn hmn em en om on xm xn => ?_, fun b o e n => ?_, r.ge0.trans q.le, fun b e e0 => ?_, fun b hb => ?_, r.wf⟩
    · by_cases n : i = m
      · subst n
        unfold putOwn at em
        rw [List.getElem?_set_self hi] at em
        rcases ownAt_of ho with ei | ei
        · rw [ei] at em
          cases em
          obtain ⟨b, y, _, h0, _⟩ := r.slot i _ ei
          rw [hxa] at y; cases y
          exact ⟨a, hxa, g', h0, ow'⟩
        · rw [ei] at em
          cases em
          obtain ⟨b, y, _, h0, _⟩ := r.slot i _ ei
          rw [hxa] at y; cases y
          exact ⟨a, hxa, g', h0, ow'⟩
      · unfold putOwn at em
        rw [List.getElem?_set_ne n] at em
        have s := r.slot m sv em
        cases sv with
        | un => exact trivial
        | va d2 =>
          obtain ⟨v, y, rep⟩ := s
          exact ⟨v, y, rep.le q.le⟩
        | bo d2 =>
          obtain ⟨b, y, bo⟩ := s
          exact ⟨b, y, bo.le q.le⟩
        | ow d2 =>
          obtain ⟨b, y, gb, h0, ow⟩ := s
          have nb := own_ne m _ b (Ne.symm n) em rfl y
          obtain ⟨u, hu⟩ := ow.there
          refine ⟨b, y, ?_, h0, ow.le q.le fun o h => k b o h nb⟩
          cases z : G' b with
          | none => rfl
          | some o =>
            have := q.new b (by rw [z]; exact fun y => nomatch y) gb
            rw [hu] at this; cases this
        | io d2 =>
          obtain ⟨b, y, gb, h0, ow⟩ := s
          have nb := own_ne m _ b (Ne.symm n) em rfl y
          obtain ⟨u, hu⟩ := ow.there
          refine ⟨b, y, ?_, h0, ow.le q.le fun o h => k b o h nb⟩
          cases z : G' b with
          | none => rfl
          | some o =>
            have := q.new b (by rw [z]; exact fun y => nomatch y) gb
            rw [hu] at this; cases this
    · have own_of : ∀ (m : Nat) (s : SV), (putOwn st i d')[m]? = some s → s.own = true → ∃ s', st[m]? = some s' ∧ s'.own = true := fun m s em om => by
        by_cases n : i = m
        · subst n
          rcases ownAt_of ho with ei | ei
          · exact ⟨_, ei, rfl⟩
          · exact ⟨_, ei, rfl⟩
        · unfold putOwn at em
          rw [List.getElem?_set_ne n] at em
          exact ⟨s, em, om⟩
      obtain ⟨s1, e1, o1⟩ := own_of m sm em om
      obtain ⟨s2, e2, o2⟩ := own_of n sn en on
      exact r.apart m n b s1 s2 hmn e1 e2 o1 o2 xm xn
    · have nb : b ≠ a := fun z => by
        subst z
        rcases ownAt_of ho with ei | ei
        · obtain ⟨b', y, _, h0, _⟩ := r.slot i _ ei
          rw [hxa] at y; cases y
          rw [h0] at e; cases e
        · obtain ⟨b', y, _, h0, _⟩ := r.slot i _ ei
          rw [hxa] at y; cases y
          exact n h0
      rcases r.frame b o e n with z | ⟨h1, h2, ob, z⟩
      · exact .inl (k _ _ z nb)
      · exact .inr ⟨h1, h2, ob, k _ _ z nb⟩
    · by_cases z : G b = none
      · exact r.h0none (q.new b e z)
      · exact r.fresh b z e0
    · by_cases z : b = a
      · subst z
        obtain ⟨o, h⟩ := ow'.there
        rw [h]
        exact fun z => nomatch z
      · obtain ⟨o, h⟩ := Option.ne_none_iff_exists'.mp (r.alive b hb)
        rw [k b o h z]
        exact fun z => nomatch z
end
section
variable {c : Ct} {X : Cx} {W : WX} {σ : Sl} {G H : Hp} {e : Expr} {es : List Expr} {pos p : Pos}
def agV (m : M D) (r : M (List Ag)) : M (List Ag) := bnd m fun d => bnd r fun as => ret (.v d :: as)
def agB (i : Nat) (r : M (List Ag)) : M (List Ag) := fun st => if ((st[i]?).bind svD).isSome = true then bnd r (fun as => ret (.b i :: as)) st else .stuck
def agO (i : Nat) (r : M (List Ag)) : M (List Ag) := fun st => if (ownAt st i).isSome = true then bnd r (fun as => ret (.o i :: as)) st else .stuck
theorem dag_nil : DAg c X W [] (ret []) := pa_weak pa_nil fun σ H Q ⟨st, G, r, p⟩ => p.done r _ rfl
theorem dag_v {m : M D} {r : M (List Ag)} (h : DE c X W e m) (hr : DAg c X W es r) (hs : starEach (e :: es) X.env = (false, eval e X.env) :: starEach es X.env := by rfl) : DAg c X W (e :: es) (agV m r) :=
  pa_weak (pa_cons h hr hs) fun σ H Q ⟨st, G, r, p⟩ => ⟨st, G, r, (Po.seq p).mono fun d s1 H1 G1 l1 r1 ⟨_, p1⟩ v rep => ⟨s1, G1, r1, (Po.seq p1).mono fun ds s2 H2 G2 l2 r2 ⟨_, p2⟩ vs reps => p2.done r2 _ ⟨v, vs, rfl, rep.le l2, reps⟩⟩⟩
theorem slot_some {st : S} (r : R c st σ H G) {i : Nat} (h : ((st[i]?).bind svD).isSome = true) : ∃ v, at' σ i = some v := by
  cases e : st[i]? with
  | none => rw [e] at h; cases h
  | some sv =>
    rw [e] at h
    have hs := r.slot i sv e
    cases sv with
    | un => cases h
    | va d' => obtain ⟨v, y, _⟩ := hs; exact ⟨v, y⟩
    | bo d' => obtain ⟨v, y, _⟩ := hs; exact ⟨_, y⟩
    | ow d' => obtain ⟨v, y, _⟩ := hs; exact ⟨_, y⟩
    | io d' => obtain ⟨v, y, _⟩ := hs; exact ⟨_, y⟩
theorem dag_b (i : Nat) {x : Str} {px : Pos} {r : M (List Ag)} (hr : DAg c X W es r) (hN : X.N[i]? = some x := by rfl) (hv : Vis X.env.scope x := by first | exact Or.inl rfl | exact Or.inr (Or.inl rfl) | exact Or.inr (Or.inr rfl)) (hd : (x == ("__debug__" : Str)) = false := by decide)
    (hcd : (x == ("__classdict__" : Str)) = false := by decide) (hs : starEach (.Name x px :: es) X.env = (false, eval (.Name x px) X.env) :: starEach es X.env := by rfl) : DAg c X W (.Name x px :: es) (agB i r) :=
  pa_weak (pa_cons (pe_var (i := i) hN hv hd hcd) hr hs) fun σ H Q ⟨st, G, r, p⟩ => by
    unfold agB at p
    split at p
    · rename_i h
      obtain ⟨v, x0⟩ := slot_some r h
      exact ⟨v, at'_some x0, st, G, r, (Po.seq p).mono fun ds s2 H2 G2 l2 r2 ⟨_, p2⟩ vs reps => p2.done r2 _ ⟨v, vs, rfl, x0, reps⟩⟩
    · exact p.elim
theorem dag_o (i : Nat) {x : Str} {px : Pos} {r : M (List Ag)} (hr : DAg c X W es r) (hN : X.N[i]? = some x := by rfl) (hv : Vis X.env.scope x := by first | exact Or.inl rfl | exact Or.inr (Or.inl rfl) | exact Or.inr (Or.inr rfl)) (hd : (x == ("__debug__" : Str)) = false := by decide)
    (hcd : (x == ("__classdict__" : Str)) = false := by decide) (hs : starEach (.Name x px :: es) X.env = (false, eval (.Name x px) X.env) :: starEach es X.env := by rfl) : DAg c X W (.Name x px :: es) (agO i r) :=
  pa_weak (pa_cons (pe_var (i := i) hN hv hd hcd) hr hs) fun σ H Q ⟨st, G, r, p⟩ => by
    unfold agO at p
    split at p
    · rename_i h
      obtain ⟨d, hd⟩ := Option.isSome_iff_exists.mp h
      obtain ⟨a, x0, _⟩ := r.own hd
      exact ⟨_, at'_some x0, st, G, r, (Po.seq p).mono fun ds s2 H2 G2 l2 r2 ⟨_, p2⟩ vs reps => p2.done r2 _ ⟨_, vs, rfl, x0, reps⟩⟩
    · exact p.elim
/-- what a call asks of the promise -/
theorem call_s {f : FM} {ma : M (List Ag)} {n : Nat} : ∀ (σ : Sl) (H : Hp) (Q : VK), tM c W (mCall n f ma) σ H Q → tCallS (spM c.K c.mg n f) (WE W) (tG c W ma) σ H Q := by
  rintro σ H Q ⟨st, G, r, p⟩
  refine ⟨st, G, r, ?_⟩
  have q := Po.seq p
  cases em : ma st with
  | stuck => rw [em] at q; exact q
  | exc cn ns ds s1 => rw [em] at q; exact q
  | ok ags s1 =>
    rw [em] at q
    intro H1 G1 l1 r1 vs av
    obtain ⟨_, p1⟩ := q H1 G1 l1 r1
    split at p1
    · rename_i hc
      cases es : svsOf s1 ags with
      | none => rw [es] at p1; exact p1.elim
      | some svs =>
        rw [es] at p1
        simp only at p1
        obtain ⟨x, A, hx⟩ := args_of r1 hc.1 av es
        have hlen : vs.length = n := by
          rw [← hc.2]
          have : ∀ {ags : List Ag} {vs : List V}, AgsOk c σ G1 ags vs → vs.length = ags.length := by
            intro ags
            induction ags with
            | nil => intro vs h; rw [h]; rfl
            | cons a r ih =>
              intro vs h
              obtain ⟨v, rs, rfl, _, h2⟩ := h
              rw [List.length_cons, List.length_cons, ih h2]
          exact this av
        have hj : (x = none ∧ oSlot ags = none) ∨ ∃ i a d, oSlot ags = some i ∧ x = some a ∧ ownAt s1 i = some d ∧ at' σ i = some (.ref a) := by
          rcases hx with ⟨a1, _, a3⟩ | ⟨_, j, a, d, b1, b2, b3, b4⟩
          · exact .inl ⟨a1, a3⟩
          · exact .inr ⟨j, a, d, b1, b2, b3, b4⟩
        refine ⟨hlen, G1, c.lk, x, svs, r1.sub, A, ?_, ?_⟩
        · rcases hx with ⟨a1, _⟩ | ⟨b1, _⟩
          · exact .inl a1
          · exact .inr b1
        · cases ef : f svs with
          | stuck => rw [ef] at p1; exact p1.elim
          | ok d io =>
            rw [ef] at p1
            exact fun v H' G' q2 rep => p1 H' G' q2.le (r1.after q2 hj) v rep
          | exc cn ns ds io =>
            rw [ef] at p1
            exact fun cls od H' G' q2 ex => p1 cls od H' G' q2.le (r1.after q2 hj) ex
    · exact p1.elim
/-- f(..), a def of the module -/
theorem de_call {f : Addr} {fd : FuncData} {ps : List Str} {k : Nat} {x : Str} {fm : FM} {ma : M (List Ag)} (hK : c.K = X.K) (hM : c.mg = X.mg) (F : FnOk X.prog X.w X.K X.mg X.base (L2.CX X.prog X.w) k f fd ps (spM X.K X.mg ps.length fm)) (hr : Room k X.A) (tk : Takes X W) (hg : Gl X x) (hm : X.mg x = some (.ref f)) (hk : PySem.W.keepIn X.K (.ref f) = true) (hb : Binds X.K fd ps [])
    (ha : DAg c X W (e :: es) ma) (hdb : (x == ("__debug__" : Str)) = false := by decide) (he : starEach (e :: es) X.env = (false, eval e X.env) :: starEach es X.env := by rfl) (hpl : (backTo pos (starEach es X.env)).any (·.1) = false := by rfl) :
    DE c X W (.Call (.Name x p) (e :: es) [] pos) (mCall ps.length fm ma) :=
  pe_weak (pe_callS F hr hg hm hk hb (passAt tk) ha hdb he hpl) (by rw [← hK, ← hM]; exact call_s)
end
end Dn

set_option Elab.async false
set_option linter.all false
set_option maxRecDepth 100000
set_option maxHeartbeats 2000000
/-! Dn, part L: several names at once; chains. -/
namespace Dn
open PySem PySem.Spec PyProof.Rows L2

/-- values (false) and new lists (true), apart from one another -/
def XsOk (c : Ct) (st : S) (σ : Sl) (H G : Hp) : List (Bool × D) → List V → Prop
  | [], vs => vs = []
  | (false, d) :: r, vs => ∃ v rs, vs = v :: rs ∧ Rep c.K c.mg G d v ∧ XsOk c st σ H G r rs
  | (true, d) :: r, vs => ∃ a rs, vs = .ref a :: rs ∧ Fre c st σ H G a d ∧ (∀ (i : Nat) (d' : D), r[i]? = some (true, d') → rs[i]? ≠ some (.ref a)) ∧ XsOk c st σ H G r rs
def tX (c : Ct) (W : WX) (m : M (List (Bool × D))) : TA := fun σ H Q => ∃ st G, R c st σ H G ∧ Po c W σ G (m st) fun xs st' H' G' => ∀ vs, XsOk c st' σ H' G' xs vs → Q vs H'
abbrev DX (c : Ct) (X : Cx) (W : WX) (es : List Expr) (m : M (List (Bool × D))) : Prop := PA X es (tX c W m)
def xV (m : M D) (r : M (List (Bool × D))) : M (List (Bool × D)) := bnd m fun d => bnd r fun xs => ret ((false, d) :: xs)
def isL : D → Bool
  | .lst _ => true
  | _ => false
def xN (m : M D) (r : M (List (Bool × D))) : M (List (Bool × D)) := bnd m fun d => if isL d = true then bnd r fun xs => ret ((true, d) :: xs) else fun _ => .stuck
section
variable {c : Ct} {X : Cx} {W : WX} {σ : Sl} {G H : Hp} {e : Expr} {es : List Expr} {pos p : Pos} {st : S}
theorem dx_nil : DX c X W [] (ret []) := pa_weak pa_nil fun σ H Q ⟨st, G, r, p⟩ => p.done r _ rfl
theorem dx_v {m : M D} {r : M (List (Bool × D))} (h : DE c X W e m) (hr : DX c X W es r) (hs : starEach (e :: es) X.env = (false, eval e X.env) :: starEach es X.env := by rfl) : DX c X W (e :: es) (xV m r) :=
  pa_weak (pa_cons h hr hs) fun σ H Q ⟨st, G, r, p⟩ => ⟨st, G, r, (Po.seq p).mono fun d s1 H1 G1 l1 r1 ⟨_, p1⟩ v rep => ⟨s1, G1, r1, (Po.seq p1).mono fun ds s2 H2 G2 l2 r2 ⟨_, p2⟩ vs reps => p2.done r2 _ ⟨v, vs, rfl, rep.le l2, reps⟩⟩⟩
theorem XsOk.unguard {H0' : Hp} (le : ∀ a o, c.H0 a = some o → H0' a = some o) : ∀ {xs : List (Bool × D)} {vs : List V}, XsOk (c.h H0') st σ H G xs vs → XsOk c st σ H G xs vs
  | [], _, h => h
  | (false, d) :: r, _, h => by
    obtain ⟨v, rs, rfl, h1, h2⟩ := h
    exact ⟨v, rs, rfl, h1, XsOk.unguard le h2⟩
  | (true, d) :: r, _, h => by
    obtain ⟨a, rs, rfl, ⟨f1, f2, f3, f4⟩, h1, h2⟩ := h
    refine ⟨a, rs, rfl, ⟨f1, ?_, f3, f4⟩, h1, XsOk.unguard le h2⟩
    cases e : c.H0 a with
    | none => rfl
    | some o =>
      have f2 : H0' a = none := f2
      rw [le a o e] at f2
      cases f2
theorem XsOk.news : ∀ {xs : List (Bool × D)} {vs : List V} {i : Nat} {d : D}, XsOk c st σ H G xs vs → xs[i]? = some (true, d) → ∃ a, vs[i]? = some (.ref a) ∧ Fre c st σ H G a d
  | [], _, _, _, _, e => by simp at e
  | (b, d0) :: r, _, 0, d, h, e => by
    simp at e
    obtain ⟨rfl, rfl⟩ := e
    obtain ⟨a, rs, rfl, f, _, _⟩ := h
    exact ⟨a, rfl, f⟩
  | (b, d0) :: r, _, i + 1, d, h, e => by
    cases b with
    | false =>
      obtain ⟨v, rs, rfl, _, h2⟩ := h
      obtain ⟨a, q1, q2⟩ := XsOk.news (i := i) h2 (by simpa using e)
      exact ⟨a, by simpa using q1, q2⟩
    | true =>
      obtain ⟨a0, rs, rfl, _, _, h2⟩ := h
      obtain ⟨a, q1, q2⟩ := XsOk.news (i := i) h2 (by simpa using e)
      exact ⟨a, by simpa using q1, q2⟩
theorem dx_n {m : M D} {r : M (List (Bool × D))} (h : DN c X W e m) (hr : ∀ H0', DX (c.h H0') X W es r) (hs : starEach (e :: es) X.env = (false, eval e X.env) :: starEach es X.env := by rfl) : DX c X W (e :: es) (xN m r) := by
  have hr' : PA X es (fun σ H Q => ∃ H0', tX (c.h H0') W r σ H Q) := ⟨fun pos pins s σ H Q I ⟨H0', q⟩ => (hr H0').run pos pins s σ H Q I q⟩
  refine pa_weak (pa_cons h hr' hs) fun σ H Q ⟨st, G, r0, p⟩ => ⟨st, G, r0, (Po.seq p).mono fun d s1 H1 G1 l1 r1 ⟨_, p1⟩ a f => ?_⟩
  split at p1
  · rename_i hd
    cases d with
    | lst ds =>
      obtain ⟨g, h0, ow, ap⟩ := f
      simp only [Own] at ow
      obtain ⟨us, ha, rl⟩ := ow
      have ni : a ∉ c.ios := fun z => r1.wf.ios0 a z h0
      have rg : R (c.h (upd c.H0 a (.lst us))) s1 σ H1 G1 := r1.guard ha h0 g ni ap
      have g0 : c.G0 a = none := by
        cases zz : c.G0 a with
        | none => rfl
        | some o => have := r1.ge0 _ _ zz; rw [g] at this; cases this
      have le0 : ∀ b o, c.H0 b = some o → upd c.H0 a (.lst us) b = some o := fun b o hb => by rw [upd_ne (fun z => by rw [z, h0] at hb; cases hb)]; exact hb
      refine ⟨upd c.H0 a (.lst us), s1, G1, rg, ?_⟩
      have p2 := Po.seq p1
      cases er : r s1 with
      | stuck => rw [er] at p2; exact p2
      | exc cn ns es s2 =>
        rw [er] at p2
        exact fun cls od H2 G2 l2 r2 ex => p2 cls od H2 G2 l2 (r2.unguard le0 r1.wf) ex
      | ok xs s2 =>
        rw [er] at p2
        intro H2 G2 l2 r2 vs xo
        have r2' : R c s2 σ H2 G2 := r2.unguard le0 r1.wf
        obtain ⟨_, p3⟩ := p2 H2 G2 l2 r2'
        have gg : upd c.H0 a (.lst us) a = some (.lst us) := upd_same
        have ha2 : H2 a = some (.lst us) := by
          rcases r2.frame a _ gg ni with z | ⟨_, m, _⟩
          · exact z
          · exact m.elim
        have g2 : G2 a = none := by
          cases z : G2 a with
          | none => rfl
          | some o =>
            have q : upd c.H0 a (.lst us) a = none := r2.fresh a (by rw [z]; exact fun y => nomatch y) g0
            rw [gg] at q
            cases q
        refine p3.done r2' _ ⟨a, vs, rfl, ⟨g2, h0, by simp only [Own]; exact ⟨us, ha2, RepL.le l2 rl⟩, fun i sv ei oi => r2.apartOf gg ni i sv ei oi⟩, fun i d' ei ev => ?_, xo.unguard le0⟩
        obtain ⟨b, eb, fb⟩ := xo.news ei
        rw [ev] at eb
        cases eb
        have q : upd c.H0 a (.lst us) a = none := fb.2.1
        rw [gg] at q
        cases q
    | _ => cases hd
  · exact p1.elim

/-- the slots is take the items xs -/
def setX : List Nat → List (Bool × D) → S → Option S
  | [], [], st => some st
  | i :: is, (b, d) :: xs, st => setX is xs (st.set i (if b then .ow d else .va d))
  | _, _, _ => none
def setV : List Nat → List V → Sl → Sl
  | i :: is, v :: vs, σ => setV is vs (σ.set i (some v))
  | _, _, σ => σ
theorem Fre.set {i : Nat} {a : Addr} {d : D} {sv : SV} {v : V} (f : Fre c st σ H G a d) (hl : st.length = σ.length) (h : sv.own = true → v ≠ .ref a) : Fre c (st.set i sv) (σ.set i (some v)) H G a d := by
  obtain ⟨g, h0, ow, ap⟩ := f
  refine ⟨g, h0, ow, fun j s e o => ?_⟩
  by_cases n : i = j
  · subst n
    have hi : i < st.length := by
      obtain ⟨h, _⟩ := List.getElem?_eq_some_iff.mp e
      simpa using h
    rw [List.getElem?_set_self hi] at e
    cases e
    rw [at'_set_same (by rw [← hl]; exact hi)]
    intro z
    cases z
    exact h o rfl
  · rw [List.getElem?_set_ne n] at e
    rw [at'_set_ne n]
    exact ap j s e o
theorem XsOk.set {i : Nat} {sv : SV} {v : V} (hl : st.length = σ.length) : ∀ {xs : List (Bool × D)} {vs : List V}, (∀ (k : Nat) (d : D), sv.own = true → xs[k]? = some (true, d) → vs[k]? ≠ some v) → XsOk c st σ H G xs vs → XsOk c (st.set i sv) (σ.set i (some v)) H G xs vs
  | [], _, _, h => h
  | (false, d) :: r, _, n, h => by
    obtain ⟨w, rs, rfl, h1, h2⟩ := h
    exact ⟨w, rs, rfl, h1, XsOk.set hl (fun k d' o e => by simpa using n (k + 1) d' o (by simpa using e)) h2⟩
  | (true, d) :: r, _, n, h => by
    obtain ⟨a, rs, rfl, f, h1, h2⟩ := h
    refine ⟨a, rs, rfl, f.set hl fun o z => ?_, h1, XsOk.set hl (fun k d' o e => by simpa using n (k + 1) d' o (by simpa using e)) h2⟩
    exact n 0 d o rfl (by simp [z])
theorem R.setX : ∀ {is : List Nat} {xs : List (Bool × D)} {vs : List V} {st st' : S} {σ : Sl}, R c st σ H G → XsOk c st σ H G xs vs → Dn.setX is xs st = some st' → R c st' (setV is vs σ) H G
  | [], [], vs, st, st', σ, r, xo, e => by
    simp only [Dn.setX, Option.some.injEq] at e
    subst e
    have : vs = [] := xo
    subst this
    exact r
  | i :: is, (false, d) :: xs, vs, st, st', σ, r, xo, e => by
    obtain ⟨v, rs, rfl, h1, h2⟩ := xo
    simp only [Dn.setX] at e
    show R c st' (setV is rs (σ.set i (some v))) H G
    exact R.setX (is := is) (r.set h1) (h2.set r.len fun k d' o => by cases o) e
  | i :: is, (true, d) :: xs, vs, st, st', σ, r, xo, e => by
    obtain ⟨a, rs, rfl, f, h1, h2⟩ := xo
    simp only [Dn.setX] at e
    show R c st' (setV is rs (σ.set i (some (.ref a)))) H G
    exact R.setX (is := is) (r.setOw f) (h2.set r.len fun k d' o ek => h1 k d' ek) e
  | [], _ :: _, _, _, _, _, _, _, e => by simp only [Dn.setX, reduceCtorEq] at e
  | _ :: _, [], _, _, _, _, _, _, e => by simp only [Dn.setX, reduceCtorEq] at e
def sPar (is : List Nat) (m : M (List (Bool × D))) : SM := eS m fun xs st => match setX is xs st with
  | some st' => .nx st'
  | none => .stuck
theorem XsOk.length : ∀ {xs : List (Bool × D)} {vs : List V}, XsOk c st σ H G xs vs → vs.length = xs.length
  | [], _, h => by rw [h]; rfl
  | (false, d) :: r, _, h => by
    obtain ⟨w, rs, rfl, h1, h2⟩ := h
    rw [List.length_cons, List.length_cons, XsOk.length h2]
  | (true, d) :: r, _, h => by
    obtain ⟨w, rs, rfl, _, h1, h2⟩ := h
    rw [List.length_cons, List.length_cons, XsOk.length h2]
theorem setX_length : ∀ {is : List Nat} {xs : List (Bool × D)} {st st' : S}, setX is xs st = some st' → is.length = xs.length
  | [], [], _, _, _ => rfl
  | i :: is, (b, d) :: xs, st, st', e => by
    simp only [setX] at e
    rw [List.length_cons, List.length_cons, setX_length e]
  | [], _ :: _, _, _, e => by simp only [setX, reduceCtorEq] at e
  | _ :: _, [], _, _, e => by simp only [setX, reduceCtorEq] at e
theorem ds_par2 {i j : Nat} {x y : Str} {a b : Expr} {m : M (List (Bool × D))} {px py pt : Pos} {kt k2 pt2} (hc : X.calm = true) (hN : X.N.Nodup) (hi : X.N[i]? = some x) (hj : X.N[j]? = some y) (hij : i ≠ j)
    (hx : X.env.scope.names.lookup x = some .local) (hy : X.env.scope.names.lookup y = some .local) (ha : DX c X W [a, b] m)
    (hw : swappedStores [.Tuple [.Name x px, .Name y py] kt pt] (.Tuple [a, b] k2 pt2) X.env = pure (some [x, y]))
    (hs : swapsWithSole [.Tuple [.Name x px, .Name y py] kt pt] (.Tuple [a, b] k2 pt2) pos.line X.env = pure false := by rfl) :
    DS c X W (.Assign [.Tuple [.Name x px, .Name y py] kt pt] (.Tuple [a, b] k2 pt2) pos) (sPar [i, j] m) :=
  ps_weak (ps_par hc hN hi hj hij hx hy ha hw hs) fun De σ H ⟨st, G, r, p⟩ => ⟨st, G, r, (PoS.of p).mono fun xs s1 H1 G1 l1 r1 ⟨_, p1⟩ vs xo => by
    cases e : setX [i, j] xs s1 with
    | none => rw [e] at p1; exact p1.elim
    | some s2 =>
      rw [e] at p1
      have hl := setX_length e
      have hv := xo.length
      rw [← hl] at hv
      match vs, hv with
      | [v, w], _ => exact ⟨v, w, rfl, p1 _ H1 G1 (GLe.refl G1) (R.setX r1 xo e)⟩⟩
theorem ds_par3 {i j l : Nat} {x y z : Str} {a b d : Expr} {m : M (List (Bool × D))} {px py pz pt : Pos} {kt k2 pt2} (hc : X.calm = true) (hN : X.N.Nodup) (hi : X.N[i]? = some x) (hj : X.N[j]? = some y) (hl : X.N[l]? = some z) (hij : i ≠ j) (hil : i ≠ l) (hjl : j ≠ l)
    (hx : X.env.scope.names.lookup x = some .local) (hy : X.env.scope.names.lookup y = some .local) (hz : X.env.scope.names.lookup z = some .local) (ha : DX c X W [a, b, d] m)
    (hw : swappedStores [.Tuple [.Name x px, .Name y py, .Name z pz] kt pt] (.Tuple [a, b, d] k2 pt2) X.env = pure (some [x, y, z]))
    (hs : swapsWithSole [.Tuple [.Name x px, .Name y py, .Name z pz] kt pt] (.Tuple [a, b, d] k2 pt2) pos.line X.env = pure false := by rfl) :
    DS c X W (.Assign [.Tuple [.Name x px, .Name y py, .Name z pz] kt pt] (.Tuple [a, b, d] k2 pt2) pos) (sPar [i, j, l] m) :=
  ps_weak (ps_par3 hc hN hi hj hl hij hil hjl hx hy hz ha hw hs) fun De σ H ⟨st, G, r, p⟩ => ⟨st, G, r, (PoS.of p).mono fun xs s1 H1 G1 l1 r1 ⟨_, p1⟩ vs xo => by
    cases e : setX [i, j, l] xs s1 with
    | none => rw [e] at p1; exact p1.elim
    | some s2 =>
      rw [e] at p1
      have hl := setX_length e
      have hv := xo.length
      rw [← hl] at hv
      match vs, hv with
      | [u, v, w], _ => exact ⟨u, v, w, rfl, p1 _ H1 G1 (GLe.refl G1) (R.setX r1 xo e)⟩⟩
theorem XsOk.grow {q : Addr} {o : HO} (hq : H q = none) : ∀ {xs : List (Bool × D)} {vs : List V}, XsOk c st σ H G xs vs → XsOk c st σ (upd H q o) G xs vs
  | [], _, h => h
  | (false, d) :: r, _, h => by
    obtain ⟨v, rs, rfl, h1, h2⟩ := h
    exact ⟨v, rs, rfl, h1, XsOk.grow hq h2⟩
  | (true, d) :: r, _, h => by
    obtain ⟨a, rs, rfl, ⟨f1, f2, f3, f4⟩, h1, h2⟩ := h
    refine ⟨a, rs, rfl, ⟨f1, f2, f3.le (GLe.refl _) fun u hu => by rw [upd_ne (ne_of_none hu hq)]; exact hu, f4⟩, h1, XsOk.grow hq h2⟩
/-- targets that are names: the slots is -/
def gSlots : List Nat → TGs
  | [] => gNil
  | i :: is => gCons (gName i) (gSlots is)
theorem gSlots_run : ∀ {is : List Nat} {vs : List V} {σ : Sl} {H : Hp} {Q : L2.St → Hp → Prop}, is.length = vs.length → Q (setV is vs σ) H → gSlots is vs σ H Q
  | [], [], _, _, _, _, q => ⟨rfl, q⟩
  | i :: is, v :: vs, σ, H, Q, hl, q => ⟨v, vs, rfl, gSlots_run (by simpa using hl) q⟩
  | [], _ :: _, _, _, _, hl, _ => by simp at hl
  | _ :: _, [], _, _, _, hl, _ => by simp at hl
/-- x, y, .. = e, f, .. by a tuple that is laid and taken apart (some name is a cell) -/
theorem ds_parT {is : List Nat} {ts : List Expr} {m : M (List (Bool × D))} {pt : Pos} {kt k2 pt2} (hk : c.K = X.K) (hc : X.calm = true) (ha : DX c X W es m) (hg : PGs X ts (gSlots is))
    (hsl : is.length ≤ 1000 := by decide) (hn : (assignEach ts X.env).length = is.length := by rfl) (hst : (assignEach ts X.env).findIdx? (·.1) = none := by rfl)
    (hs : swapsWithSole [.Tuple ts kt pt] (.Tuple es k2 pt2) pos.line X.env = pure false := by rfl) (hw : swappedStores [.Tuple ts kt pt] (.Tuple es k2 pt2) X.env = pure none := by rfl)
    (h1 : (assignEach [.Tuple ts kt pt] X.env).map (·.2) = [assign (.Tuple ts kt pt) X.env] := by rfl) :
    DS c X W (.Assign [.Tuple ts kt pt] (.Tuple es k2 pt2) pos) (sPar is m) :=
  ps_weak (ps_asg (pe_tup ha) (pg_tup hc hg hn hst) hs hw h1) fun De σ H ⟨st, G, r, p⟩ => ⟨st, G, r, (PoS.of p).mono fun xs s1 H1 G1 l1 r1 ⟨_, p1⟩ vs xo => by
    cases e : setX is xs s1 with
    | none => rw [e] at p1; exact p1.elim
    | some s2 =>
      rw [e] at p1
      have hl := setX_length e
      have hv := xo.length
      rw [← hl] at hv
      refine ⟨by rw [hv, sl_eq]; omega, fun tp htp => ⟨tp, vs, rfl, .of upd_same, hv, gSlots_run hv.symm ?_⟩⟩
      have r2 := r1.new (o := .tup vs) htp
      exact p1 _ _ G1 (GLe.refl G1) (R.setX r2 (xo.grow htp) e)⟩
end
end Dn

set_option Elab.async false
set_option linter.all false
set_option maxRecDepth 100000
set_option maxHeartbeats 4000000
/-! Dn, part M: own exceptions raised; try with several clauses, some of which name what they catch. -/
namespace Dn
open PySem PySem.Spec PyProof.Rows L2
section
variable {c : Ct} {X : Cx} {W : WX} {σ : Sl} {G H : Hp} {e : Expr} {es : List Expr} {pos p pos2 : Pos} {st : S}

/-! ### raise C(), C without an __init__ of its own -/
theorem pmk_own0 {C : Addr} {bmB : List Value} {B newId initId : String} {x : Str} (F : ExcBaseFacts B newId initId bmB) (q : PySem.W.excIn X.K C bmB newId = true) (gC : X.mg x = some (.ref C)) (kC : PySem.W.keepIn X.K (.ref C) = true) (r : Raises X (.ref C)) (hg : Gl X x)
    (hdb : (x == ("__debug__" : Str)) = false := by decide) : PMk X (.Call (.Name x p) [] [] pos) (fun _ H Q => Q (.ref C) none H) := fun pins s σ H Q I h =>
  wpAny_Call_Name_kw (ld_glob I hg gC (PySem.W.callWith_K0 I.kIn kC (by
    obtain ⟨_, _, _, _, _, _, _, _, _, _, _, _, _, _, _, _, _, hC, hN, hni, T⟩ := exc_obj I.kIn q
    show wpAny _ _ (call (.ref C) []) _ _ _
    exact wpAny_call_exc_subT F T hC hN hni (fun _ _ hm => mk_of I hm r h (I.hok.gone hm.new)) (Nat.zero_le _))) hdb)
def sRaise0 (cn : Str) : SM := fun st => .exc cn [] [] st
theorem ds_raise0 {C : Addr} {bmB : List Value} {B newId initId : String} {x : Str} (hM : c.mg = X.mg) (hc : X.calm = true) (tk : Takes X W) (F : ExcBaseFacts B newId initId bmB) (q : PySem.W.excIn X.K C bmB newId = true) (gC : X.mg x = some (.ref C)) (kC : PySem.W.keepIn X.K (.ref C) = true) (r : Raises X (.ref C)) (hg : Gl X x)
    (hdb : (x == ("__debug__" : Str)) = false := by decide) : DS c X W (.Raise (some (.Call (.Name x p) [] [] pos)) none pos2) (sRaise0 x) :=
  ps_weak (ps_raise hc tk (pmk_own0 F q gC kC r hg hdb)) fun De σ H ⟨st, G, r, p⟩ => p (.ref C) none σ H G (GLe.refl G) r ⟨⟨C, rfl, by rw [hM]; exact gC⟩, .inl ⟨rfl, rfl, rfl⟩⟩

/-! ### raise C(e, ..), C with the __init__ that stores its arguments -/
/-- what such an __init__ does: fs, the names in the order of storing -/
def spInit (C : Addr) (fs : List Str) : Sp := fun vs H Q _ => ∃ a ws, vs = .ref a :: ws ∧ ws.length = fs.length ∧ H a = some (exo a C none) ∧
  ∀ d H2, H d = none → d ≠ a → H2 a = some (exo a C (some d)) → H2 d = some (exd d (fs.zip ws).reverse) → (∀ b, b ≠ a → b ≠ d → H2 b = H b) → Q .non H2
def sRaise (cn : Str) (fs : List Str) (m : M (List D)) : SM := eS m fun ds st => if ds.length = fs.length ∧ fs.length ≤ 900 then .exc cn fs.reverse ds.reverse st else .stuck
theorem zip_rev {α β : Type} : ∀ {xs : List α} {ys : List β}, xs.length = ys.length → (xs.zip ys).reverse = xs.reverse.zip ys.reverse
  | [], [], _ => rfl
  | x :: xs, y :: ys, h => by
    have h' : xs.length = ys.length := by simpa using h
    rw [List.zip_cons_cons, List.reverse_cons, List.reverse_cons, List.reverse_cons, zip_rev h', List.zip_append (by simpa using h')]
    rfl
  | [], _ :: _, h => by simp at h
  | _ :: _, [], h => by simp at h
theorem RepL.reverse {K : PySem.W.Frag} {mg : MG} : ∀ {ds : List D} {vs : List V}, RepL K mg G ds vs → RepL K mg G ds.reverse vs.reverse
  | [], _, h => by
    simp only [RepL] at h
    subst h
    exact .nil
  | d :: ds, _, h => by
    simp only [RepL] at h
    obtain ⟨v, r, rfl, h1, h2⟩ := h
    rw [List.reverse_cons, List.reverse_cons]
    exact (RepL.reverse h2).snoc h1
theorem ds_raise {C fI : Addr} {x : Str} {fs : List Str} {k : Nat} {fd : FuncData} {ps : List Str} {CXt : CXT} {m : M (List D)} (hM : c.mg = X.mg) (hc : X.calm = true) (tk : Takes X W) (T : OexC X.K C) (iC : PySem.W.findIn X.K (.ref C) "__init__" = some (some (.ref fI))) (tI : PySem.W.typeIn X.K (.ref fI) = some (.type "function"))
    (F1 : FnOk X.prog X.w X.K X.mg X.base CXt k fI fd ps (spInit C fs)) (hr : Room (k + 1) X.A) (hb : Binds X.K fd ps []) (hx : Passes CXt X (fun _ _ _ => False)) (hg : Gl X x) (gC : X.mg x = some (.ref C)) (ha : DA c X W (e :: es) m)
    (hdb : (x == ("__debug__" : Str)) = false := by decide) (he : starEach (e :: es) X.env = (false, eval e X.env) :: starEach es X.env := by rfl) (hpl : (backTo pos (starEach es X.env)).any (·.1) = false := by rfl) :
    DS c X W (.Raise (some (.Call (.Name x p) (e :: es) [] pos)) none pos2) (sRaise x fs m) :=
  ps_weak (ps_raise hc tk (pmk_oex (dvs := []) T iC tI F1 hr hb .nil hx hg gC ha hdb he hpl)) fun De σ H ⟨st, G, r, p⟩ => ⟨st, G, r, (PoS.of p).mono fun ds s1 H1 G1 l1 r1 ⟨_, p1⟩ vs reps => by
    split at p1
    · rename_i hz
      have hl := reps.length
      refine ⟨by omega, fun a hna => ?_⟩
      rw [List.append_nil]
      refine ⟨a, vs, rfl, by omega, upd_same, fun d H2 hd nda ha hdd hot => ⟨rfl, d, _, ha, hdd, ?_, ?_⟩⟩
      · rw [upd_ne nda] at hd
        exact hd
      · have hd1 : H1 d = none := by rw [upd_ne nda] at hd; exact hd
        have eH : upd (del H2 a) d (.xd (fs.zip vs).reverse) = upd H1 d (.xd (fs.zip vs).reverse) := by
          funext b
          by_cases e1 : b = d
          · subst e1; rw [upd_same, upd_same]
          · rw [upd_ne e1, upd_ne e1]
            by_cases e2 : b = a
            · subst e2; rw [del_same, hna]
            · rw [del_ne e2, hot b e2 e1, upd_ne e2]
        show W _ _ _ _
        rw [eH]
        have le := gle_upd (o := HO.xd (fs.zip vs).reverse) (r1.sub.none hd1)
        refine p1 (.ref C) (some d) σ _ _ le (r1.newD hd1) ⟨⟨C, rfl, by rw [hM]; exact gC⟩, .inr ⟨d, vs.reverse, rfl, ?_, ?_, RepL.le le reps.reverse⟩⟩
        · rw [upd_same, zip_rev (by omega)]
        · rw [List.length_reverse, List.length_reverse, hz.1]
    · exact p1.elim⟩
/-- the __init__ of one field -/
theorem init1 {P : Program} {w : World} {K : PySem.W.Frag} {mg : MG} {base : Heap} {qual f1 : Str} {sI : Stmt} {f C : Addr} {fd : FuncData} {p1 p2 p3 p4 : Pos} (F : Fun K "__init__" qual sI f fd) (Sc : FnScope [("self" : Str), f1] [("self" : Str), f1] (defScope sI))
    (hbd : defBody sI = [.Assign [.Attribute (.Name "self" p1) f1 p2] (.Name f1 p3) p4]) (hl0 : (defScope sI).names.lookup ("self" : Str) = some .local) (hl1 : (defScope sI).names.lookup f1 = some .local) (hd1 : (f1 == ("__debug__" : Str)) = false) (hd2 : (f1 == ("__classdict__" : Str)) = false)
    (hs : ∀ (env : Env), env.scope = defScope sI → swapsWith (.Name f1 p3) (some (.Attribute (.Name "self" p1) f1 p2)) p4.line env = pure false) (T : OexC K C) (hno : PySem.W.findIn K (.ref C) f1 = some none) :
    FnOk P w K mg base CX0 1 f fd [("self" : Str), f1] (spInit C [f1]) := by
  refine F.ok Sc (fun vs H Q E h => ?_) fun cdv A outer s H vs Q E hr h => ?_
  · obtain ⟨a, ws, rfl, hl, _⟩ := h
    simp only [List.length_cons, List.length_nil] at hl ⊢
    omega
  · obtain ⟨a, ws, rfl, hl, ha, q⟩ := h
    match ws, hl with
    | [y], _ =>
      rw [hbd]
      refine ⟨_, pss_one (ps_ost (pe_var (i := 0) rfl (.inl hl0)) (pe_var (i := 1) rfl (.inl hl1) hd1 hd2) (hs _ rfl)), ?_⟩
      refine ⟨y, rfl, .ref a, rfl, a, C, rfl, T, hno, .inl ⟨ha, fun dx hdx nda => ?_⟩⟩
      refine q dx _ hdx nda upd_same ?_ fun b n1 n2 => by rw [upd_ne n1, upd_ne n2]
      rw [upd_ne nda, upd_same]
      rfl
end
/-! ### try with several clauses; a clause may name (slot i) what it catches -/
/-- behind a clause that names: the name is gone -/
def gone (De : Ends) : Option Nat → Ends
  | none => De
  | some i => { nx := fun σ H => De.nx (σ.set i none) H, rt := De.rt, bk := fun σ H => De.bk (σ.set i none) H, ct := fun σ H => De.ct (σ.set i none) H }
def named (σ : Sl) (a : Addr) : Option Nat → Sl
  | none => σ
  | some i => σ.set i (some (.ref a))
abbrev Cl := Value × Option Nat × (Addr → Value → Option Addr → TS)
def wMix (K : PySem.W.Frag) (Wout : WX) (De : Ends) : List Cl → WX
  | [] => Wout
  | (v, o, ts) :: r => fun cls d σ H => ∃ b, PySem.W.exmOne K cls v = some b ∧ (b = true → ∀ a, H a = none → ts a cls d (gone De o) (named σ a o) H) ∧ (b = false → wMix K Wout De r cls d σ H)
inductive ClOk (X : Cx) : List ExceptHandler → List Cl → Prop
  | nil : ClOk X [] []
  | cons {x : Str} {v : Value} {o : Option Nat} {nm : Option Str} {ts : Addr → Value → Option Addr → TS} {b₀ : Stmt} {suite : List Stmt} {np pos' : Pos} {hds : List ExceptHandler} {l : List Cl} (hc : Names X x v)
      (ho : (o = none ∧ nm = none) ∨ ∃ i n, o = some i ∧ nm = some n ∧ X.N[i]? = some n ∧ X.env.kindOf n = some .local)
      (hsu : ∀ (a : Addr) (oe : Obj) (cls : Value) (d : Option Addr) (pn : List (Addr × Obj)), Zc cls d oe → (∃ vs, oe.data = .fields vs) → PSs (X.suite a ((a, oe) :: pn)) (b₀ :: suite) (ts a cls d)) (r : ClOk X hds l) :
      ClOk X (.ExceptHandler (some (.Name x np)) nm (b₀ :: suite) pos' :: hds) ((v, o, ts) :: l)
section
variable {X : Cx} {pins : List (Addr × Obj)} {De : Ends} {Wout : WX} {s3 : Shared} {a : Addr} {cls : Value} {d : Option Addr} {σ' : Sl} {H' : Hp} {B : Heap}
/-- an exception that is held at a: the clauses, one behind the other. land: the state as it will be when the flight is over, again and again -/
theorem clauses_run (hN : X.N.Nodup) (hf : X.env.frame = some X.env.locals) (ok : X.Ok) (fl3 : HandSPX.FlyingZ B (X.env :: X.outer) a (Zc cls d) s3.heap) (J3 : Inv X pins σ' H' s3) (na : H' a = none) (nL : a ≠ X.env.locals) (nF : a ∉ X.fs)
    (out : ∀ h4, HandSPX.HeldZ B (X.env :: X.outer) a (Zc cls d) X.env.locals h4 → s3.heap.UpToSlots h4 → Wout cls d σ' H' → X.xe (.ref a) { s3 with heap := h4 })
    (land : ∀ h4, B.StaysIn h4 → s3.heap.UpToSlots h4 → Inv X pins σ' H' { s3 with heap := h4 }) :
    ∀ {hds : List ExceptHandler} {l : List Cl}, ClOk X hds l → wMix X.K Wout De l cls d σ' H' → wpAny (model X.prog X.w) X.A (handleBy (.ref a) X.env hds) (SP X pins De) X.xe s3 := by
  obtain ⟨oe3, vs3, he3, hz3, hd3⟩ := fl3.there
  have S3 := J3.suite he3 hd3 na nL nF
  intro hds l hk
  induction hk with
  | nil =>
    intro w
    have fl := fl3
    obtain ⟨_, _, _, oe, vs, T, oT, ts', he, _, hd, h1, _⟩ := fl
    refine wpAny_handleBy_nil ?_
    unfold PySem.passOn
    refine wpAny_bind (wpAny_field he hd h1 ?_)
    rw [if_neg (show ¬ ((Value.ref T == Value.none) = true) from by simp), hf]
    have last : wpAny (model X.prog X.w) X.A (setFlight (.ref a) (some X.env.locals)) (fun _ s4 => wpAny (model X.prog X.w) X.A (throw (.ref a) : Sem Flow) (SP X pins De) X.xe s4) X.xe s3 :=
      HandSPX.setFlight_upZ fl3 fun h4 hh4 up4 => wpAny_throw (out h4 hh4 up4 w)
    first
      | exact wpAny_bind (wpAny_pure (wpAny_bind last))
      | exact wpAny_bind last
  | @cons x v o nm ts b₀ suite np pos' hds2 l2 hc ho hsu r ih =>
    rintro ⟨b, hb1, hyes, hno⟩
    refine wpAny_handleBy_cons (codeAny_handlers_test ?_) (fun q => nomatch q)
    have test : ∀ {Q : Value → Shared → Prop} {E : Value → Shared → Prop}, Q v s3 → wpAny (model X.prog X.w) (X.A.mark (some (.ref a))) (eval (.Name x np) X.env) Q E s3 := fun {Q E} q => by
      obtain ⟨hg, hdbg, hm | ⟨hm, hv, hnn⟩⟩ := hc
      · exact ld_glob (X := X.suite a ((a, oe3) :: (X.pn ++ pins))) S3 hg hm q hdbg
      · exact ld_blt (X := X.suite a ((a, oe3) :: (X.pn ++ pins))) S3 hg hm hv q hnn hdbg
    have LT : PySem.W.Looks (model X.prog X.w) s3.heap (typeOf (.ref a)) cls := fun A Q E s k q => wpAny_typeOf_ref (k _ _ he3) (by rw [hz3.1]; exact q)
    refine test ((PySem.W.exm_one (M := model X.prog X.w) J3.kIn LT hb1).here ?_)
    cases b with
    | false => exact ih (hno rfl)
    | true =>
      rcases ho with ⟨rfl, rfl⟩ | ⟨i, n, rfl, rfl, hi, hln⟩
      · -- without a name
        refine codeAny_handlers_suite (HandSPX.lands_againZ fl3 fun h4 fl4 up4 => ?_)
        obtain ⟨oe4, vs4, he4, hz4, hd4⟩ := fl4.there
        have S4 := (land h4 fl4.1 up4).suite he4 hd4 na nL nF
        refine wpAny_mono ((hsu a oe4 cls d (X.pn ++ pins) hz4 ⟨_, hd4⟩).run [] _ _ H' _ S4 (hyes rfl a na)) (fun f s6 hsp => ?_) (fun _ _ z => False.elim z)
        cases f <;> first
          | (obtain ⟨σ6, H6, S6, q6⟩ := hsp
             exact ⟨_, _, S6.unsuite ok, q6⟩)
          | (obtain ⟨v6, σ6, H6, S6, r6, q6⟩ := hsp
             exact ⟨_, _, _, S6.unsuite ok, r6, q6⟩)
      · -- with one
        refine codeAny_handlers_suite_as (HandSPX.lands_againZ fl3 fun h4 fl4 up4 => ?_)
        obtain ⟨oe4, vs4, he4, hz4, hd4⟩ := fl4.there
        have S4 := (land h4 fl4.1 up4).suite he4 hd4 na nL nF
        refine store_ok (X := X.suite a ((a, oe4) :: (X.pn ++ pins))) (v := .ref a) S4 hN hi (.inl hln) rfl (fun s5 S5 => ?_) (.inr hln)
        refine wpAny_mono ((hsu a oe4 cls d (X.pn ++ pins) hz4 ⟨_, hd4⟩).run [] s5 _ H' _ S5 (hyes rfl a na)) (fun f s6 hsp => ?_) (fun _ _ z => False.elim z)
        cases f <;> first
          | (obtain ⟨σ6, H6, S6, q6⟩ := hsp
             exact gone_ok (S6.unsuite ok) hN hi hln fun s7 J7 => ⟨_, _, J7, q6⟩)
          | (obtain ⟨v6, σ6, H6, S6, r6, q6⟩ := hsp
             exact gone_ok (S6.unsuite ok) hN hi hln fun s7 J7 => ⟨_, _, _, J7, r6, q6⟩)
theorem ps_tryMix {body : List Stmt} {h₀ : ExceptHandler} {hds : List ExceptHandler} {l : List Cl} {pos : Pos} {tb : WX → TS} (hN : X.N.Nodup) (hs : X.stack = X.env :: X.outer) (hf : X.env.frame = some X.env.locals) (tk : Takes X Wout)
    (hb : ∀ (W : WX) (pn : List (Addr × Obj)) (xe : Value → Shared → Prop), Takes (X.tr pn xe) W → PassesOwn (model X.prog X.w) X.A X.env xe → PSs (X.tr pn xe) body (tb W))
    (hh : ClOk X (h₀ :: hds) l) : PS X (.Try body (h₀ :: hds) [] [] pos) (fun De σ H => tb (wMix X.K Wout De l) De σ H) := by
  refine ⟨fun pins s σ H De I h => ?_⟩
  have ok := I.ok
  have hfr : X.A.frames = some (X.env :: X.outer) := ok.frames.trans (by rw [hs])
  let after : Value → Shared → Prop := fun e s₁ => wpAny (model X.prog X.w) X.A (noteFrame e X.env) (fun _ s₂ => wpAny (model X.prog X.w) X.A (setFlight e none) (fun _ s₃ => wpAny (model X.prog X.w) X.A (handleBy e X.env (h₀ :: hds)) (SP X pins De) X.xe s₃) X.xe s₂) X.xe s₁
  have caught : Takes (X.tr (X.pn ++ pins) after) (wMix X.K Wout De l) := by
    rintro u s' ⟨a, B, sI, pins', σ', H', cls, d, rfl, J', nb, up, sky, na, os, ag, w⟩
    have J : Inv X pins σ' H' sI := J'.ofTry ok
    rw [show (X.tr (X.pn ++ pins) after).stack = X.env :: X.outer from hs] at sky
    show wpAny (model X.prog X.w) X.A (noteFrame (.ref a) X.env) _ _ _
    refine Sky.land Zc.steady hfr hf sky fun h3 fl3 up3 => ?_
    obtain ⟨oe3, vs3, he3, hz3, hd3⟩ := fl3.there
    have nfr : a ∉ frs (X.env :: X.outer) := fun hm => by
      obtain ⟨_, o', e', hnf⟩ := fl3.2.2.1.mem hm
      rw [he3] at e'
      cases e'
      exact hnf _ hd3
    have nL : a ≠ X.env.locals := fun z => nfr (List.mem_filterMap.mpr ⟨X.env, List.mem_cons_self, by rw [hf, z]⟩)
    have nF : a ∉ X.fs := fun hm => by
      obtain ⟨e, he, q⟩ := List.mem_filterMap.mp hm
      exact nfr (List.mem_filterMap.mpr ⟨e, List.mem_cons_of_mem _ he, q⟩)
    have up' : sI.heap.UpToSlots h3 := Heap.UpToSlots.trans up up3
    have J3 : Inv X pins σ' H' { s' with heap := h3 } := J.landed nb fl3.1 up' os ag
    refine clauses_run hN hf ok fl3 J3 na nL nF (fun h4 hh4 up4 wo => tk _ _ ⟨a, B, sI, pins, σ', H', cls, d, rfl, J, nb, Heap.UpToSlots.trans up' up4, .inr (.inr (by rw [hs]; exact hh4)), na, os, ag, wo⟩) (fun h4 st4 up4 => J.landed nb st4 (Heap.UpToSlots.trans up' up4) os ag) hh w
  refine wpAny_Try_except (wpAny_mono ((hb (wMix X.K Wout De l) (X.pn ++ pins) after caught PassesOwn.looking).run [] s σ H De (I.toTry _) h) (fun f s1 hsp => ?_) fun _ _ he => he)
  cases f with
  | next =>
    obtain ⟨σ', H', J', q⟩ := hsp
    exact wpAny_execs_nil ⟨σ', H', J'.ofTry ok, q⟩
  | ret u =>
    obtain ⟨v, σ', H', J', r, q⟩ := hsp
    exact ⟨v, σ', H', J'.ofTry ok, r, q⟩
  | brk =>
    obtain ⟨σ', H', J', q⟩ := hsp
    exact ⟨σ', H', J'.ofTry ok, q⟩
  | cont =>
    obtain ⟨σ', H', J', q⟩ := hsp
    exact ⟨σ', H', J'.ofTry ok, q⟩
end

/-! ### what a clause hands back: an expression of constants and of the fields of what it caught -/
/-- a meaning, by the class' name, the fields' names and values -/
abbrev HM := Str → List Str → List D → Option D
def tHx (c : Ct) (a : Addr) (cls : Value) (d : Option Addr) (o : Option Nat) (m : HM) : TE := fun σ H Q => ∃ st G cn ns ds dv, R c st σ H G ∧ (∀ i, o = some i → at' σ i = some (.ref a)) ∧ ExR c.K c.mg G cn ns ds cls d ∧ m cn ns ds = some dv ∧
  ∀ H' G' v, GLe G G' → R c st σ H' G' → Rep c.K c.mg G' dv v → Q v H'
def tHxs (c : Ct) (a : Addr) (cls : Value) (d : Option Addr) (o : Option Nat) (m : Str → List Str → List D → Option (List D)) : TA := fun σ H Q => ∃ st G cn ns ds dvs, R c st σ H G ∧ (∀ i, o = some i → at' σ i = some (.ref a)) ∧ ExR c.K c.mg G cn ns ds cls d ∧ m cn ns ds = some dvs ∧
  ∀ H' G' vs, GLe G G' → R c st σ H' G' → RepL c.K c.mg G' dvs vs → Q vs H'
theorem ExR.le {K : PySem.W.Frag} {mg : MG} {G G' : Hp} {cn : Str} {ns : List Str} {ds : List D} {cls : Value} {od : Option Addr} (l : GLe G G') (h : ExR K mg G cn ns ds cls od) : ExR K mg G' cn ns ds cls od := by
  obtain ⟨h1, h2⟩ := h
  refine ⟨h1, ?_⟩
  rcases h2 with h2 | ⟨d, vs, e1, e2, e3, e4⟩
  · exact .inl h2
  · exact .inr ⟨d, vs, e1, l _ _ e2, e3, RepL.le l e4⟩
section
variable {c : Ct} {X : Cx} {a : Addr} {cls : Value} {d : Option Addr} {o : Option Nat} {e : Expr} {es : List Expr} {pos p : Pos}
theorem hx_str {x : Str} {j pos} : PE X (.Constant (.str x) j pos) (tHx c a cls d o fun _ _ _ => some (.str x)) := pe_weak pe_str fun σ H Q ⟨st, G, cn, ns, ds, dv, r, _, _, e, q⟩ => by
  cases e
  exact q H G _ (GLe.refl G) r (by simp only [Rep])
theorem hx_non {j pos} : PE X (.Constant .none j pos) (tHx c a cls d o fun _ _ _ => some .non) := pe_weak pe_non fun σ H Q ⟨st, G, cn, ns, ds, dv, r, _, _, e, q⟩ => by
  cases e
  exact q H G _ (GLe.refl G) r (by simp only [Rep])
theorem lookup_zip {K : PySem.W.Frag} {mg : MG} {G : Hp} {f : Str} : ∀ {ns : List Str} {ds : List D} {vs : List V} {dv : D}, RepL K mg G ds vs → (ns.zip ds).lookup f = some dv → ∃ v, (ns.zip vs).lookup f = some v ∧ Rep K mg G dv v
  | [], _, _, _, _, e => by simp at e
  | n :: ns, [], _, _, _, e => by simp at e
  | n :: ns, d :: ds, vs, dv, h, e => by
    simp only [RepL] at h
    obtain ⟨v, r, rfl, h1, h2⟩ := h
    simp only [List.zip_cons_cons, List.lookup_cons] at e ⊢
    split at e
    · cases e
      exact ⟨v, rfl, h1⟩
    · exact lookup_zip h2 e
/-- fault.f; F: the classes that may be caught here -/
def hFld (F : List Str) (f : Str) : HM := fun cn ns ds => if F.contains cn then (ns.zip ds).lookup f else none
theorem hx_fld {F : List Str} {oe : Obj} {pn : List (Addr × Obj)} {i : Nat} {x f : Str} {px : Pos} (hF : ∀ cn, F.contains cn = true → ∃ C, c.mg cn = some (.ref C) ∧ XfC X.K C ∧ PySem.W.findIn X.K (.ref C) f = some none) (hz : Zc cls d oe) (hf : ∃ vs, oe.data = .fields vs) (hN : X.N[i]? = some x) (hv : Vis X.env.scope x)
    (hb : attributeBase (.Name x px) f (X.suite a ((a, oe) :: pn)).env (eval (.Name x px) (X.suite a ((a, oe) :: pn)).env) = eval (.Name x px) (X.suite a ((a, oe) :: pn)).env := by rfl) (hd : (x == ("__debug__" : Str)) = false := by decide) (hcd : (x == ("__classdict__" : Str)) = false := by decide) :
    PE (X.suite a ((a, oe) :: pn)) (.Attribute (.Name x px) f pos) (tHx c a cls d (some i) (hFld F f)) := by
  refine ⟨fun pins s σ H Q I h => ?_⟩
  obtain ⟨st, G, cn, ns, ds, dv, r, hx, ex, e, q⟩ := h
  unfold hFld at e
  split at e
  · rename_i hc
    obtain ⟨C, hm, T, hno⟩ := hF cn hc
    obtain ⟨⟨C', e0, hm'⟩, ex⟩ := ex
    rw [hm] at hm'
    cases hm'
    subst e0
    refine (pe_xf T hno hz hf (pe_var (X := X.suite a ((a, oe) :: pn)) (i := i) hN hv hd hcd) hb).run pins s σ H Q I ?_
    rcases ex with ⟨rfl, rfl, _⟩ | ⟨dd, vs, e1, e2, e3, e4⟩
    · simp at e
    · obtain ⟨v, ev, rv⟩ := lookup_zip e4 e
      refine ⟨_, at'_some (hx i rfl), rfl, rfl, dd, _, v, e1, ?_, ev, q H G v (GLe.refl G) r rv⟩
      rcases r.sub _ _ e2 with z | ⟨_, m, _⟩
      · exact z
      · exact m.elim
  · cases e
theorem hxs_nil : PA X [] (tHxs c a cls d o fun _ _ _ => some []) := pa_weak pa_nil fun σ H Q ⟨st, G, cn, ns, ds, dv, r, _, _, e, q⟩ => by
  cases e
  exact q H G _ (GLe.refl G) r .nil
def hCons (m : HM) (r : Str → List Str → List D → Option (List D)) : Str → List Str → List D → Option (List D) := fun cn ns ds => (m cn ns ds).bind fun d => (r cn ns ds).map (d :: ·)
theorem hxs_cons {m : HM} {r : Str → List Str → List D → Option (List D)} (h : PE X e (tHx c a cls d o m)) (hr : PA X es (tHxs c a cls d o r)) (hs : starEach (e :: es) X.env = (false, eval e X.env) :: starEach es X.env := by rfl) : PA X (e :: es) (tHxs c a cls d o (hCons m r)) :=
  pa_weak (pa_cons h hr hs) fun σ H Q ⟨st, G, cn, ns, ds, dvs, r, hx, ex, e, q⟩ => by
    simp only [hCons, Option.bind_eq_some_iff, Option.map_eq_some_iff] at e
    obtain ⟨dv, e1, dvs', e2, rfl⟩ := e
    exact ⟨st, G, cn, ns, ds, dv, r, hx, ex, e1, fun H1 G1 v l1 r1 rep => ⟨st, G1, cn, ns, ds, dvs', r1, hx, ex.le l1, e2, fun H2 G2 vs l2 r2 reps => q H2 G2 _ (l1.trans l2) r2 (.cons (rep.le l2) reps)⟩⟩
def hTup (m : Str → List Str → List D → Option (List D)) : HM := fun cn ns ds => (m cn ns ds).bind fun dvs => if dvs.length ≤ 16777216 then some (.tup dvs) else none
theorem hx_tup {x1} {m : Str → List Str → List D → Option (List D)} (h : PA X es (tHxs c a cls d o m)) : PE X (.Tuple es x1 pos) (tHx c a cls d o (hTup m)) := pe_weak (pe_tup h) fun σ H Q ⟨st, G, cn, ns, ds, dv, r, hx, ex, e, q⟩ => by
  simp only [hTup, Option.bind_eq_some_iff] at e
  obtain ⟨dvs, e1, e⟩ := e
  split at e
  · rename_i hz
    cases e
    refine ⟨st, G, cn, ns, ds, dvs, r, hx, ex, e1, fun H1 G1 vs l1 r1 reps => ⟨by rw [← reps.length, sl_eq]; exact hz, fun tq htq => ?_⟩⟩
    have l2 := gle_upd (o := HO.tup vs) (r1.sub.none htq)
    refine q _ _ _ (l1.trans l2) (r1.newD htq) ?_
    simp only [Rep]
    exact ⟨tq, vs, rfl, .of upd_same, RepL.le l2 reps⟩
  · cases e
end
end Dn

set_option Elab.async false
set_option linter.all false
set_option maxRecDepth 100000
set_option maxHeartbeats 4000000
/-! Dn, part N: try, told; each clause hands back an expression of what it caught. -/
namespace Dn
open PySem PySem.Spec PyProof.Rows L2
/-- a clause: the class' name, the slot of what is caught, what is handed back -/
abbrev HC := Str × Option Nat × HM
def nmd (st : S) : Option Nat → S
  | none => st
  | some i => st.set i .un
def okN (st : S) : Option Nat → Bool
  | none => true
  | some i => decide (i < st.length)
def sHand (mt : Str → Str → Option Bool) (cn : Str) (ns : List Str) (ds : List D) (st : S) : List HC → SRes
  | [] => .exc cn ns ds st
  | (x, o, hm) :: r => match mt cn x with
    | some true => if okN st o = true then match hm cn ns ds with
      | some d => .rt d (nmd st o)
      | none => .stuck else .stuck
    | some false => sHand mt cn ns ds st r
    | none => .stuck
def sTry (mt : Str → Str → Option Bool) (m : SM) (hs : List HC) : SM := fun st => match m st with
  | .exc cn ns ds st' => sHand mt cn ns ds st' hs
  | r => r
def clOf (c : Ct) (hs : List HC) : List Cl := hs.map fun h => ((c.mg h.1).getD .none, h.2.1, fun a cls d De σ H => tHx c a cls d h.2.1 h.2.2 σ H De.rt)
section
variable {c : Ct} {X : Cx} {W : WX} {σ : Sl} {G H : Hp} {st : S} {De : Ends}
theorem R.setUn (r : R c st σ H G) {i : Nat} {x : Option V} : R c (st.set i .un) (σ.set i x) H G := by
  refine ⟨by simp [r.len], r.sub, fun j sv e => ?_, fun j k a sj sk n ej ek oj ok ha hb => ?_, r.frame, r.ge0, r.fresh, r.alive, r.wf⟩
  · by_cases q : i = j
    · subst q
      have hi : i < st.length := by
        obtain ⟨h, _⟩ := List.getElem?_eq_some_iff.mp e
        simpa using h
      rw [List.getElem?_set_self hi] at e
      cases e
      exact trivial
    · rw [List.getElem?_set_ne q] at e
      rw [at'_set_ne q]
      exact r.slot j sv e
  · have h1 : i ≠ j := fun z => by
      subst z
      have hi : i < st.length := by
        obtain ⟨h, _⟩ := List.getElem?_eq_some_iff.mp ej
        simpa using h
      rw [List.getElem?_set_self hi] at ej
      cases ej
      cases oj
    have h2 : i ≠ k := fun z => by
      subst z
      have hi : i < st.length := by
        obtain ⟨h, _⟩ := List.getElem?_eq_some_iff.mp ek
        simpa using h
      rw [List.getElem?_set_self hi] at ek
      cases ek
      cases ok
    rw [List.getElem?_set_ne h1] at ej
    rw [List.getElem?_set_ne h2] at ek
    rw [at'_set_ne h1] at ha
    rw [at'_set_ne h2] at hb
    exact r.apart j k a sj sk n ej ek oj ok ha hb
theorem wmix_ok {mt : Str → Str → Option Bool} (hK : c.K = X.K) (hmt : ∀ cn x b C, mt cn x = some b → c.mg cn = some (.ref C) → PySem.W.exmOne c.K (.ref C) ((c.mg x).getD .none) = some b) {cn : Str} {ns : List Str} {ds : List D} {cls : Value} {od : Option Addr} (r : R c st σ H G) (x : ExR c.K c.mg G cn ns ds cls od) :
    ∀ {hs : List HC}, PoS c W G (sHand mt cn ns ds st hs) De → wMix X.K W De (clOf c hs) cls od σ H
  | [], p => p cls od σ H G (GLe.refl G) r x
  | (y, o, hm) :: hs, p => by
    unfold sHand at p
    obtain ⟨⟨C, ec, mc⟩, _⟩ := id x
    cases em : mt cn y with
    | none => rw [em] at p; exact p.elim
    | some b =>
      refine ⟨b, ?_, fun e a na => ?_, fun e => ?_⟩
      · rw [ec, ← hK]
        exact hmt cn y b C em mc
      · subst e
        rw [em] at p
        simp only at p
        split at p
        rotate_left
        · exact p.elim
        rename_i hi'
        cases eh : hm cn ns ds with
        | none => rw [eh] at p; exact p.elim
        | some d =>
          rw [eh] at p
          have r' : R c (nmd st o) (named σ a o) H G := by
            cases o with
            | none => exact r
            | some i => exact r.setUn
          refine ⟨nmd st o, G, cn, ns, ds, d, r', fun i e => ?_, x, eh, fun H' G' v l r2 rep => ?_⟩
          · subst e
            exact at'_set_same (by rw [← r.len]; simpa [okN] using hi')
          · cases o with
            | none => exact p v _ H' G' l r2 rep
            | some i => exact p v _ H' G' l r2 rep
      · subst e
        rw [em] at p
        exact wmix_ok hK hmt r x p
theorem clok_nil : ClOk X [] (clOf c []) := .nil
theorem clok_cons {x : Str} {v : Value} {o : Option Nat} {nm : Option Str} {hm : HM} {e : Expr} {np pos' p : Pos} {hds : List ExceptHandler} {hs : List HC} (hM : c.mg = X.mg) (hg : Gl X x) (gv : X.mg x = some v) (ho : (o = none ∧ nm = none) ∨ ∃ i n, o = some i ∧ nm = some n ∧ X.N[i]? = some n ∧ X.env.kindOf n = some .local)
    (he : ∀ (a : Addr) (oe : Obj) (cls : Value) (d : Option Addr) (pn : List (Addr × Obj)), Zc cls d oe → (∃ vs, oe.data = .fields vs) → PE (X.suite a ((a, oe) :: pn)) e (tHx c a cls d o hm)) (r : ClOk X hds (clOf c hs)) (hdb : (x == ("__debug__" : Str)) = false := by decide) :
    ClOk X (.ExceptHandler (some (.Name x np)) nm [.Return (some e) p] pos' :: hds) (clOf c ((x, o, hm) :: hs)) := by
  refine .cons ⟨hg, hdb, .inl (by simp only [hM, gv, Option.getD_some])⟩ ho (fun a oe cls d pn hz hf => pss_one (ps_ret (he a oe cls d pn hz hf))) r
theorem ds_try {mt : Str → Str → Option Bool} {body : List Stmt} {h₀ : ExceptHandler} {hds : List ExceptHandler} {hs : List HC} {pos : Pos} {m : SM} (hK : c.K = X.K) (hN : X.N.Nodup) (hst : X.stack = X.env :: X.outer) (hf : X.env.frame = some X.env.locals) (tk : Takes X W)
    (hmt : ∀ cn x b C, mt cn x = some b → c.mg cn = some (.ref C) → PySem.W.exmOne c.K (.ref C) ((c.mg x).getD .none) = some b)
    (hb : ∀ (W : WX) (pn : List (Addr × Obj)) (xe : Value → Shared → Prop), Takes (X.tr pn xe) W → PassesOwn (model X.prog X.w) X.A X.env xe → DSs c (X.tr pn xe) W body m)
    (hh : ClOk X (h₀ :: hds) (clOf c hs)) : DS c X W (.Try body (h₀ :: hds) [] [] pos) (sTry mt m hs) :=
  ps_weak (ps_tryMix (tb := fun W' => tS c W' m) hN hst hf tk hb hh) fun De σ H ⟨st, G, r, p⟩ => by
    refine ⟨st, G, r, ?_⟩
    unfold sTry at p
    cases e : m st with
    | nx st' => rw [e] at p; exact p
    | rt d st' => rw [e] at p; exact p
    | bk st' => rw [e] at p; exact p
    | ct st' => rw [e] at p; exact p
    | stuck => rw [e] at p; exact p
    | exc cn ns ds st' =>
      rw [e] at p
      simp only at p
      exact fun cls od σ' H' G' l r' x => wmix_ok hK hmt r' x (PoS.le l p)
end
end Dn

set_option Elab.async false
set_option linter.all false
set_option maxRecDepth 100000
set_option maxHeartbeats 4000000
/-! Dn, part O: chains of comparisons, x in a list. -/
namespace Dn
open PySem PySem.Spec PyProof.Rows L2
section
variable {c : Ct} {X : Cx} {W : WX} {σ : Sl} {G H : Hp} {a b d : Expr} {pos : Pos} {st : S}
/-- a op b op' d -/
def mChain (f f' : D → D → Option D) (ma mb mc : M Hd) : M D := bnd ma fun h => bnd mb fun k => bnd (look h) fun x => bnd (look k) fun y => bnd (ofO (f x y)) fun r => match r with
  | .bl true => bnd mc fun l => bnd (look k) fun y' => bnd (look l) fun z => ofO (f' y' z)
  | .bl false => ret (.bl false)
  | _ => fun _ => .stuck
theorem mChain_s {r r' : R2} {f f' : D → D → Option D} {ma mb mc : M Hd} (ho : OpS c r f) (ho' : OpS c r' f') : ∀ σ H Q, tM c W (mChain f f' ma mb mc) σ H Q → tChain r r' (tH c W ma) (tH c W mb) (tH c W mc) σ H Q := by
  rintro σ H Q ⟨st, G, hr, p⟩
  refine ⟨st, G, hr, (Po.seq p).mono fun h s1 H1 G1 l1 r1 ⟨_, p1⟩ x hx => ?_⟩
  refine ⟨s1, G1, r1, (Po.seq p1).mono fun k s2 H2 G2 l2 r2 ⟨_, p2⟩ y hy => ?_⟩
  obtain ⟨a, va, p3⟩ := Po.see r2 (hx.le l2) p2
  obtain ⟨b, vb, p4⟩ := Po.see r2 hy p3
  obtain ⟨dd, e, _, p5⟩ := Po.opt r2 (Po.seq p4)
  refine ho a b dd x y G2 H2 _ e r2.sub va vb fun v rep => ?_
  cases dd with
  | bl kk =>
    simp only [Rep] at rep
    refine ⟨kk, rep, ?_⟩
    cases kk with
    | true =>
      rw [if_pos rfl]
      simp only at p5
      refine ⟨s2, G2, r2, (Po.seq p5).mono fun l s3 H3 G3 l3 r3 ⟨_, p6⟩ z hz => ?_⟩
      obtain ⟨b', vb', p7⟩ := Po.see r3 (hy.le l3) p6
      obtain ⟨d', vd, p8⟩ := Po.see r3 hz p7
      obtain ⟨dr, e2, q⟩ := Po.opt r3 p8
      exact ho' b' d' dr y z G3 H3 Q e2 r3.sub vb' vd q
    | false =>
      rw [if_neg (by simp)]
      simp only at p5
      exact p5.done r2 _ (by simp only [Rep])
  | _ => exact p5.elim
theorem de_chain {op op' : CmpOp} {r r' : R2} {f f' : D → D → Option D} {ma mb mc : M Hd} (hop : OpR X (compareOp op) r) (hop' : OpR X (compareOp op') r') (ho : OpS c r f) (ho' : OpS c r' f') (ha : DH c X W a ma) (hb : DH c X W b mb) (hd : DH c X W d mc)
    (hm : lastMarks [op, op'] [b, d] = false := by with_unfolding_all rfl) : DE c X W (.Compare a [op, op'] [b, d] pos) (mChain f f' ma mb mc) := pe_weak (pe_chain hop hop' ha hb hd hm) (mChain_s ho ho')
theorem dt_chain {op op' : CmpOp} {r r' : R2} {f f' : D → D → Option D} {ma mb mc : M Hd} (hop : OpR X (compareOp op) r) (hop' : OpR X (compareOp op') r') (ho : OpS c r f) (ho' : OpS c r' f') (ha : DH c X W a ma) (hb : DH c X W b mb) (hd : DH c X W d mc)
    (hm : lastMarks [op, op'] [b, d] = false := by with_unfolding_all rfl) : DT c X W (.Compare a [op, op'] [b, d] pos) (asB (mChain f f' ma mb mc)) := pt_weak (pt_chain hop hop' ha hb hd hm) (asB_t (mChain_s ho ho'))
theorem inD_some {neg : Bool} {x y z : D} (h : fInD neg x y = some z) : ∃ p ps, toPy x = some p ∧ toPy y = some (.list ps) ∧ SeqAt.shaped p = true ∧ SeqAt.shaped (.list ps) = true ∧ z = .bl ((ps.any fun q => PyData.eqv q p) != neg) := by
  unfold fInD at h
  split at h
  · rename_i p ps e1 e2
    split at h
    · rename_i g
      exact ⟨p, ps, e1, e2, g.1, g.2, (Option.some.inj h).symm⟩
    · cases h
  · cases h
theorem ops_in : OpS c (rInD c.K) (fInD false) := by
  intro x y z v w G H Q e s va vb q
  obtain ⟨p, ps, e1, e2, s1, s2, rfl⟩ := inD_some e
  refine ⟨p, ps, dp_view s va e1, dp_view s vb e2, s1, s2, q _ ?_⟩
  rw [show ((ps.any fun q => PyData.eqv q p) != false) = (ps.any fun q => PyData.eqv q p) from by cases (ps.any fun q => PyData.eqv q p) <;> rfl]
  simp only [Rep]
theorem ops_notin : OpS c (rNotInD c.K) (fInD true) := by
  intro x y z v w G H Q e s va vb q
  obtain ⟨p, ps, e1, e2, s1, s2, rfl⟩ := inD_some e
  refine ⟨p, ps, dp_view s va e1, dp_view s vb e2, s1, s2, q _ ?_⟩
  rw [show ((ps.any fun q => PyData.eqv q p) != true) = !(ps.any fun q => PyData.eqv q p) from by cases (ps.any fun q => PyData.eqv q p) <;> rfl]
  simp only [Rep]
end
end Dn

set_option Elab.async false
set_option linter.all false
set_option maxRecDepth 100000
set_option maxHeartbeats 4000000
/-! Dn, part P: lambdas without parameters and without captured names: made, called. -/
namespace Dn
open PySem PySem.Spec PyProof.Rows L2

/-! ### the call -/
def noNm (sc : Scope) : Bool := decide (sc.kind = .function) && !sc.isCoroutine && !sc.isGenerator && sc.names.all fun y => !decide (y.2 = .local) && !decide (y.2 = .cell) && !decide (y.2 = .free)
structure NoNm (sc : Scope) : Prop where
  kind : sc.kind = .function
  co : sc.isCoroutine = false
  gen : sc.isGenerator = false
  own : ∀ y ∈ sc.names, y.2 ≠ .local ∧ y.2 ≠ .cell ∧ y.2 ≠ .free
theorem noNm_of {sc : Scope} (h : noNm sc = true) : NoNm sc := by
  unfold noNm at h
  simp only [Bool.and_eq_true, Bool.not_eq_true', decide_eq_true_eq, decide_eq_false_iff_not, List.all_eq_true] at h
  obtain ⟨⟨⟨h1, h2⟩, h3⟩, h4⟩ := h
  exact ⟨h1, h2, h3, fun y hy => ⟨(h4 y hy).1.1, (h4 y hy).1.2, (h4 y hy).2⟩⟩
theorem clo_nil {cells : List (Str × Addr)} : ∀ {names : List (Str × NameKind)} {acc : List (Str × Addr)}, (∀ y ∈ names, y.2 ≠ .free) → cloFrom cells names acc = acc
  | [], _, _ => rfl
  | (n, k) :: r, acc, h => by
    unfold cloFrom
    have hk : ¬ (k == NameKind.free) = true := fun z => h (n, k) List.mem_cons_self (by simpa using z)
    rw [if_neg hk]
    exact clo_nil fun y hy => h y (List.mem_cons_of_mem _ hy)
abbrev lamE (q : Str) (sc : Scope) (L f c' : Addr) : Env := PySem.W.envX q sc L f (.ref c') []
/-- the context of a lambda's body -/
def lamX (P : Program) (w : World) (K : PySem.W.Frag) (mg : MG) (base : Heap) (A : Around) (outer : List Env) (s : Shared) (H : Hp) (E : XK) (q : Str) (sc : Scope) (f c' : Addr) : Cx where
  prog := P
  w := w
  K := K
  mg := mg
  base := base
  A := A.deeper (lamE q sc s.heap.objs.size f c')
  N := []
  s_0 := s
  H_0 := H
  env := lamE q sc s.heap.objs.size f c'
  outer := outer
  stack := lamE q sc s.heap.objs.size f c' :: outer
  ex := []
  fn := fun _ => false
  calm := true
  pn := []
  xe := fun e s' => wpAny (model P w) (A.deeper (lamE q sc s.heap.objs.size f c')) (leaving (lamE q sc s.heap.objs.size f c') e) (fun _ s'' => L2.CX P w outer H s E e s'') (fun e' s'' => L2.CX P w outer H s E e' s'') s'
def outM (x : Option (Str × List Str)) (ds : List D) : M D := fun st => match x, ds with
  | none, [d] => .ok d st
  | some (cn, ns), ds => .exc cn ns ds st
  | _, _ => .stuck
/-- what a lambda's body does: x, ds -/
def Thk (P : Program) (w : World) (K : PySem.W.Frag) (mg : MG) (base : Heap) (k : Nat) (q : Str) (ps : Arguments) (b : Expr) (sc : Scope) (x : Option (Str × List Str)) (ds : List D) : Prop :=
  NoNm sc ∧ (∀ (pm cv ctv : Value), bindArgs (PySem.W.kla_fn "<lambda>" q ps b sc [] pm cv ctv) ⟨[], []⟩ = pure []) ∧ ∃ m : M D, m [] = outM x ds [] ∧
    ∀ (A : Around) (outer : List Env) (s : Shared) (H : Hp) (E : XK) (f c' : Addr) (c : Ct) (W : WX), c.K = K → c.mg = mg → Takes (lamX P w K mg base A outer s H E q sc f c') W → Room k (A.deeper (lamE q sc s.heap.objs.size f c')) → DE c (lamX P w K mg base A outer s H E q sc f c') W b m
open Classical in
/-- x(), x a lambda of slot i -/
noncomputable def mAct (P : Program) (w : World) (K : PySem.W.Frag) (mg : MG) (base : Heap) (k i : Nat) : M D := fun st => match st[i]? with
  | some (.va (.thk q ps b sc x ds)) => if Thk P w K mg base k q ps b sc x ds then outM x ds st else .stuck
  | _ => .stuck
section
variable {X : Cx} {pins : List (Addr × Obj)} {σ : Sl} {H : Hp} {s : Shared} {c : Ct} {W : WX}
theorem lamX_start {P : Program} {w : World} {K : PySem.W.Frag} {mg : MG} {base : Heap} {A : Around} {outer : List Env} {E : XK} {q : Str} {sc : Scope} {f c' : Addr} {h₁ : Heap} {tk : Nat} (L : NoNm sc) (e0 : Env0 P w K mg base A outer s H) (hd : A.handled = none)
    (hns : h₁.Ns s.heap.objs.size fun y => ([] : List (Str × Value)).reverse.lookup y) (kp : ∀ b o, s.heap.get? b = some o → h₁.get? b = some o) :
    Inv (lamX P w K mg base A outer s H E q sc f c') [] [] H { s with heap := h₁, toks := tk } := by
  have noA : ∀ b : Addr, b ∉ (lamX P w K mg base A outer s H E q sc f c').ex := fun b z => absurd (show b ∈ ([] : List Addr) from z) (by simp)
  have noC : ∀ (y : Str) (z : Addr), (lamX P w K mg base A outer s H E q sc f c').env.cells.lookup y = some z → False := fun y z e => by
    have e : ([] : List (Str × Addr)).lookup y = some z := e
    cases e
  refine ⟨⟨e0.mod, L.kind, rfl, rfl, Nat.le_refl _, fun y z c e1 e2 => (noC _ _ e1).elim, fun y hy => ?_, fun y c z _ => ?_, fun _ => hd, Around.frames_deeper e0.frames, .inr ⟨rfl, rfl⟩, fun b z => absurd z (noA b), e0.bs, e0.bsz, fun b _ _ => noA b,
      fun b z => absurd z (noA b), e0.funs, e0.frf⟩,
    rfl, e0.bare, Un.kept kp, ⟨_, hns, fun i y v e1 e2 e3 => ?_⟩, fun y c e => (noC _ _ e).elim, e0.hok.fresh (Nat.le_refl _), fun y c e => (noC _ _ e).elim, fun q hq => absurd (show q ∈ ([] : List (Addr × Obj)) ++ [] from hq) (by simp), e0.hok.kept kp, rfl⟩
  · have hy : sc.names.lookup y = some .cell ∨ sc.names.lookup y = some .free := hy
    rcases hy with hy | hy
    · exact absurd rfl (L.own _ (PySem.mem_of_lookup hy)).2.1
    · exact absurd rfl (L.own _ (PySem.mem_of_lookup hy)).2.2
  · have z : false = true := z
    cases z
  · have e1 : ([] : List Str)[i]? = some y := e1
    simp at e1
theorem de_act {i k : Nat} {a : Str} {p1 p2 : Pos} (hK : c.K = X.K) (hM : c.mg = X.mg) (tk : Takes X W) (hr : Room (k + 1) X.A) (hN : X.N[i]? = some a) (hv : Vis X.env.scope a) (hd : (a == ("__debug__" : Str)) = false := by decide) (hcd : (a == ("__classdict__" : Str)) = false := by decide) :
    DE c X W (.Call (.Name a p1) [] [] p2) (mAct X.prog X.w X.K X.mg X.base k i) := by
  refine ⟨fun pins s σ H Q I h => ?_⟩
  obtain ⟨st, G, r, p⟩ := h
  unfold mAct at p
  split at p
  rotate_left
  · exact p.elim
  rename_i q ps b sc x ds hi
  split at p
  rotate_left
  · exact p.elim
  rename_i hT
  obtain ⟨L, hbind, m, hm, hbody⟩ := hT
  obtain ⟨v0, hs, rep⟩ := r.slot i _ hi
  simp only [Rep] at rep
  obtain ⟨f, c', pm, ctv, rfl, g1, g2⟩ := rep
  have hf : H f = some (LamO f q ps b sc pm c' ctv) := by
    rcases r.sub _ _ g1 with z | ⟨_, m, _⟩
    · exact z
    · exact m.elim
  have hc : H c' = some (LamX.CodeO c' q) := by
    rcases r.sub _ _ g2 with z | ⟨_, m, _⟩
    · exact z
    · exact m.elim
  refine wpAny_Call_Name_kw (thn ((pe_var (pos := p1) (i := i) hN hv hd hcd).run pins s σ H (fun v H1 => v = .ref f ∧ H1 = H) I ⟨.ref f, at'_some hs, rfl, rfl⟩) fun u s1 ⟨v, H1, I1, r1, q1⟩ => ?_)
  obtain ⟨ev, eH⟩ := q1
  subst ev
  rw [eH] at I1
  obtain rfl : u = Value.ref f := r1
  obtain ⟨of1, _, _⟩ := I1.hok f _ hf
  refine PySem.W.callWith_F0 ⟨_, _, _, _, of1⟩ ?_
  obtain ⟨⟨oc, vs, t, hoc, hdc, hvc⟩, _, _⟩ := I1.hok c' _ hc
  let E : XK := WE W σ
  have rc : codeAny (model X.prog X.w) X.A (.call (.ref f) ⟨[], []⟩) (CR (L2.CX X.prog X.w) X.stack X.prog X.w H s1 Q E) s1 := by
    refine PySem.W.kla_callFunE hr.depth of1 rfl L.co L.gen rfl ⟨c', oc, vs, t, rfl, hoc, hdc, hvc⟩ ?_
    rw [hbind]
    refine wpAny_pure (wpAny_newFunctionEnv (fun y hy => (L.own y hy).2.1) (fun y hy => absurd hy (by simp)) (fun h₁ hns hsb => ⟨I1.nolimit.fresh _ hsb, ?_⟩) L.kind)
    show codeAny _ _ (.expr b (lamE q sc s1.heap.objs.size f c')) _ _
    have kp : ∀ b o, s1.heap.get? b = some o → h₁.get? b = some o := fun b o e => hsb.extBut b o (Nat.ne_of_lt (Heap.lt_size e)) (Heap.get?_push_of_some _ e)
    have J : Inv (lamX X.prog X.w X.K X.mg X.base X.A X.stack s1 H E q sc f c') [] [] H { s1 with heap := h₁, toks := s1.toks + ([] : List (Str × Value)).length } := lamX_start L I1.env0 hr.hd hns kp
    have AO : ArgsOk X.K X.mg G H none [] [] := by simp only [ArgsOk]
    have R0 : R ⟨X.K, X.mg, H, G, (none : Option Addr).toList, c.lk, [], fun a => if (none : Option Addr) = some a then none else H a⟩ (initS ([] : List Str).length []) (L2.start [] []) H G := R.start r.sub AO (.inl rfl) (Nat.le_refl _)
    have hb := hbody X.A X.stack s1 H E f c' ⟨X.K, X.mg, H, G, (none : Option Addr).toList, c.lk, [], fun a => if (none : Option Addr) = some a then none else H a⟩ (fun cls d _ H => E cls d H) rfl rfl (takes_of rfl rfl rfl rfl) (hr.deeper _)
    refine PySem.W.kla_codeExpr (wpAny_mono (hb.run [] _ _ H Q J ⟨[], G, R0, ?_⟩) (fun v s' hq => ?_) fun e s' hq => hq)
    · rw [hm]
      unfold outM at p ⊢
      split at p
      · exact fun H' G' l r' v rep => by
          have af := R.finish (x := none) AO (.inl rfl) r' (io := none) rfl
          rw [← hK, ← hM] at af
          exact p H' G' af.le (r.after af (.inl ⟨rfl, rfl⟩)) v (by rw [hK, hM]; exact rep)
      · exact fun cls od H' G' l r' ex => by
          have af := R.finish (x := none) AO (.inl rfl) r' (io := none) rfl
          rw [← hK, ← hM] at af
          exact p cls od H' G' af.le (r.after af (.inl ⟨rfl, rfl⟩)) (by rw [hK, hM]; exact ex)
      · exact p.elim
    · obtain ⟨w', H', J', rv, q⟩ := hq
      exact ⟨w', H', J'.os, J'.bare, J'.base, J'.hok, rv, q⟩
  refine wpAny_call (codeAny_mono rc fun r s' hq => ?_)
  cases r with
  | error e => exact passAt tk σ _ _ _ e s' I1 hq
  | ok fl =>
    cases fl with
    | ret u => exact I1.after hq
    | next => exact False.elim hq
    | brk => exact False.elim hq
    | cont => exact False.elim hq
end
end Dn

set_option Elab.async false
set_option linter.all false
set_option maxRecDepth 100000
set_option maxHeartbeats 4000000
/-! Dn, part Q: lambdas made, in one list of pairs; the law's own promise. -/
namespace Dn
open PySem PySem.Spec PyProof.Rows L2
section
variable {X : Cx} {pins : List (Addr × Obj)} {σ : Sl} {H : Hp} {s : Shared}
/-- a lambda is made: its code object is new or found in the table; its object is tracked -/
theorem lam_mk {cA P : Addr} {q : Str} {ps : Array Value} {params : Arguments} {body : Expr} {scope : Scope} {pos : Pos} {E : Value → Shared → Prop} {Q : Value → Shared → Prop} (I : Inv X pins σ H s) (TB : LamX.TabB X.base X.mg cA P) (hcode : X.env.code = .ref cA)
    (hq : X.env.qual ++ "<lambda>" = q) (hP : H P = some (.tbl ps)) (ht : TriplesOk ps.toList) (ha : ∀ (p : Pos) (cv : Value), codeAmong p ps.toList = some cv → ∃ c, cv = .ref c ∧ H c = some (LamX.CodeO c q)) (hdef : defaultsOf params X.env = ([], [])) (L : NoNm scope)
    (h : ∀ (f c' : Addr) (pm ctv : Value) (H1 : Hp) (s' : Shared), Inv X pins σ (upd H1 f (LamO f q params body scope pm c' ctv)) s' → H1 f = none →
      ((H1 = H ∧ codeAmong pos ps.toList = some (.ref c')) ∨ ∃ ps', H c' = none ∧ H1 = upd (upd H P (.tbl ps')) c' (LamX.CodeO c' q) ∧ TriplesOk ps'.toList ∧ ∀ (p : Pos) (cv : Value), codeAmong p ps'.toList = some cv → codeAmong p ps.toList = some cv ∨ cv = .ref c') → Q (.ref f) s') :
    wpAny (model X.prog X.w) X.A (eval (.Lambda params body scope pos) X.env) Q E s := by
  subst hq
  refine PySem.W.kla_eval hdef ?_
  have hfree : ∀ y ∈ scope.names, y.2 = .free → ∃ c, X.env.cells.lookup y.1 = some c := fun y hy e => absurd e (L.own y hy).2.2
  have hclo : closureFor scope X.env = pure [] := by
    rw [closure_ok hfree, clo_nil fun y hy => (L.own y hy).2.2]
  have bP : s.heap.BuiltinsAt X.mg P := TB.bm.keeps I.bk
  have hP' : s.heap.get? P = some { cls := .none, data := .fields ps } := I.hok P _ hP
  cases hc : codeAmong pos ps.toList with
  | none =>
    refine PySem.W.kla_makeFunction (mg := X.mg) (c := cA) (P := P) (ps := ps) hclo I.ok.glob (I.mod.glob.keeps I.bk) hcode (TB.code.keeps I.bk) hP' ht hc TB.gP bP fun c' ctv h' tk hx hge hlt hrec htb => ?_
    obtain ⟨c2, oc, vs, t, e2, hoc, hd, hv⟩ := hrec
    cases e2
    have I1 := LamX.inv_table (t' := tk) (more := #[rawInt pos.line, rawInt pos.col, .ref c']) (h' := h') I hP (fun b o hb e => hx b o hb e) htb hge ⟨oc, vs, t, hoc, hd, hv⟩
    have nF := I1.hok.fresh (Nat.le_refl _)
    have hget : (h'.push (PySem.W.kla_obj "<lambda>" (X.env.qual ++ "<lambda>") params body scope [] ((X.mg "__name__").getD .none) c' ctv)).get? h'.objs.size = some (PySem.W.kla_obj "<lambda>" (X.env.qual ++ "<lambda>") params body scope [] ((X.mg "__name__").getD .none) c' ctv) := Heap.get?_push_size _ rfl
    have I2 := I1.laid (t' := tk) (a := h'.objs.size) (h' := h'.push (PySem.W.kla_obj "<lambda>" (X.env.qual ++ "<lambda>") params body scope [] ((X.mg "__name__").getD .none) c' ctv)) (o := LamO h'.objs.size (X.env.qual ++ "<lambda>") params body scope ((X.mg "__name__").getD .none) c' ctv)
      (fun b o e => Heap.get?_push_of_some _ e) (Nat.le_refl _) ⟨hget, ⟨_, hget⟩, fun h1 h2 e st => st _ e⟩
    have eL : (ps ++ #[rawInt pos.line, rawInt pos.col, .ref c']).toList = ps.toList ++ [rawInt pos.line, rawInt pos.col, .ref c'] := by simp
    refine h h'.objs.size c' _ ctv _ _ I2 nF (.inr ⟨_, I.hok.fresh hge, rfl, by rw [eL]; exact PySem.TriplesOk_snoc _ _ _ _ ht, fun p' cv hcv => ?_⟩)
    rw [eL] at hcv
    exact LamX.among_app _ ht hcv
  | some cv =>
    obtain ⟨c', e, hco⟩ := ha pos cv hc
    subst e
    refine PySem.W.kla_makeFunctionHit (mg := X.mg) (c := cA) (P := P) (ps := ps) hclo I.ok.glob (I.mod.glob.keeps I.bk) hcode (TB.code.keeps I.bk) hP' ht hc bP fun ctv h' tk hx hsz => ?_
    have hget : (h'.push (PySem.W.kla_obj "<lambda>" (X.env.qual ++ "<lambda>") params body scope [] ((X.mg "__name__").getD .none) c' ctv)).get? h'.objs.size = some (PySem.W.kla_obj "<lambda>" (X.env.qual ++ "<lambda>") params body scope [] ((X.mg "__name__").getD .none) c' ctv) := Heap.get?_push_size _ rfl
    have I2 := I.laid (t' := tk) (a := h'.objs.size) (h' := h'.push (PySem.W.kla_obj "<lambda>" (X.env.qual ++ "<lambda>") params body scope [] ((X.mg "__name__").getD .none) c' ctv)) (o := LamO h'.objs.size (X.env.qual ++ "<lambda>") params body scope ((X.mg "__name__").getD .none) c' ctv)
      (fun b o e => Heap.get?_push_of_some _ (hx b o e)) hsz ⟨hget, ⟨_, hget⟩, fun h1 h2 e st => st _ e⟩
    exact h h'.objs.size c' _ ctv H _ I2 (I.hok.fresh hsz) (.inl ⟨rfl, by first | exact hc | rfl⟩)
end

/-! ### the table, the stand -/
def TabG (H G : Hp) (P : Addr) (q : Str) : Prop := G P = none ∧ ∃ ps : Array Value, H P = some (.tbl ps) ∧ TriplesOk ps.toList ∧ ∀ (p : Pos) (cv : Value), codeAmong p ps.toList = some cv → ∃ c, cv = .ref c ∧ G c = some (LamX.CodeO c q)
def noTab (c : Ct) (P : Addr) : Ct := { c with H0 := fun a => if a = P then none else c.H0 a, B := fun a => if a = P then none else c.B a }
section
variable {c : Ct} {X : Cx} {W : WX} {σ : Sl} {G G' H H' : Hp} {st : S} {P : Addr} {q : Str} {De : Ends}
theorem R.relax (r : R c st σ H G) (hi : c.ios = []) (h : c.H0 P = some (.tbl #[])) : R (noTab c P) st σ H G := by
  have ne : ∀ a o, (noTab c P).H0 a = some o → a ≠ P ∧ c.H0 a = some o := fun a o e => by
    have e : (if a = P then none else c.H0 a) = some o := e
    split at e
    · cases e
    · rename_i n; exact ⟨n, e⟩
  have no : ∀ a, c.H0 a = none → (noTab c P).H0 a = none := fun a e => by
    show (if a = P then none else c.H0 a) = none
    split
    · rfl
    · exact e
  refine ⟨r.len, r.sub, fun i sv e => ?_, r.apart, fun a o e n => r.frame a o (ne a o e).2 n, r.ge0, fun a h1 h2 => no a (r.fresh a h1 h2), r.alive, ⟨fun a o e => ?_, fun a ha => ?_⟩⟩
  · have hs := r.slot i sv e
    cases sv with
    | un => exact hs
    | va d => exact hs
    | bo d =>
      obtain ⟨a, x, b⟩ := hs
      refine ⟨a, x, ?_⟩
      cases d <;> simp only [Bor] at b ⊢
      obtain ⟨vs, b, rl⟩ := b
      refine ⟨vs, ?_, rl⟩
      show (if a = P then none else c.B a) = _
      have na : a ≠ P := fun z => by
        have := (r.wf.lent _ _ b).1
        rw [z, h] at this
        cases this
      rw [if_neg na]
      exact b
    | ow d =>
      obtain ⟨a, x, g, h0, ow⟩ := hs
      exact ⟨a, x, g, no a h0, ow⟩
    | io d =>
      obtain ⟨a, x, g, ha, ow⟩ := hs
      rw [hi] at ha
      cases ha
  · have e : (if a = P then none else c.B a) = some o := e
    split at e
    · cases e
    · rename_i n
      obtain ⟨e1, e2⟩ := r.wf.lent _ _ e
      refine ⟨?_, e2⟩
      show (if a = P then none else c.H0 a) = _
      rw [if_neg n]
      exact e1
  · have ha : a ∈ c.ios := ha
    rw [hi] at ha
    cases ha
theorem PoS.relax {r : SRes} (hi : c.ios = []) (h : c.H0 P = some (.tbl #[])) (p : PoS (noTab c P) W G r De) : PoS c W G r De := by
  cases r with
  | nx st => exact fun σ' H' G' l r => p σ' H' G' l (r.relax hi h)
  | rt d st => exact fun v σ' H' G' l r => p v σ' H' G' l (r.relax hi h)
  | bk st => exact fun σ' H' G' l r => p σ' H' G' l (r.relax hi h)
  | ct st => exact fun σ' H' G' l r => p σ' H' G' l (r.relax hi h)
  | exc cn ns ds st => exact fun cls od σ' H' G' l r => p cls od σ' H' G' l (r.relax hi h)
  | stuck => exact p
theorem R.tab {ps ps' : Array Value} (r : R (noTab c P) st σ H G) (g : G P = none) (h : H P = some (.tbl ps)) : R (noTab c P) st σ (upd H P (.tbl ps')) G := by
  have own : ∀ a d, Own c.K c.mg G H a d → Own c.K c.mg G (upd H P (.tbl ps')) a d := fun a d ow => ow.le (GLe.refl G) fun o e => by
    have na : a ≠ P := fun z => by
      subst z
      cases d <;> simp only [Own] at ow
      · obtain ⟨vs, e, _⟩ := ow; rw [h] at e; cases e
      · obtain ⟨vs, e, _⟩ := ow; rw [h] at e; cases e
      · obtain ⟨vs, e, _⟩ := ow; rw [h] at e; cases e
      · obtain ⟨C, dx, vs, e, _⟩ := ow; rw [h] at e; cases e
    rw [upd_ne na]
    exact e
  refine ⟨r.len, fun a o e => ?_, fun i sv e => ?_, r.apart, fun a o e n => ?_, r.ge0, r.fresh, fun a ha => ?_, r.wf⟩
  · have na : a ≠ P := fun z => by rw [z, g] at e; cases e
    have := r.sub a o e
    unfold Lk at this ⊢
    rw [upd_ne na]
    exact this
  · have hs := r.slot i sv e
    cases sv with
    | un => exact hs
    | va d => exact hs
    | bo d => exact hs
    | ow d =>
      obtain ⟨a, x, g, h0, ow⟩ := hs
      exact ⟨a, x, g, h0, own a d ow⟩
    | io d =>
      obtain ⟨a, x, g, h0, ow⟩ := hs
      exact ⟨a, x, g, h0, own a d ow⟩
  · have na : a ≠ P := fun z => by
      have e : (if a = P then none else c.H0 a) = some o := e
      rw [if_pos z] at e
      cases e
    have := r.frame a o e n
    unfold Lk at this ⊢
    rw [upd_ne na]
    exact this
  · by_cases z : a = P
    · subst z
      rw [upd_same]
      exact fun z => nomatch z
    · rw [upd_ne z]
      exact r.alive a ha
/-- table and stand together -/
def RT (c : Ct) (P : Addr) (q : Str) (st : S) (σ : Sl) (H G : Hp) : Prop := R (noTab c P) st σ H G ∧ TabG H G P q
theorem RT.newD (r : RT c P q st σ H G) {p : Addr} {o : HO} (h : H p = none) : RT c P q st σ (upd H p o) (upd G p o) := by
  obtain ⟨r, g, ps, hP, ht, ha⟩ := r
  have np : P ≠ p := ne_of_none hP h
  refine ⟨r.newD h, by rw [upd_ne np]; exact g, ps, by rw [upd_ne np]; exact hP, ht, fun p' cv e => ?_⟩
  obtain ⟨c1, e1, e2⟩ := ha p' cv e
  exact ⟨c1, e1, gle_upd (r.sub.none h) _ _ e2⟩
def tL (c : Ct) (P : Addr) (q : Str) (d : D) : TE := fun σ H Q => ∃ st G, RT c P q st σ H G ∧ ∀ v H' G', GLe G G' → RT c P q st σ H' G' → Rep c.K c.mg G' d v → Q v H'
def tLs (c : Ct) (P : Addr) (q : Str) (ds : List D) : TA := fun σ H Q => ∃ st G, RT c P q st σ H G ∧ ∀ vs H' G', GLe G G' → RT c P q st σ H' G' → RepL c.K c.mg G' ds vs → Q vs H'
abbrev DZ (c : Ct) (X : Cx) (P : Addr) (q : Str) (e : Expr) (d : D) : Prop := PE X e (tL c P q d)
abbrev DZs (c : Ct) (X : Cx) (P : Addr) (q : Str) (es : List Expr) (ds : List D) : Prop := PA X es (tLs c P q ds)
variable {e : Expr} {es : List Expr} {pos p : Pos}
theorem dz_int {i : Int} {j pos} : DZ c X P q (.Constant (.int i) j pos) (.int i) := pe_weak pe_int fun σ H Q ⟨st, G, r, p⟩ => p _ H G (GLe.refl G) r (by simp only [Rep])
theorem dz_str {x : Str} {j pos} : DZ c X P q (.Constant (.str x) j pos) (.str x) := pe_weak pe_str fun σ H Q ⟨st, G, r, p⟩ => p _ H G (GLe.refl G) r (by simp only [Rep])
theorem dz_non {j pos} : DZ c X P q (.Constant .none j pos) .non := pe_weak pe_non fun σ H Q ⟨st, G, r, p⟩ => p _ H G (GLe.refl G) r (by simp only [Rep])
theorem dz_bl {b : Bool} {j pos} : DZ c X P q (.Constant (.bool b) j pos) (.bl b) := pe_weak pe_bl fun σ H Q ⟨st, G, r, p⟩ => p _ H G (GLe.refl G) r (by simp only [Rep])
theorem dzs_nil : DZs c X P q [] [] := pa_weak pa_nil fun σ H Q ⟨st, G, r, p⟩ => p _ H G (GLe.refl G) r .nil
theorem dzs_cons {d : D} {ds : List D} (h : DZ c X P q e d) (hr : DZs c X P q es ds) (hs : starEach (e :: es) X.env = (false, eval e X.env) :: starEach es X.env := by rfl) : DZs c X P q (e :: es) (d :: ds) :=
  pa_weak (pa_cons h hr hs) fun σ H Q ⟨st, G, r, p⟩ => ⟨st, G, r, fun v H1 G1 l1 r1 rep => ⟨st, G1, r1, fun vs H2 G2 l2 r2 reps => p _ H2 G2 (l1.trans l2) r2 (.cons (rep.le l2) reps)⟩⟩
theorem dz_tup {x1} {ds : List D} (h : DZs c X P q es ds) (hz : ds.length ≤ 16777216 := by decide) : DZ c X P q (.Tuple es x1 pos) (.tup ds) := pe_weak (pe_tup h) fun σ H Q ⟨st, G, r, p⟩ => ⟨st, G, r, fun vs H1 G1 l1 r1 reps => by
  refine ⟨by rw [← reps.length, sl_eq]; exact hz, fun tq htq => ?_⟩
  have l2 := gle_upd (o := HO.tup vs) (r1.1.sub.none htq)
  refine p _ _ _ (l1.trans l2) (r1.newD htq) ?_
  simp only [Rep]
  exact ⟨tq, vs, rfl, .of upd_same, RepL.le l2 reps⟩⟩
theorem dz_lam {cA : Addr} {params : Arguments} {body : Expr} {scope : Scope} {x : Option (Str × List Str)} {ds : List D} (TB : LamX.TabB X.base X.mg cA P) (hcode : X.env.code = .ref cA) (hq : X.env.qual ++ "<lambda>" = q) (hdef : defaultsOf params X.env = ([], [])) (L : NoNm scope) :
    DZ c X P q (.Lambda params body scope pos) (.thk q params body scope x ds) := ⟨fun pins s σ H Q I ⟨st, G, ⟨r, g, ps, hP, ht, ha⟩, p⟩ => by
  have subE : ∀ a y, G a = some (LamX.CodeO a y) → H a = some (LamX.CodeO a y) := fun a y e => by
    rcases r.sub _ _ e with z | ⟨_, m, _⟩
    · exact z
    · exact m.elim
  refine lam_mk I TB hcode hq hP ht (fun p' cv e => ?_) hdef L fun f c' pm ctv H1 s' I2 hf cs => ?_
  · obtain ⟨c1, e1, e2⟩ := ha p' cv e
    exact ⟨c1, e1, subE _ _ e2⟩
  · rcases cs with ⟨rfl, hc⟩ | ⟨ps', hn, rfl, ht', hh⟩
    · obtain ⟨c1, e1, e2⟩ := ha _ _ hc
      cases e1
      have r0 : RT c P q st σ H1 G := ⟨r, g, ps, hP, ht, ha⟩
      have l := gle_upd (o := LamO f q params body scope pm c' ctv) (r.sub.none hf)
      refine ⟨.ref f, _, I2, rfl, p _ _ _ l (r0.newD hf) ?_⟩
      simp only [Rep]
      exact ⟨f, c', pm, ctv, rfl, upd_same, l _ _ e2⟩
    · have nPc : P ≠ c' := ne_of_none hP hn
      have hn1 : upd H P (.tbl ps') c' = none := by rw [upd_ne nPc.symm]; exact hn
      have gc : G c' = none := r.sub.none hn
      have l1 := gle_upd (o := LamX.CodeO c' q) gc
      have r1 : RT c P q st σ (upd (upd H P (.tbl ps')) c' (LamX.CodeO c' q)) (upd G c' (LamX.CodeO c' q)) := by
        refine ⟨(r.tab (ps' := ps') g hP).newD hn1, by rw [upd_ne nPc]; exact g, ps', by rw [upd_ne nPc, upd_same], ht', fun p' cv e => ?_⟩
        rcases hh p' cv e with z | z
        · obtain ⟨c1, e1, e2⟩ := ha p' cv z
          exact ⟨c1, e1, l1 _ _ e2⟩
        · exact ⟨c', z, upd_same⟩
      have l := gle_upd (o := LamO f q params body scope pm c' ctv) (r1.1.sub.none hf)
      refine ⟨.ref f, _, I2, rfl, p _ _ _ (l1.trans l) (r1.newD hf) ?_⟩
      simp only [Rep]
      exact ⟨f, c', pm, ctv, rfl, upd_same, l _ _ upd_same⟩⟩

/-! ### statements ahead of the list, the list, those behind it -/
def tS2 (c : Ct) (P : Addr) (W : WX) (m : SM) : TS := fun De σ H => ∃ st G, R c st σ H G ∧ PoS (noTab c P) W G (m st) De
abbrev DS2 (c : Ct) (X : Cx) (P : Addr) (W : WX) (ss : List Stmt) (m : SM) : Prop := PSs X ss (tS2 c P W m)
theorem ds2_cons {s : Stmt} {ss : List Stmt} {m n : SM} (hi : c.ios = []) (h0 : c.H0 P = some (.tbl #[])) (h : DS c X W s m) (k : DS2 c X P W ss n) : DS2 c X P W (s :: ss) (sq m n) := pss_weak (pss_cons h k) fun De σ H ⟨st, G, r, p⟩ => ⟨st, G, r, by
  unfold sq at p
  cases e : m st with
  | nx st' => rw [e] at p; exact fun σ' H' G' l r' => ⟨st', G', r', PoS.le l p⟩
  | rt d st' => rw [e] at p; exact PoS.relax (P := P) (r := .rt d st') hi h0 p
  | bk st' => rw [e] at p; exact PoS.relax (P := P) (r := .bk st') hi h0 p
  | ct st' => rw [e] at p; exact PoS.relax (P := P) (r := .ct st') hi h0 p
  | exc cn ns ds st' => rw [e] at p; exact PoS.relax (P := P) (r := .exc cn ns ds st') hi h0 p
  | stuck => rw [e] at p; exact p⟩
def sWr (i : Nat) (ds : List D) : SM := fun st => .nx (st.set i (.ow (.lst ds)))
theorem ds2_wrong {ss : List Stmt} {i : Nat} {x : Str} {px : Pos} {n : SM} {ds : List D} (hi : c.ios = []) (h0 : c.H0 P = some (.tbl #[])) (g0 : c.G0 P = none) (hlf : c.lf = []) (hN : X.N.Nodup) (hx : X.N[i]? = some x) (hl : Loc X.env.scope x) (h : DZs c X P q es ds) (k : DSs (noTab c P) X W ss n)
    (hz : ds.length ≤ 16777216 := by decide) (hs : swapsWith (.List es p) (some (.Name x px)) pos.line X.env = pure false := by rfl) (hf : X.fn x = true ∨ X.env.scope.names.lookup x = some .local := by first | exact .inl rfl | exact .inr rfl | assumption) :
    DS2 c X P W (.Assign [.Name x px] (.List es p) pos :: ss) (sq (sWr i ds) n) := pss_weak (pss_cons (ps_set hN hx hl (pe_lst h) hs hf) k) fun De σ H ⟨st, G, r, p⟩ => by
  have gP : G P = none := by
    cases e : G P with
    | none => rfl
    | some o =>
      have := r.fresh P (by rw [e]; exact fun z => nomatch z) g0
      rw [h0] at this
      cases this
  have hP : H P = some (.tbl #[]) := by
    rcases r.frame P _ h0 (by rw [hi]; simp) with z | ⟨z, _⟩
    · exact z
    · rw [hlf] at z
      cases z
  refine ⟨st, G, ⟨r.relax hi h0, gP, #[], hP, True.intro, fun p' cv e => ?_⟩, fun vs H1 G1 l1 r1 reps => ?_⟩
  · have e : codeAmong p' [] = some cv := e
    simp [codeAmong] at e
  · refine ⟨by rw [← reps.length, sl_eq]; exact hz, fun tq htq => ?_⟩
    have fr := r1.1.fre_new (o := HO.lst vs) (d := .lst ds) htq (by simp only [Own]; exact ⟨_, upd_same, reps⟩)
    exact ⟨_, G1, (r1.1.new htq).setOw fr, PoS.le l1 p⟩
end

/-! ### the law's own promise -/
def spL (K : PySem.W.Frag) (mg : MG) (P : Addr) (n : Nat) (f : FM) : Sp := fun vs H Q E => vs.length = n ∧ ∃ (G : Hp) (lk : List Addr) (svs : List SV), Sub lk G H ∧ ArgsOk K mg G H none svs vs ∧ H P = some (.tbl #[]) ∧ G P = none ∧
  match f svs with
  | .ok d _ => ∀ v H' G', Rep K mg G' d v → Q v H'
  | _ => False
theorem law_ok {P : Program} {w : World} {K : PySem.W.Frag} {mg : MG} {base : Heap} {x qual : Str} {st : Stmt} {f cA Pt : Addr} {od an : Option Addr} {sl : Array (Option Value)} {oc kV dc pm ct : Value} {N ps : List Str} {k : Nat} {m : SM}
    (lk : K.lookup f = some ⟨oc, od, .func (PySem.W.fnOf x qual (defArgs st) (defBody st) (defScope st) .none kV dc pm an (.ref cA) ct), sl⟩) (hcd : PySem.W.codeIn K (.ref cA) qual = true) (Sc : FnScope N ps (defScope st)) (hps : ps.length ≤ N.length)
    (hbody : ∀ (A : Around) (outer : List Env) (s : Shared) (H : Hp) (E : XK) (c : Ct) (W : WX), Room k (A.deeper (envOfC qual (defScope st) s.heap.objs.size f (.ref cA))) → c.K = K → c.mg = mg → c.ios = [] → c.lf = [] → c.H0 Pt = some (.tbl #[]) → c.G0 Pt = none →
      Takes (cxOf (L2.CX P w) P w K mg base N qual (defScope st) f (.ref cA) A outer s H E) W → PassesOwn (model P w) (cxOf (L2.CX P w) P w K mg base N qual (defScope st) f (.ref cA) A outer s H E).A (cxOf (L2.CX P w) P w K mg base N qual (defScope st) f (.ref cA) A outer s H E).env (cxOf (L2.CX P w) P w K mg base N qual (defScope st) f (.ref cA) A outer s H E).xe →
      DS2 c (cxOf (L2.CX P w) P w K mg base N qual (defScope st) f (.ref cA) A outer s H E) Pt W (defBody st) m) :
    FnOk P w K mg base (L2.CX P w) (k + 1) f (PySem.W.fnOf x qual (defArgs st) (defBody st) (defScope st) .none kV dc pm an (.ref cA) ct) ps (spL K mg Pt ps.length (fnOf N.length m)) := by
  refine fn_of lk hcd Sc (fun vs H Q E h => h.1) fun A outer s H vs Q E hr h => ?_
  obtain ⟨hl, G, lk, svs, sub, AO, hP, gP, h⟩ := h
  refine ⟨_, hbody A outer s H E ⟨K, mg, H, G, (none : Option Addr).toList, lk, [], fun a => if (none : Option Addr) = some a then none else H a⟩ (fun cls d _ H => E cls d H) hr rfl rfl rfl rfl hP gP (takes_of rfl rfl rfl rfl) (passes_of rfl), initS N.length svs, G, R.start sub AO (.inl rfl) (by rw [hl]; exact hps), ?_⟩
  unfold fnOf at h
  cases e : m (initS N.length svs) with
  | nx st' =>
    rw [e] at h
    simp only at h
    cases ei : ioEnd svs st' with
    | none => rw [ei] at h; exact h.elim
    | some io =>
      rw [ei] at h
      exact fun σ' H' G' le r => h .non H' G' (by simp only [Rep])
  | rt d st' =>
    rw [e] at h
    simp only at h
    cases ei : ioEnd svs st' with
    | none => rw [ei] at h; exact h.elim
    | some io =>
      rw [ei] at h
      exact fun v σ' H' G' le r rep => h v H' G' rep
  | exc cn ns ds st' =>
    rw [e] at h
    simp only at h
    cases ei : ioEnd svs st' with
    | none => rw [ei] at h; exact h.elim
    | some io => rw [ei] at h; exact h.elim
  | bk st' => rw [e] at h; exact h.elim
  | ct st' => rw [e] at h; exact h.elim
  | stuck => rw [e] at h; exact h.elim
/-- the law's promise kept, from its meaning over the script's numbers -/
theorem spL_holds {K : PySem.W.Frag} {mg : MG} {P : Addr} {f : FM} {H : Hp} {a : Addr} {zs : List Int} (hP : H P = some (.tbl #[])) (hS : SqL K H a (zs.map V.int)) (h : ∃ io, f [.va (.fl (zs.map D.int))] = .ok (.bl true) io) : spL K mg P 1 f [.ref a] H (fun v _ => v = .bl true) fun _ _ _ => False := by
  obtain ⟨io, h⟩ := h
  have reps : ∀ (G : Hp) (l : List Int), RepL K mg G (l.map D.int) (l.map V.int) := fun G l => by
    induction l with
    | nil => exact .nil
    | cons z r ih => exact .cons (by simp only [Rep]) ih
  refine ⟨rfl, fun b => if b = a ∧ a ≠ P then H b else none, [], [.va (.fl (zs.map D.int))], fun b o e => ?_, ?_, hP, ?_, ?_⟩
  · simp only at e
    split at e
    · exact .inl e
    · cases e
  · simp only [ArgsOk, AOk, Rep, isIo, isBo]
    refine ⟨_, _, rfl, ⟨a, _, rfl, ?_, reps _ _⟩, fun z => (nomatch z), fun z => (nomatch z), rfl⟩
    have same : ∀ o, H a = some o → (∀ ps, o ≠ .tbl ps) → (if a = a ∧ a ≠ P then H a else none) = some o := fun o e n => by
      rw [if_pos]
      · exact e
      · refine ⟨rfl, fun z => ?_⟩
        rw [z, hP] at e
        exact n _ (Option.some.inj e).symm
    rcases hS with (h1 | ⟨ob, h1⟩) | h1
    · exact .inl (.inl (same _ h1 fun ps z => by cases z))
    · exact .inl (.inr ⟨ob, same _ h1 fun ps z => by cases z⟩)
    · exact .inr h1
  · simp only
    split
    · rename_i z
      exact absurd z.1.symm z.2
    · rfl
  · rw [h]
    exact fun v H' G' rep => by simpa only [Rep] using rep
end Dn

set_option Elab.async false
set_option linter.all false
set_option maxRecDepth 100000
set_option maxHeartbeats 4000000
/-! Dn, part R: enumerate over a tuple; walks over what may be a list or a tuple. -/
namespace Dn
open PySem PySem.Spec PyProof.Rows L2
theorem meets_enum_new1 {v : Value} {o : Obj} {Hh : Heap → Prop} (B : Begins v o Hh) :
    Meets (Builtin.«enumerate.__new__» ⟨[.type "enumerate", v], []⟩) (fun _ R s => Hh s.heap ∧
      R (.ok (.ret (.ref (s.heap.push o).objs.size))) { s with heap := (s.heap.push o).push { cls := .type "enumerate", data := .fields #[.none, .bool false, .ref s.heap.objs.size, rawInt 0, .none, .none] } }) :=
  .of_wp fun prog w A R s h => by
    obtain ⟨hp, g, d, tk, os⟩ := s; obtain ⟨h1, h⟩ := h
    have hsub := sub_enumerate
    have q1 : ∀ {A' : Around} {E : Value → Shared → Prop} {Q : Value → Shared → Prop}, Q (.ref hp.objs.size) ⟨hp.push o, g, d, tk, os⟩ → wpAny (model prog w) A' (pyIter v) Q E ⟨hp, g, d, tk, os⟩ :=
      fun q => B.iter prog w _ _ ⟨hp, g, d, tk, os⟩ _ h1 q
    wp_walk using q1
    refine wpAny_stack_any fun st => wpAny_pure ?_
    split
    · rename_i c _ _ _ _ _
      cases (c == Value.type "enumerate")
      · wp_walk using q1
        exact ⟨_, rfl, h⟩
      · wp_walk using q1
        exact ⟨_, rfl, h⟩
    · wp_walk using q1
      exact ⟨_, rfl, h⟩
theorem call_enum1 {prog : Program} {w : World} {A : Around} {E : Value → Shared → Prop} {s : Shared} {v : Value} {o : Obj} {Hh : Heap → Prop} {Q : Value → Shared → Prop} (B : Begins v o Hh) (h1 : Hh s.heap)
    (h : ∀ h', IsEnum h' (s.heap.objs.size + 1) s.heap.objs.size 0 .none → h'.get? s.heap.objs.size = some o → h'.objs.size = s.heap.objs.size + 2 → (∀ b o, s.heap.get? b = some o → h'.get? b = some o) → Q (.ref (s.heap.objs.size + 1)) { s with heap := h' }) :
    wpAny (model prog w) A (call (.type "enumerate") [v]) Q E s := by
  refine callType_new F.called_enumerate (by decide) (F.typeCall_enumerate_1 _) (F.newCall_enumerate_1 _) (fun obj => F.args_object_init_2 obj _) F.entry_enumerate_new (meets_enum_new1 B) ⟨h1, ?_⟩
  have hz : (s.heap.push o).objs.size = s.heap.objs.size + 1 := Heap.size_push ..
  show _ ∧ _
  rw [hz]
  have he : IsEnum ((s.heap.push o).push { cls := .type "enumerate", data := .fields #[.none, .bool false, .ref s.heap.objs.size, rawInt 0, .none, .none] }) (s.heap.objs.size + 1) s.heap.objs.size 0 .none := by
    have := Heap.get?_push_size (s.heap.push o) (o := { cls := .type "enumerate", data := .fields #[.none, .bool false, .ref s.heap.objs.size, rawInt 0, .none, .none] }) rfl
    rw [hz] at this; exact this
  refine ⟨⟨_, he, rfl⟩, h _ he (Heap.get?_push_of_some _ (Heap.get?_push_size _ B.free)) (by rw [Heap.size_push, hz]) fun b o x => Heap.get?_push_of_some _ (Heap.get?_push_of_some _ x)⟩

def IteT (K : PySem.W.Frag) (a : Addr) : It :=
  ⟨fun i H => ∃ (xs : List V) (x : V), SqT K H a xs ∧ xs[i]? = some x, fun i H v H' => ∃ T x, v = .ref T ∧ H T = none ∧ H' = upd H T (.tup [.int (i : Nat), x]) ∧ ∀ xs, SqT K H a xs → xs[i]? = some x, fun i H => ∃ xs : List V, SqT K H a xs ∧ xs.length ≤ i⟩
theorem tup_stays {X : Cx} {pins : List (Addr × Obj)} {σ : Sl} {H : Hp} {s : Shared} {a : Addr} {its : Array Value} (h : IsTup s.heap a its) : s.heap.IsTuple a its := h
theorem turn_enumT {P : Program} {w : World} {K : PySem.W.Frag} {elts : List Expr} {kk : Nat} {tpos : Pos} (a e it : Addr) (hne : e ≠ it) (hai : a ≠ it) (hea : e ≠ a) :
    Turn P w K (.Tuple elts kk tpos) (IteT K a) [e, it] e (fun i h => (∃ old, IsEnum h e it ((i : Nat) : Int) old) ∧ h.IsTupleIter it a i) where
  mem := by simp
  obj := fun i h st b hb => by
    obtain ⟨⟨old, he⟩, ⟨o, ho, hc, hd⟩⟩ := st
    have e' : b = e ∨ b = it := by simpa using hb
    rcases e' with z | z
    · rw [z]; exact ⟨_, he, fun v q => nomatch q⟩
    · rw [z]; exact ⟨o, ho, fun v q => by rw [hd] at q; cases q⟩
  keep := fun i h h' st k => let ⟨⟨old, he⟩, hi⟩ := st; ⟨⟨old, k e (by simp) _ he⟩, hi.at fun o q => k it (by simp) o q⟩
  item := by
    intro X hP hw hK hc i pins s σ H E I hf st hg
    subst hP hw hK
    obtain ⟨⟨old, he⟩, hit⟩ := st
    obtain ⟨xs, x, hq, hx⟩ := hg
    obtain ⟨its, rv, p, hz⟩ := I.tuple hq
    obtain ⟨u, hu, ru⟩ := rv.get hx
    have hel : e < s.heap.objs.size := Heap.lt_size he
    have hil : it < s.heap.objs.size := by obtain ⟨_, q, _⟩ := hit; exact Heap.lt_size q
    have hi : i < its.toArray.size := by
      have := (List.getElem?_eq_some_iff.mp hu).1
      simpa using this
    refine wpAny_pyNext_enum_itemD (Draws.tuple (show X.A.in1.handled = none from I.ok.hd hc) it a hai its.toArray) he ⟨hit, p⟩ hi hne (by simp [hne, hea]) fun x' h' tk hx' ho hit' hT hsz hk => ?_
    have hxu : x' = u := by
      have h2 : its.toArray[i]? = some u := by simpa using hu
      exact Option.some.inj (hx'.symm.trans h2)
    subst hxu
    refine ⟨_, rfl, wpAny_letOwnedTupleGo_enum (s := { s with heap := h', toks := tk + 1 }) ho fun h'' he' sb => ?_⟩
    have hT2 : h''.get? s.heap.objs.size = some { cls := .type "tuple", data := .seq #[.int i tk, x'] } := (sb.2 _ (Nat.ne_of_gt hel)).trans hT
    have new : ObjOk X.prog X.w (upd H s.heap.objs.size (.tup [.int (i : Nat), x])) h'' s.heap.objs.size (.tup [.int (i : Nat), x]) :=
      ⟨by show 2 ≤ sizeLine; decide, [.int i tk, x'], .cons ⟨_, rfl⟩ (.cons ru .nil), ⟨_, hT2, rfl, _, rfl⟩⟩
    have I1 : Inv X pins σ (upd H s.heap.objs.size (.tup [.int (i : Nat), x])) { s with heap := h'', toks := tk + 1 } :=
      I.turnedNew (ch := [e, it]) (fun b ob hb q => (sb.2 b (fun z => hb (by simp [z]))).trans (hk b ob (fun z => hb (by simp [z])) (fun z => hb (by simp [z])) q)) hf (Nat.le_refl _) new
    refine ⟨.ref s.heap.objs.size, _, I1, rfl, ⟨_, x, rfl, I.hok.fresh (Nat.le_refl _), rfl, fun ys hy => by rw [I.tuple_inj hy hq]; exact hx⟩, ⟨⟨x', ?_⟩, hit'.1.at fun o q => (sb.2 it (Ne.symm hne)).trans q⟩, fun b hb => ?_⟩
    · have e1 : ((i + 1 : Nat) : Int) = (i : Int) + 1 := by omega
      rw [e1]; exact he'
    · have hb' : b < s.heap.objs.size := by
        have e' : b = e ∨ b = it := by simpa using hb
        rcases e' with z | z
        · rw [z]; exact hel
        · rw [z]; exact hil
      rw [upd_ne (Nat.ne_of_lt hb')]
      exact (hf b hb).1
  done := by
    intro X hP hw hK hc i pins s σ H E I hf st hg
    subst hP hw hK
    obtain ⟨⟨old, he⟩, hit⟩ := st
    obtain ⟨xs, hq, hx⟩ := hg
    obtain ⟨its, rv, p, hz⟩ := I.tuple hq
    obtain ⟨f0, f1, f2, f3, f4, f5⟩ := hf it (by simp)
    have hl := rv.length
    have hT : s.TypeIs (.ref e) "enumerate" := ⟨_, he, rfl⟩
    unfold pyNext
    refine wpAny_bind (wpAny_attempt (wpAny_callSpecial?_slot (name := Str.ofString "__next__") hT F.slot_enumerate_next
      (wpAny_call_entry F.slot_enumerate_next hT F.entry_enumerate_next ?_ (F.args_enumerate_next_1 _))))
    show wpAny _ _ (field (.ref e) 2 >>= _) _ _ _
    refine wpAny_bind (wpAny_field he rfl (x := .ref it) rfl ?_)
    refine wpAny_bind (wpAny_nextOf_tuple_end (show X.A.in1.handled = none from I.ok.hd hc) hit p (by simp; omega) fun h' x he' hx' => ?_)
    obtain ⟨o, ho, hc⟩ := hx'
    refine wpAny_bind (wpAny_isInstance (T := "StopIteration") (b := true) ⟨o, ho, hc⟩ isSubtype_stop ?_)
    exact wpAny_pure ⟨rfl, I.turned (t' := s.toks) (fun b o hb q => he' b o hb q) f0 f1 f3 f4 f5⟩
  self := fun A i s Q E st h => let ⟨⟨_, he⟩, _⟩ := st; wpAny_pyIter_enum he h
def iEnumT (K : PySem.W.Frag) (ta : TA) : TI := fun σ H R => ta σ H fun vs H1 => ∃ a xs, vs = [.ref a] ∧ SqT K H1 a xs ∧ R (IteT K a) H1
theorem pi_enumT {X : Cx} {e : Expr} {ta : TA} {p pos tpos : Pos} {elts : List Expr} {kk : Nat} (hg : Gl X "enumerate") (hm : X.mg "enumerate" = none) (ha : PA X [e] ta) (hs : starEach [e] X.env = [(false, eval e X.env)] := by rfl) :
    PI X (.Tuple elts kk tpos) (.Call (.Name "enumerate" p) [e] [] pos) (iEnumT X.K ta) := by
  refine ⟨fun pins s σ H R I h => ?_⟩
  refine Call_ (ld_blt I hg hm boot_enumerate (PyProof.Rows.callWith_type1 (thn (ha.run pos pins s σ H _ I h) fun us s1 ⟨vs, H1, I1, r1, q1⟩ => ?_) hs rfl))
  obtain ⟨a, xs, ex, hq, q⟩ := q1
  subst ex
  cases r1 with
  | cons r rr =>
    cases rr
    cases r
    obtain ⟨its, rv, p', hz⟩ := I1.tuple hq
    have hal : a < s1.heap.objs.size := by obtain ⟨o, ho, _⟩ := p'; exact Heap.lt_size ho
    refine call_enum1 (begins_tuple a its.toArray) p' fun h' he hit hsz hk => wpAny_pyIter_enum he ?_
    have I2 : Inv X pins σ H1 { s1 with heap := h' } := I1.kept (t' := s1.toks) hk
    refine ⟨s1.heap.objs.size + 1, [s1.heap.objs.size + 1, s1.heap.objs.size], _, _, H1, rfl, I2, turn_enumT a (s1.heap.objs.size + 1) s1.heap.objs.size (Nat.succ_ne_self _) (Nat.ne_of_lt hal) (Nat.ne_of_gt (Nat.lt_succ_of_lt hal)), ⟨⟨.none, he⟩, ⟨_, hit, rfl, rfl⟩⟩, fun b hb => ?_, q⟩
    have e' : b = s1.heap.objs.size + 1 ∨ b = s1.heap.objs.size := by simpa using hb
    have hle : s1.heap.objs.size ≤ b := by
      rcases e' with z | z
      · rw [z]; exact Nat.le_add_right _ _
      · rw [z]; exact Nat.le_refl _
    exact I1.fpOk hle (I1.hok.fresh hle)
section
variable {c : Ct} {X : Cx} {W : WX} {σ : Sl} {G G' H : Hp} {e a : Expr} {pos p : Pos}
theorem yields_enumT {ds : List D} {a : Addr} (h : Rep c.K c.mg G (.tup ds) (.ref a)) : Yields c G (IteT c.K a) (enumD 0 ds) := by
  simp only [Rep] at h
  obtain ⟨a', vs, e, h1, rl⟩ := h
  cases e
  have hL : ∀ {H0' st σ H G2}, R (c.h H0') st σ H G2 → GLe G G2 → SqT c.K H a vs := fun r le => SqT.sub r.sub (SqT.le le h1)
  refine fun H0' => ⟨fun i st σ H G2 d r le ed => ?_, fun i st σ H G2 r le hi => ?_⟩
  · rw [enumD_get, Option.map_eq_some_iff] at ed
    obtain ⟨d, ed, rfl⟩ := ed
    have hH := hL r le
    obtain ⟨v, ev, rv⟩ := rl.get ed
    refine ⟨⟨vs, v, hH, ev⟩, fun x H' y => ?_⟩
    obtain ⟨T, z, rfl, hT, rfl, y⟩ := y
    have := (y vs hH).symm.trans ev
    cases this
    have l2 := gle_upd (o := HO.tup [.int (i : Nat), v]) (r.sub.none hT)
    refine ⟨_, l2, r.newD hT, ?_⟩
    simp only [Rep]
    refine ⟨T, _, rfl, .of upd_same, .cons (by simp only [Rep]; simp) (.cons ((rv.le le).le l2) .nil)⟩
  · rw [enumD_length] at hi
    exact ⟨vs, hL r le, by rw [← rl.length]; exact hi⟩
def mEnT (m : M D) : M (List D) := bnd m fun d => match d with
  | .tup ds => ret (enumD 0 ds)
  | _ => fun _ => .stuck
theorem di_enumT {m : M D} {elts : List Expr} {kk : Nat} {tpos : Pos} (hk : c.K = X.K) (hg : Gl X "enumerate") (hm : X.mg "enumerate" = none) (h : DE c X W a m) (h1 : starEach [a] X.env = (false, eval a X.env) :: starEach [] X.env := by rfl) (hs : starEach [a] X.env = [(false, eval a X.env)] := by rfl) :
    DI c X W (.Tuple elts kk tpos) (.Call (.Name "enumerate" p) [a] [] pos) (mEnT m) :=
  pi_weak (pi_enumT hg hm (pa_cons h pa_nil h1) hs) fun σ H Q ⟨st, G, r, p⟩ => ⟨st, G, r, (Po.seq p).mono fun d s1 H1 G1 l1 r1 ⟨_, p1⟩ v rep => by
    cases d with
    | tup ds =>
      have rep' := rep
      simp only [Rep] at rep
      obtain ⟨a, vs, rfl, h1, rl⟩ := rep
      exact ⟨a, vs, rfl, hk ▸ SqT.sub r1.sub h1, p1.done r1 _ (hk ▸ yields_enumT rep')⟩
    | _ => exact p1.elim⟩
/-! ### a list or a tuple -/
def mIs (m : M D) : M (List D) := bnd m fun d => match d with
  | .lst ds => ret ds
  | .tup ds => ret ds
  | _ => fun _ => .stuck
theorem di_seq {tg : Expr} {m : M D} (hk : c.K = X.K) (h : DE c X W e m) : DI c X W tg e (mIs m) := ⟨fun pins s σ H R I ⟨st, G, r, p⟩ => by
  cases em : m st with
  | stuck => unfold mIs bnd at p; rw [em] at p; exact p.elim
  | exc cn ns ds s1 => exact (di_list hk h).run pins s σ H R I ⟨st, G, r, by unfold mIs bnd at p; unfold mIl bnd; rw [em] at p ⊢; exact p⟩
  | ok d s1 =>
    cases d with
    | lst ds => exact (di_list hk h).run pins s σ H R I ⟨st, G, r, by unfold mIs bnd at p; unfold mIl bnd; rw [em] at p ⊢; exact p⟩
    | tup ds => exact (di_tup hk h).run pins s σ H R I ⟨st, G, r, by unfold mIs bnd at p; unfold mIt bnd; rw [em] at p ⊢; exact p⟩
    | _ => unfold mIs bnd at p; rw [em] at p; exact p.elim⟩
def mEnS (m : M D) : M (List D) := bnd m fun d => match d with
  | .lst ds => ret (enumD 0 ds)
  | .tup ds => ret (enumD 0 ds)
  | _ => fun _ => .stuck
theorem di_enumS {m : M D} {elts : List Expr} {kk : Nat} {tpos : Pos} (hk : c.K = X.K) (hg : Gl X "enumerate") (hm : X.mg "enumerate" = none) (h : DE c X W a m) (h1 : starEach [a] X.env = (false, eval a X.env) :: starEach [] X.env := by rfl) (hs : starEach [a] X.env = [(false, eval a X.env)] := by rfl) :
    DI c X W (.Tuple elts kk tpos) (.Call (.Name "enumerate" p) [a] [] pos) (mEnS m) := ⟨fun pins s σ H R I ⟨st, G, r, p⟩ => by
  cases em : m st with
  | stuck => unfold mEnS bnd at p; rw [em] at p; exact p.elim
  | exc cn ns ds s1 => exact (di_enum hk hg hm h h1 hs).run pins s σ H R I ⟨st, G, r, by unfold mEnS bnd at p; unfold mEn bnd; rw [em] at p ⊢; exact p⟩
  | ok d s1 =>
    cases d with
    | lst ds => exact (di_enum hk hg hm h h1 hs).run pins s σ H R I ⟨st, G, r, by unfold mEnS bnd at p; unfold mEn bnd; rw [em] at p ⊢; exact p⟩
    | tup ds => exact (di_enumT hk hg hm h h1 hs).run pins s σ H R I ⟨st, G, r, by unfold mEnS bnd at p; unfold mEnT bnd; rw [em] at p ⊢; exact p⟩
    | _ => unfold mEnS bnd at p; rw [em] at p; exact p.elim⟩
end
end Dn

set_option Elab.async false
set_option linter.all false
set_option maxRecDepth 100000
set_option maxHeartbeats 4000000
/-! Dn, part S: list(range(..)), the table of what catches what, names for what is printed. -/
namespace Dn
open PySem PySem.Spec PyProof.Rows L2
section
variable {c : Ct} {X : Cx} {W : WX} {σ : Sl} {G H : Hp} {a b d e : Expr} {es : List Expr} {pos p p2 pos2 : Pos} {st : S}
def lrOk (i j k : Int) : Bool := !decide (k = 0) && decide (k.natAbs < 1073741824) && Builtin.Range.small i j k && decide (0 ≤ Builtin.Range.rangeSize i j k) && decide ((Builtin.Range.rangeSize i j k).toNat ≤ 16777216)
def rng3D (i j k : Int) : List D := (List.range (Builtin.Range.rangeSize i j k).toNat).map fun x => .int (i + (x : Nat) * k)
def rng3V (i j k : Int) : List V := (List.range (Builtin.Range.rangeSize i j k).toNat).map fun x => .int (i + (x : Nat) * k)
theorem rng3_rep {K : PySem.W.Frag} {mg : MG} (i j k : Int) : RepL K mg G (rng3D i j k) (rng3V i j k) := by
  unfold rng3D rng3V
  generalize List.range (Builtin.Range.rangeSize i j k).toNat = l
  induction l with
  | nil => exact .nil
  | cons x r ih => exact .cons (by simp only [Rep]) ih
def mLr3 (m : M (List D)) : M D := bnd m fun ds => match ds with
  | [.int i, .int j, .int k] => if lrOk i j k = true then ret (.lst (rng3D i j k)) else fun _ => .stuck
  | _ => fun _ => .stuck
/-- list(range(i, j, k)) -/
theorem dn_lr3 {m : M (List D)} (hc : X.calm = true) (hg : Gl X "list") (hm : X.mg "list" = none) (hgr : Gl X "range") (hmr : X.mg "range" = none) (h : DA c X W [a, b, d] m)
    (hs : starEach [a, b, d] X.env = (false, eval a X.env) :: starEach [b, d] X.env := by rfl) (hpl : (backTo pos2 (starEach [b, d] X.env)).any (·.1) = false := by rfl)
    (na : starEach [.Call (.Name "range" p2) [a, b, d] [] pos2] X.env = (false, eval (.Call (.Name "range" p2) [a, b, d] [] pos2) X.env) :: starEach [] X.env := by rfl) :
    DN c X W (.Call (.Name "list" p) [.Call (.Name "range" p2) [a, b, d] [] pos2] [] pos) (mLr3 m) := by
  refine ⟨fun pins s σ H Q I ⟨st, G, r, pp⟩ => ?_⟩
  refine Call_ (ld_blt I hg hm boot_list (PyProof.Rows.callWith_type1 (args_cons ?_ na) na))
  refine Call_ (ld_blt I hgr hmr boot_range (PyProof.Rows.callWith_type1 (thn (h.run pos2 pins s σ H (fun vs H1 => ∃ (i j k : Int) (st1 : S) (G1 : Hp), vs = [.int i, .int j, .int k] ∧ lrOk i j k = true ∧ R c st1 σ H1 G1 ∧ Po c W σ G1 (ret (D.lst (rng3D i j k)) st1) fun d st' H' G' => ∀ a, Fre c st' σ H' G' a d → Q (.ref a) H') I ?_) fun us s1 ⟨vs, H1, I1, r1, q1⟩ => ?_) hs hpl))
  · refine ⟨st, G, r, (Po.seq pp).mono fun ds s1 H1 G1 l1 r1 ⟨_, p1⟩ vs reps => ?_⟩
    match ds, p1 with
    | [.int i, .int j, .int k], p1 =>
      simp only at p1
      split at p1
      · rename_i ok
        simp only [RepL, Rep] at reps
        obtain ⟨v1, r1', rfl, rfl, v2, r2', rfl, rfl, v3, r3', rfl, rfl, rfl⟩ := reps
        exact ⟨i, j, k, s1, G1, rfl, ok, r1, p1⟩
      · exact p1.elim
  · obtain ⟨i, j, k, st1, G1, rfl, ok, r2, p2⟩ := q1
    simp only [lrOk, Bool.and_eq_true, Bool.not_eq_true', decide_eq_true_eq, decide_eq_false_iff_not] at ok
    obtain ⟨⟨⟨⟨k0, kb⟩, ksm⟩, k00⟩, klen⟩ := ok
    cases r1 with
    | cons ra rr =>
      cases rr with
      | cons rb rr =>
        cases rr with
        | cons rc rr =>
          cases rr
          obtain ⟨t1, rfl⟩ := ra
          obtain ⟨t2, rfl⟩ := rb
          obtain ⟨t3, rfl⟩ := rc
          refine call_range_3 k0 ?_ (Or.inl (PyProof.noPylong_small kb))
          have I2 : Inv X pins σ H1 { s1 with heap := s1.heap.push { cls := .type "range", data := .fields #[.int i t1, .int j t2, .int k t3] } } := I1.kept (t' := s1.toks) fun b u e => Heap.get?_push_of_some _ e
          refine args_nil ?_
          refine call_list_range (n := (Builtin.Range.rangeSize i j k).toNat) (I2.ok.hd hc) (IsRange.new _ _ _ _ _ _ _) ksm (by omega) klen fun h' tk acc c' hk e' hi => ?_
          have hv : Vals (rng3V i j k) acc.toList := by
            have e : acc.toList.length = (Builtin.Range.rangeSize i j k).toNat := by rw [Array.length_toList]; exact hi.1
            unfold rng3V
            rw [← e]
            refine vals_of_get acc.toList _ fun m u hm => ?_
            obtain ⟨t, rfl⟩ := hi.2 m u (by rw [← hm, Array.getElem?_toList])
            exact ⟨t, rfl⟩
          have hn := I2.hok.fresh (Nat.le_refl _)
          refine ⟨.ref _, _, I2.laid (o := .lst (rng3V i j k)) hk (Nat.le_refl _) ⟨?_, acc.toList, c', hv, ?_⟩, rfl, p2 _ G1 (GLe.refl G1) (r2.new hn) _ (r2.fre_new hn (by simp only [Own]; exact ⟨_, upd_same, rng3_rep i j k⟩))⟩
          · unfold rng3V
            rw [List.length_map, List.length_range, sl_eq]
            exact klen
          · rw [Array.toArray_toList]; exact e'

/-! ### what catches what -/
abbrev Mt := List ((Str × Str) × Bool)
def mtOf (t : Mt) (cn x : Str) : Option Bool := t.lookup (cn, x)
def Exm (K : PySem.W.Frag) (mg : MG) (t : Mt) : Prop := ∀ e ∈ t, ∃ C C' : Addr, mg e.1.1 = some (.ref C) ∧ mg e.1.2 = some (.ref C') ∧ PySem.W.exmOne K (.ref C) (.ref C') = some e.2
theorem mem_of_lk {α β : Type} [BEq α] [LawfulBEq α] {k : α} {v : β} : ∀ {l : List (α × β)}, l.lookup k = some v → (k, v) ∈ l
  | (a, w) :: l, h => by
    rw [List.lookup_cons] at h
    split at h
    · rename_i e
      cases h
      rw [show k = a from by simpa using e]
      exact List.mem_cons_self
    · exact List.mem_cons_of_mem _ (mem_of_lk h)
theorem exm_mt {K : PySem.W.Frag} {mg : MG} {t : Mt} (h : Exm K mg t) : ∀ cn x b C, mtOf t cn x = some b → mg cn = some (.ref C) → PySem.W.exmOne K (.ref C) ((mg x).getD .none) = some b := fun cn x b C e m => by
  obtain ⟨C1, C2, m1, m2, q⟩ := h _ (mem_of_lk e)
  rw [m] at m1
  cases m1
  rw [m2]
  exact q
theorem exm_ok {K : PySem.W.Frag} {C S : Addr} {b : Bool} (h1 : PySem.W.subIn K (.ref C) (.type "BaseException") = some true) (h2 : PySem.W.isClsIn K S = true) (h3 : PySem.W.typeIn K (.ref S) = some (.type "type")) (h4 : PySem.W.subIn K (.ref C) (.ref S) = some b) (h5 : PySem.W.subIn K (.ref S) (.type "BaseException") = some true) :
    PySem.W.exmOne K (.ref C) (.ref S) = some b := by
  have e1 : (PySem.W.subIn K (.ref S) (.type "BaseException") == some true) = true := by rw [h5] <;> rfl
  have e2 : ((PySem.W.clsIn K S).isSome && PySem.W.typeIn K (.ref S) == some (.type "type")) = true := by
    have h2' : (PySem.W.clsIn K S).isSome = true := h2
    rw [h2', h3] <;> rfl
  show (if (PySem.W.subIn K (.ref S) (.type "BaseException") == some true) = true then (if ((PySem.W.clsIn K S).isSome && PySem.W.typeIn K (.ref S) == some (.type "type")) = true then PySem.W.subIn K (.ref C) (.ref S) else none) else none) = some b
  rw [if_pos e1, if_pos e2]
  exact h4

/-! ### names for what is printed -/
abbrev fAdd := fI fun i j => D.int (i + j)
abbrev fSub := fI fun i j => D.int (i - j)
abbrev fMul := fIc cMul fun i j => D.int (i * j)
abbrev fMod := fIc cMod fun i j => D.int (i % j)
abbrev fDiv := fIc cDiv fun i j => D.int (i / j)
abbrev fPow := fIc cPow fun i j => D.int (i ^ j.toNat)
abbrev fLt := fI fun i j => D.bl (decide (i < j))
abbrev fLe := fI fun i j => D.bl (decide (i ≤ j))
abbrev fGt := fI fun i j => D.bl (decide (j < i))
abbrev fGe := fI fun i j => D.bl (decide (j ≤ i))
abbrev fMax := fI fun i j => D.int (if j > i then j else i)
abbrev fMin := fI fun i j => D.int (if j < i then j else i)
abbrev fIsi (T : String) : D → Option D := fun d => (isiT T d).map D.bl
theorem dh_sl (i : Nat) {x : Str} {pos : Pos} (hN : X.N[i]? = some x := by rfl) (hv : Vis X.env.scope x := by first | exact Or.inl rfl | exact Or.inr (Or.inl rfl) | exact Or.inr (Or.inr rfl)) (hd : (x == ("__debug__" : Str)) = false := by decide)
    (hcd : (x == ("__classdict__" : Str)) = false := by decide) : DH c X W (.Name x pos) (mSl i) := dh_slot i hN hv hd hcd
end
end Dn

set_option Elab.async false
set_option linter.all false
set_option maxRecDepth 100000
set_option maxHeartbeats 4000000
/-! Dn, part T: small things for what is printed. -/
namespace Dn
open PySem PySem.Spec PyProof.Rows L2
theorem hu65 {A : Around} {k : Nat} (hr : Room k A) : A.units + 65 < cLine := by
  have := hr.un
  omega
theorem exm_at {c : Ct} {K : PySem.W.Frag} {mg : MG} {t : Mt} (hK : c.K = K) (hM : c.mg = mg) (h : Exm K mg t) : ∀ cn x b C, mtOf t cn x = some b → c.mg cn = some (.ref C) → PySem.W.exmOne c.K (.ref C) ((c.mg x).getD .none) = some b := by
  subst hK hM
  exact exm_mt h
section
variable {c : Ct} {K : PySem.W.Frag}
theorem opsK_eq (h : c.K = K) : OpS c (rEqD K) fEq := h ▸ ops_eq
theorem opsK_ne (h : c.K = K) : OpS c (rNeD K) fNe := h ▸ ops_ne
theorem opsK_in (h : c.K = K) : OpS c (rInD K) (fInD false) := h ▸ ops_in
theorem opsK_notin (h : c.K = K) : OpS c (rNotInD K) (fInD true) := h ▸ ops_notin
theorem calsK_len (h : c.K = K) : CalS c (rLen' K) fLen := h ▸ cals_len
theorem calsK_any (h : c.K = K) : CalS c (rAny K) fAny := h ▸ cals_any
theorem calsK_all (h : c.K = K) : CalS c (rAll K) fAll := h ▸ cals_all
theorem calsK_sum (h : c.K = K) : CalS c (rSum K) fSum := h ▸ cals_sum
theorem calnK_list (h : c.K = K) : CalN c (fun xs H Q => ∃ p ys, xs = [.ref p] ∧ (SqL K H p ys ∨ SqT K H p ys) ∧ ∀ l, H l = none → Q (.ref l) (upd H l (.lst ys))) fListOf := h ▸ caln_list
theorem caltK_tuple (h : c.K = K) : CalT c (fun xs H Q => ∃ p ys, xs = [.ref p] ∧ ((SqL K H p ys ∧ ∀ l, H l = none → Q (.ref l) (upd H l (.tup ys))) ∨ (SqT K H p ys ∧ Q (.ref p) H))) fTupOf := h ▸ calt_tuple
end
section
variable {c : Ct} {X : Cx} {W : WX} {elt tg iter : Expr} {ifs : List Expr} {scope : Scope} {pos : Pos} {mi : M (List D)} {g : GM} {ws js : List Nat} {t : M Bool} {te : M D}
theorem dn_lcj (own : List (Str × Nat)) (hc : X.calm = true) (hN : X.N.Nodup) (hi : DI c X W tg iter mi) (ok : BlkOk X.N X.env.scope scope own)
    (hg : ∀ (s : Shared) (H : Hp) (C : Addr) (cl : List (Str × Addr)) (fp : List Addr) (H0' : Hp), DG (c.h H0') (X.blk s H scope (compEnvC scope cl C X.env) fp) tg g ws)
    (ht : ∀ (s : Shared) (H : Hp) (C : Addr) (cl : List (Str × Addr)) (fp : List Addr) (H0' : Hp), DTs (c.h H0') (X.blk s H scope (compEnvC scope cl C X.env) fp) ifs t)
    (he : ∀ (s : Shared) (H : Hp) (C : Addr) (cl : List (Str × Addr)) (fp : List Addr) (H0' : Hp), DE (c.h H0') (X.blk s H scope (compEnvC scope cl C X.env) fp) W0 elt te)
    (hj : own.map (·.2) = js := by rfl) (sub : ∀ j ∈ ws, j ∈ js := by decide)
    (hs : ∀ x, foldedSetIterable iter X.env x = pure x := by intro _; rfl) : DN c X W (.ListComp elt [⟨tg, iter, ifs, 0⟩] scope pos) (mLc mi js g t te) := by
  subst hj
  exact dn_lc hc hN hi ok sub hg ht he hs
theorem ds_setLcj (own : List (Str × Nat)) {i : Nat} {y : Str} {py spos : Pos} (hc : X.calm = true) (hN : X.N.Nodup) (hy : X.N[i]? = some y) (hyl : X.env.scope.names.lookup y = some .local)
    (hsw : swapsWith (.ListComp elt [⟨tg, iter, ifs, 0⟩] scope pos) (some (.Name y py)) spos.line X.env = pure true) (hi : DI c X W tg iter mi) (ok : BlkOk X.N X.env.scope scope own)
    (hg : ∀ (s : Shared) (H : Hp) (C : Addr) (cl : List (Str × Addr)) (fp : List Addr) (H0' : Hp), DG (c.h H0') (X.blk s H scope (compEnvC scope cl C X.env) fp) tg g ws)
    (ht : ∀ (s : Shared) (H : Hp) (C : Addr) (cl : List (Str × Addr)) (fp : List Addr) (H0' : Hp), DTs (c.h H0') (X.blk s H scope (compEnvC scope cl C X.env) fp) ifs t)
    (he : ∀ (s : Shared) (H : Hp) (C : Addr) (cl : List (Str × Addr)) (fp : List Addr) (H0' : Hp), DE (c.h H0') (X.blk s H scope (compEnvC scope cl C X.env) fp) W0 elt te)
    (hj : own.map (·.2) = js := by rfl) (sub : ∀ j ∈ ws, j ∈ js := by decide)
    (hs : ∀ x, foldedSetIterable iter X.env x = pure x := by intro _; rfl) : DS c X W (.Assign [.Name y py] (.ListComp elt [⟨tg, iter, ifs, 0⟩] scope pos) spos) (sOwn i (mLc mi js g t te)) := by
  subst hj
  exact ds_setLc hc hN hy hyl hsw hi ok sub hg ht he hs
end
theorem takes0 {X : Cx} : Takes X W0 := LamX.takes0
theorem passes0 {X : Cx} : Passes CX0 X (fun _ _ _ => False) := fun _ _ _ _ _ _ _ h => (show False from h).elim
def clsBody : Stmt → List Stmt
  | .ClassDef (body := b) .. => b
  | _ => []
def lamP : Expr → Arguments
  | .Lambda p _ _ _ => p
  | _ => { posonlyargs := [], args := [], vararg := none, kwonlyargs := [], kw_defaults := [], kwarg := none, defaults := [] }
def lamB : Expr → Expr
  | .Lambda _ b _ _ => b
  | e => e
def lamS : Expr → Scope
  | .Lambda _ _ s _ => s
  | _ => { kind := .module, names := [], isGenerator := false, isCoroutine := false, more := [] }
/-- the j-th pair's first part in wrong = [..] -/
def lamAt (s : Stmt) (j : Nat) : Expr := match s with
  | .Assign _ (.List es _) _ => match es.getD j (.Name "" ⟨0, 0, 0, 0⟩) with
    | .Tuple (e :: _) _ _ => e
    | e => e
  | _ => .Name "" ⟨0, 0, 0, 0⟩
end Dn

set_option Elab.async false
set_option linter.all false
set_option maxRecDepth 100000
set_option maxHeartbeats 4000000
/-! Dn, part U: the law's end. -/
namespace Dn
open PySem PySem.Spec PyProof.Rows L2
theorem spL_at {K : PySem.W.Frag} {mg : MG} {P : Addr} {f : FM} {H : Hp} {a : Addr} {zs : List Int} {Q : VK} {E : XK} (hP : H P = some (.tbl #[])) (hS : SqL K H a (zs.map V.int)) (h : ∃ io, f [.va (.fl (zs.map D.int))] = .ok (.bl true) io) (hQ : ∀ H', Q (.bl true) H') : spL K mg P 1 f [.ref a] H Q E := by
  obtain ⟨h1, G, lk, svs, h2, h3, h4, h5, h6⟩ := spL_holds (mg := mg) hP hS h
  refine ⟨h1, G, lk, svs, h2, h3, h4, h5, ?_⟩
  cases e : f svs with
  | ok d io =>
    rw [e] at h6
    intro v H' G' rep
    rw [show v = .bl true from h6 v H' G' rep]
    exact hQ H'
  | exc cn ns ds io => rw [e] at h6; exact h6
  | stuck => rw [e] at h6; exact h6
/-- the promise that the head asks -/
def spZ (K : PySem.W.Frag) (Pt : Addr) : Sp := fun vs H Q _ => ∃ (a : Addr) (zs : List Int), vs = [.ref a] ∧ zs.length ≤ 63 ∧ SqL K H a (zs.map V.int) ∧ H Pt = some (.tbl #[]) ∧ ∀ H', Q (.bl true) H'
theorem law_at {l : PySem.W.OpenLaw} {w : World} {K : PySem.W.Frag} {mg : MG} {h : Heap} {k : Nat} {fa f cA Pt : Addr} {sL : Stmt} {N : List Str} {m : Heap → SM} {x : Str} {od an : Option Addr} {sl sl2 : Array (Option Value)} {oc kV dc pm ct e : Value} {dd : Option Addr} {vs : Array Value}
    (X : K.In h) (G : h.Ns mainGlobals mg) (hfa : mg "law" = some (.ref fa)) (own : LamX.OwnTab K fa h) (aL : PySem.W.nsIn K mainGlobals "law" = some (some (.ref f)))
    (lk : K.lookup f = some ⟨oc, od, .func (PySem.W.fnOf "law" "law" (defArgs sL) (defBody sL) (defScope sL) .none kV dc pm an (.ref cA) ct), sl⟩)
    (hcd : PySem.W.codeIn K (.ref cA) "law" = true) (lc : K.lookup cA = some ⟨e, dd, .fields vs, sl2⟩) (l11 : vs[11]? = some (.ref Pt)) (hd : PySem.W.codeHdIn K cA Pt = true) (nP : K.lookup Pt = none)
    (hb : ∀ (s : Shared) (u : Value), BindsTo s (PySem.W.fnOf "law" "law" (defArgs sL) (defBody sL) (defScope sL) .none kV dc pm an (.ref cA) ct) ⟨[u], []⟩ [(x, u)])
    (ok : ∀ base : Heap, K.In base → base.Ns mainGlobals mg → LamX.TabB base mg cA Pt → K.lookup f = some ⟨oc, od, .func (PySem.W.fnOf "law" "law" (defArgs sL) (defBody sL) (defScope sL) .none kV dc pm an (.ref cA) ct), sl⟩ → PySem.W.codeIn K (.ref cA) "law" = true → FnOk l.prog w K mg base (L2.CX l.prog w) k f (PySem.W.fnOf "law" "law" (defArgs sL) (defBody sL) (defScope sL) .none kV dc pm an (.ref cA) ct) [x] (spL K mg Pt [x].length (fnOf N.length (m base))))
    (plain : ∀ (base : Heap) (zs : List Int), zs.length ≤ 63 → ∃ io, fnOf N.length (m base) [.va (.fl (zs.map D.int))] = .ok (.bl true) io) :
    LamX.LawAtS l w K (L2.CX l.prog w) k 63 x mg fa h := by
  have e0 := hfa.symm.trans (PySem.W.mg_of X G aL)
  cases e0
  refine ⟨_, [(cA, Pt)], spZ K Pt, fun p hp => ?_, fun p hp => ?_, fun p hp => ?_, hb, fun H a ns hl _ hT hS => ?_, fun base kb gb tb => ?_⟩
  · have : p = (cA, Pt) := by simpa using hp
    subst this
    exact own cA Pt _ _ _ _ _ _ lk rfl rfl lc l11
  · have : p = (cA, Pt) := by simpa using hp
    subst this
    exact nP
  · have : p = (cA, Pt) := by simpa using hp
    subst this
    exact PySem.W.codeHd_of_K X hd
  · exact ⟨a, ns, rfl, hl, hS, hT (cA, Pt) (by simp), fun _ => rfl⟩
  · refine (ok base kb gb (tb (cA, Pt) (by simp)) lk hcd).imp fun vs' H Q E ⟨a, zs, e1, e2, e3, e4, e5⟩ => ?_
    subst e1
    exact spL_at e4 e3 (plain base zs e2) e5
theorem cx_false {P : Program} {w : World} {H : Hp} {s : Shared} {e : Value} {s' : Shared} (h : L2.CX P w [] H s (fun _ _ _ => False) e s') : False := by
  obtain ⟨_, _, _, _, _, _, _, _, _, _, _, _, z⟩ := h
  exact z
end Dn

set_option Elab.async false
set_option linter.all false
set_option maxRecDepth 100000
set_option maxHeartbeats 4000000
/-! Dn, part V: the meanings, reckoned. -/
namespace Dn
section
variable {α β : Type} {st s1 : S} {i : Nat} {d e : D} {ds : List D}
@[simp] theorem v_ret (a : α) : Dn.ret a st = .ok a st := rfl
theorem v_bnd {m : M α} {f : α → M β} {a : α} (h : m st = .ok a s1) : bnd m f st = f a s1 := by unfold bnd; rw [h]
@[simp] theorem v_bnd' {m : M α} {f : α → M β} : bnd m f st = (match m st with | .ok a s => f a s | .exc cn ns ds s => .exc cn ns ds s | .stuck => .stuck) := rfl
@[simp] theorem v_ofO (o : Option α) : ofO o st = (match o with | some a => .ok a st | none => .stuck) := rfl
@[simp] theorem v_lookV : look (.v d) st = .ok d st := rfl
@[simp] theorem v_lookS : look (.s i) st = (match (st[i]?).bind svD with | some d => .ok d st | none => .stuck) := rfl
@[simp] theorem v_svD1 : svD (.va d) = some d := rfl
@[simp] theorem v_svD2 : svD (.ow d) = some d := rfl
@[simp] theorem v_svD3 : svD (.io d) = some d := rfl
@[simp] theorem v_svD4 : svD (.bo d) = some d := rfl
@[simp] theorem v_svD5 : svD .un = none := rfl
@[simp] theorem v_mV {m : M D} : mV m st = (match m st with | .ok a s => .ok (.v a) s | .exc cn ns ds s => .exc cn ns ds s | .stuck => .stuck) := by
  unfold mV bnd
  cases m st <;> rfl
@[simp] theorem v_mSl : mSl i st = (match (st[i]?).bind svD with | some _ => .ok (.s i) st | none => .stuck) := rfl
@[simp] theorem v_mVar : mVar i st = (match st[i]? with | some (.va d) => .ok d st | some (.ow d) => .ok d (st.set i (.va d)) | _ => .stuck) := rfl
@[simp] theorem v_mB {f : D → D → Option D} {ma mb : M Hd} : mB f ma mb st = bnd ma (fun h => bnd mb fun k => bnd (look h) fun a => bnd (look k) fun b => ofO (f a b)) st := rfl
@[simp] theorem v_mC1 {f : D → Option D} {m : M Hd} : mC1 f m st = bnd m (fun h => bnd (look h) fun a => ofO (f a)) st := rfl
@[simp] theorem v_mChain {f f' : D → D → Option D} {ma mb mc : M Hd} : mChain f f' ma mb mc st = bnd ma (fun h => bnd mb fun k => bnd (look h) fun x => bnd (look k) fun y => bnd (ofO (f x y)) fun r => match r with
  | .bl true => bnd mc fun l => bnd (look k) fun y' => bnd (look l) fun z => ofO (f' y' z)
  | .bl false => Dn.ret (.bl false)
  | _ => fun _ => .stuck) st := rfl
@[simp] theorem v_fI {g : Int → Int → D} (a b : Int) : fI g (.int a) (.int b) = some (g a b) := rfl
@[simp] theorem v_fIc {C : Int → Int → Bool} {g : Int → Int → D} (a b : Int) : fIc C g (.int a) (.int b) = if C a b = true then some (g a b) else none := rfl
@[simp] theorem v_asB {m : M D} : asB m st = bnd m (fun d => match d with | .bl b => Dn.ret b | _ => fun _ => .stuck) st := rfl
@[simp] theorem v_mIf {t : M Bool} {m n : M D} : mIf t m n st = (match t st with | .ok true s => m s | .ok false s => n s | .exc cn ns ds s => .exc cn ns ds s | .stuck => .stuck) := by
  unfold mIf bnd
  cases t st with
  | ok k s => cases k <;> rfl
  | _ => rfl
@[simp] theorem v_mNot {m : M Bool} : mNot m st = (match m st with | .ok k s => .ok (!k) s | .exc cn ns ds s => .exc cn ns ds s | .stuck => .stuck) := by
  unfold mNot bnd
  cases m st <;> rfl
@[simp] theorem v_mAnd {m n : M Bool} : mAnd m n st = (match m st with | .ok true s => n s | .ok false s => .ok false s | .exc cn ns ds s => .exc cn ns ds s | .stuck => .stuck) := by
  unfold mAnd bnd
  cases m st with
  | ok k s => cases k <;> rfl
  | _ => rfl
@[simp] theorem v_mOr {m n : M Bool} : mOr m n st = (match m st with | .ok true s => .ok true s | .ok false s => n s | .exc cn ns ds s => .exc cn ns ds s | .stuck => .stuck) := by
  unfold mOr bnd
  cases m st with
  | ok k s => cases k <;> rfl
  | _ => rfl
@[simp] theorem v_mNotV {m : M D} : mNotV m st = bnd m (fun d => match d with | .bl k => Dn.ret (.bl (!k)) | _ => fun _ => .stuck) st := rfl
@[simp] theorem v_mAndV {m n : M D} : mAndV m n st = bnd m (fun d => match d with | .bl k => if k then n else Dn.ret (.bl false) | _ => fun _ => .stuck) st := rfl
@[simp] theorem v_mNeg {m : M D} : mNeg m st = bnd m (fun d => match d with | .int i => Dn.ret (.int (-i)) | _ => fun _ => .stuck) st := rfl
@[simp] theorem v_mTru {m : M Hd} : mTru m st = bnd m (fun h => bnd (look h) fun d => ofO (truD d)) st := rfl
@[simp] theorem v_mCons {m : M D} {r : M (List D)} : mCons m r st = bnd m (fun d => bnd r fun ds => Dn.ret (d :: ds)) st := rfl
@[simp] theorem v_mLst {m : M (List D)} : mLst m st = bnd m (fun ds => if ds.length ≤ 16777216 then Dn.ret (.lst ds) else fun _ => .stuck) st := rfl
@[simp] theorem v_mTup {m : M (List D)} : mTup m st = bnd m (fun ds => if ds.length ≤ 16777216 then Dn.ret (.tup ds) else fun _ => .stuck) st := rfl
@[simp] theorem v_mSlice {f : D → Option Int → Option Int → Option D} {mh : M Hd} {ml mu : M (Option Int)} : mSlice f mh ml mu st = bnd mh (fun h => bnd ml fun l => bnd mu fun u => bnd (look h) fun a => ofO (f a l u)) st := rfl
@[simp] theorem v_mPart {m : M D} : mPart m st = bnd m (fun d => match d with | .int i => Dn.ret (some i) | _ => fun _ => .stuck) st := rfl
@[simp] theorem v_agV {m : M D} {r : M (List Ag)} : agV m r st = bnd m (fun d => bnd r fun as => Dn.ret (.v d :: as)) st := rfl
@[simp] theorem v_agO {r : M (List Ag)} : agO i r st = if (ownAt st i).isSome = true then bnd r (fun as => Dn.ret (.o i :: as)) st else .stuck := rfl
@[simp] theorem v_mCall {n : Nat} {f : FM} {ma : M (List Ag)} : mCall n f ma st = bnd ma (fun ags st => if agChk ags = true ∧ ags.length = n then (match svsOf st ags with
  | none => .stuck
  | some svs => match f svs with
    | .ok d io => .ok d (putIo st (oSlot ags) io)
    | .exc cn ns ds io => .exc cn ns ds (putIo st (oSlot ags) io)
    | .stuck => .stuck) else .stuck) st := rfl
@[simp] theorem v_chk0 : agChk [] = true := rfl
@[simp] theorem v_chkV {d : D} {r : List Ag} : agChk (.v d :: r) = agChk r := rfl
@[simp] theorem v_chkO {r : List Ag} : agChk (.o i :: r) = noO i r := rfl
@[simp] theorem v_noO0 : noO i [] = true := rfl
@[simp] theorem v_noOV {d : D} {r : List Ag} : noO i (.v d :: r) = noO i r := rfl
@[simp] theorem v_os0 : oSlot [] = none := rfl
@[simp] theorem v_osV {d : D} {r : List Ag} : oSlot (.v d :: r) = oSlot r := rfl
@[simp] theorem v_osO {r : List Ag} : oSlot (.o i :: r) = some i := rfl
@[simp] theorem v_svs0 : svsOf st [] = some [] := rfl
@[simp] theorem v_svsV {d : D} {r : List Ag} : svsOf st (.v d :: r) = (svsOf st r).map (.va d :: ·) := rfl
@[simp] theorem v_svsO {r : List Ag} : svsOf st (.o i :: r) = ((st[i]?).bind handOf).bind fun sv => (svsOf st r).map (sv :: ·) := rfl
@[simp] theorem v_hand1 : handOf (.ow d) = some (.io d) := rfl
@[simp] theorem v_hand2 : handOf (.io d) = some (.io d) := rfl
@[simp] theorem v_put0 {io : Option D} : putIo st none io = st := rfl
@[simp] theorem v_put1 : putIo st (some i) (some d) = putOwn st i d := rfl
@[simp] theorem v_putOwn : putOwn st i d = st.set i (match st[i]? with | some (.io _) => .io d | _ => .ow d) := rfl
@[simp] theorem v_ownAt : ownAt st i = (match st[i]? with | some (.ow d) => some d | some (.io d) => some d | _ => none) := rfl
@[simp] theorem v_isLst1 : isLst (some (.lst ds)) = true := rfl
@[simp] theorem v_eS {m : M α} {k : α → SM} : eS m k st = (match m st with | .ok a s => k a s | .exc cn ns ds s => .exc cn ns ds s | .stuck => .stuck) := rfl
@[simp] theorem v_sq {m n : SM} : sq m n st = (match m st with | .nx s => n s | r => r) := rfl
@[simp] theorem v_nop : nop st = .nx st := rfl
@[simp] theorem v_sRet {m : M D} : sRet m st = (match m st with | .ok a s => .rt a s | .exc cn ns ds s => .exc cn ns ds s | .stuck => .stuck) := by
  unfold sRet eS
  cases m st <;> rfl
@[simp] theorem v_sExpr {m : M D} : sExpr m st = (match m st with | .ok _ s => .nx s | .exc cn ns ds s => .exc cn ns ds s | .stuck => .stuck) := by
  unfold sExpr eS
  cases m st <;> rfl
@[simp] theorem v_sIf {t : M Bool} {m n : SM} : sIf t m n st = (match t st with | .ok true s => m s | .ok false s => n s | .exc cn ns ds s => .exc cn ns ds s | .stuck => .stuck) := by
  unfold sIf eS
  cases t st with
  | ok k s => cases k <;> rfl
  | _ => rfl
@[simp] theorem v_sSet {m : M D} : sSet i m st = (match m st with | .ok a s => .nx (s.set i (.va a)) | .exc cn ns ds s => .exc cn ns ds s | .stuck => .stuck) := by
  unfold sSet eS
  cases m st <;> rfl
@[simp] theorem v_sOwn {m : M D} : sOwn i m st = (match m st with | .ok a s => .nx (s.set i (.ow a)) | .exc cn ns ds s => .exc cn ns ds s | .stuck => .stuck) := by
  unfold sOwn eS
  cases m st <;> rfl
@[simp] theorem v_sAsg {g : GM} {m : M D} : sAsg g m st = (match m st with | .ok d s => (match g d s with | some s' => .nx s' | none => .stuck) | .exc cn ns ds s => .exc cn ns ds s | .stuck => .stuck) := by
  unfold sAsg eS
  cases m st <;> rfl
@[simp] theorem v_gN : gN i d st = some (st.set i (.va d)) := rfl
@[simp] theorem v_gNil : gNil' [] st = some st := rfl
@[simp] theorem v_gCons {g : GM} {gs : List D → S → Option S} : gCons' g gs (d :: ds) st = (g d st).bind (gs ds) := rfl
@[simp] theorem v_gT {n : Nat} {gs : List D → S → Option S} : gT n gs (.tup ds) st = if ds.length = n then gs ds st else none := rfl
@[simp] theorem v_xV {m : M D} {r : M (List (Bool × D))} : xV m r st = bnd m (fun d => bnd r fun xs => Dn.ret ((false, d) :: xs)) st := rfl
@[simp] theorem v_xN {m : M D} {r : M (List (Bool × D))} : xN m r st = bnd m (fun d => if isL d = true then bnd r (fun xs => Dn.ret ((true, d) :: xs)) else fun _ => .stuck) st := rfl
@[simp] theorem v_isL : isL (.lst ds) = true := rfl
@[simp] theorem v_sPar {is : List Nat} {m : M (List (Bool × D))} : sPar is m st = (match m st with | .ok xs s => (match setX is xs s with | some s' => .nx s' | none => .stuck) | .exc cn ns ds s => .exc cn ns ds s | .stuck => .stuck) := by
  unfold sPar eS
  cases m st <;> rfl
@[simp] theorem v_setX0 : setX [] [] st = some st := rfl
@[simp] theorem v_setX1 {is : List Nat} {b : Bool} {xs : List (Bool × D)} : setX (i :: is) ((b, d) :: xs) st = setX is xs (st.set i (if b then .ow d else .va d)) := rfl
@[simp] theorem v_sApp {m : M D} : sApp i m st = if isLst (ownAt st i) = true then eS m (fun d st' => match ownAt st' i with
    | some (.lst ds) => if ds.length < 16777216 then .nx (putOwn st' i (.lst (ds ++ [d]))) else .stuck
    | _ => .stuck) st else .stuck := rfl
@[simp] theorem v_sFor {mi : M (List D)} {g : GM} {body : SM} : sFor mi g body st = (match mi st with | .ok ds s => forL g body ds s | .exc cn ns ds s => .exc cn ns ds s | .stuck => .stuck) := by
  unfold sFor eS
  cases mi st <;> rfl
@[simp] theorem v_for0 {g : GM} {body : SM} : forL g body [] st = .nx st := rfl
@[simp] theorem v_mIs {m : M D} : mIs m st = bnd m (fun d => match d with | .lst ds => Dn.ret ds | .tup ds => Dn.ret ds | _ => fun _ => .stuck) st := rfl
@[simp] theorem v_mEnS {m : M D} : mEnS m st = bnd m (fun d => match d with | .lst ds => Dn.ret (enumD 0 ds) | .tup ds => Dn.ret (enumD 0 ds) | _ => fun _ => .stuck) st := rfl
@[simp] theorem v_mZip {m n : M D} : mZip m n st = bnd m (fun d => bnd n fun e => match d, e with | .lst ds, .lst es => Dn.ret (zipD ds es) | _, _ => fun _ => .stuck) st := rfl
@[simp] theorem v_mR1 {m : M D} : mR1 m st = bnd m (fun d => match d with | .int j => if -4611686018427387904 ≤ j ∧ j < 4611686018427387904 then Dn.ret (rngD 0 j) else fun _ => .stuck | _ => fun _ => .stuck) st := rfl
@[simp] theorem v_init (n : Nat) (svs : List SV) : initS n svs = svs ++ List.replicate (n - svs.length) .un := rfl
@[simp] theorem v_ioE0 {svs : List SV} (h : ioIx svs = none) : ioEnd svs st = some none := by unfold ioEnd; rw [h]
@[simp] theorem v_ioI0 : ioIx [] = none := rfl
@[simp] theorem v_ioIV {r : List SV} : ioIx (.va d :: r) = (ioIx r).map (· + 1) := rfl
@[simp] theorem v_ioII {r : List SV} : ioIx (.io d :: r) = some 0 := rfl
@[simp] theorem v_fLen : fLen (.lst ds) = some (.int ds.length) := rfl
@[simp] theorem v_fLenF : fLen (.fl ds) = some (.int ds.length) := rfl
@[simp] theorem v_fNotN (d : D) : fNotN d .non = some (.bl (!isNon d)) := rfl
@[simp] theorem v_fIsN (d : D) : fIsN d .non = some (.bl (isNon d)) := rfl
end
/-- a def's answer: its body returns d -/
theorem fn_rt {n : Nat} {m : SM} {svs : List SV} {d : D} {st : S} (h : m (initS n svs) = .rt d st) (hi : ioIx svs = none) : fnOf n m svs = .ok d none := by
  unfold fnOf
  rw [h]
  simp only [v_ioE0 hi]
theorem fn_nx {n : Nat} {m : SM} {svs : List SV} {st : S} (h : m (initS n svs) = .nx st) (hi : ioIx svs = none) : fnOf n m svs = .ok .non none := by
  unfold fnOf
  rw [h]
  simp only [v_ioE0 hi]
theorem fn_io {n : Nat} {m : SM} {svs : List SV} {d e : D} {st : S} {i : Nat} (h : m (initS n svs) = .rt d st) (hi : ioIx svs = some i) (he : st[i]? = some (.io e)) : fnOf n m svs = .ok d (some e) := by
  unfold fnOf
  rw [h]
  simp only [ioEnd, hi, he]
end Dn

set_option Elab.async false
set_option linter.all false
set_option maxRecDepth 100000
set_option maxHeartbeats 4000000
/-! Dn, part W: tools for the plain laws: equality of typed data, loops as folds, comprehensions as filters. -/
namespace Dn
/-! ### typed data -/
structure Em {α : Type} (f : α → D) (n : Nat) : Prop where
  ex : ∃ p : α → PySem.PyData, (∀ a, toPy (f a) = some (p a)) ∧ (∀ a b, PySem.PyData.eqv (p a) (p b) = true ↔ a = b) ∧ (∀ a, PySem.PyData.canLay0 (p a) = true) ∧ ∀ a, PySem.PyData.depth (p a) ≤ n
theorem em_bl : Em D.bl 0 := ⟨⟨.bool, fun _ => rfl, fun a b => by simp [PySem.PyData.eqv], fun _ => rfl, fun _ => Nat.le_refl _⟩⟩
theorem em_int : Em D.int 0 := ⟨⟨.int, fun _ => rfl, fun a b => by simp [PySem.PyData.eqv], fun _ => rfl, fun _ => Nat.le_refl _⟩⟩
theorem em_via {α β : Type} {f : α → D} {n : Nat} (e : Em f n) {g : β → α} (hg : ∀ a b, g a = g b → a = b) : Em (fun b => f (g b)) n := by
  obtain ⟨p, h1, h2, h3, h4⟩ := e.ex
  exact ⟨⟨fun b => p (g b), fun b => h1 _, fun a b => (h2 _ _).trans ⟨hg a b, fun z => by rw [z]⟩, fun b => h3 _, fun b => h4 _⟩⟩
theorem em_strs {α : Type} {g : α → PySem.Str} (ok : ∀ a, PySem.PyData.canLay0 (.str (g a)) = true) (hg : ∀ a b, g a = g b → a = b) : Em (fun a => D.str (g a)) 0 :=
  ⟨⟨fun a => .str (g a), fun _ => rfl, fun a b => by simp only [PySem.PyData.eqv, beq_iff_eq]; exact ⟨hg a b, fun z => by rw [z]⟩, ok, fun _ => Nat.le_refl _⟩⟩
section
variable {α β : Type} {f : α → D} {n m : Nat} {g : β → D}
theorem toPyL_map {p : α → PySem.PyData} (h : ∀ a, toPy (f a) = some (p a)) : ∀ xs : List α, toPyL (xs.map f) = some (xs.map p)
  | [] => by simp [toPyL]
  | x :: xs => by simp [toPyL, h, toPyL_map h xs]
theorem eqvAll_map {p : α → PySem.PyData} (h : ∀ a b, PySem.PyData.eqv (p a) (p b) = true ↔ a = b) : ∀ xs ys : List α, PySem.PyData.eqvAll (xs.map p) (ys.map p) = true ↔ xs = ys
  | [], [] => by simp [PySem.PyData.eqvAll]
  | [], _ :: _ => by simp [PySem.PyData.eqvAll]
  | _ :: _, [] => by simp [PySem.PyData.eqvAll]
  | x :: xs, y :: ys => by simp [PySem.PyData.eqvAll, h, eqvAll_map h xs ys]
theorem lay_map {p : α → PySem.PyData} (h : ∀ a, PySem.PyData.canLay0 (p a) = true) : ∀ xs : List α, PySem.PyData.canLayAll0 (xs.map p) = true
  | [] => by simp [PySem.PyData.canLayAll0]
  | x :: xs => by simp [PySem.PyData.canLayAll0, h, lay_map h xs]
theorem depth_map {p : α → PySem.PyData} (h : ∀ a, PySem.PyData.depth (p a) ≤ n) : ∀ xs : List α, PySem.PyData.depthAll (xs.map p) ≤ n
  | [] => by simp [PySem.PyData.depthAll]
  | x :: xs => by
    have := h x
    have := depth_map h xs
    simp only [List.map_cons, PySem.PyData.depthAll]
    omega
theorem em_lst (e : Em f n) : Em (fun xs : List α => D.lst (xs.map f)) (n + 1) := by
  obtain ⟨p, h1, h2, h3, h4⟩ := e.ex
  refine ⟨⟨fun xs => .list (xs.map p), fun xs => by simp [toPy, toPyL_map h1], fun a b => by simp only [PySem.PyData.eqv]; exact eqvAll_map h2 a b, fun xs => by simp only [PySem.PyData.canLay0]; exact lay_map h3 xs, fun xs => ?_⟩⟩
  simp only [PySem.PyData.depth]
  exact Nat.succ_le_succ (depth_map h4 xs)
theorem em_pair (e : Em f n) (e2 : Em g m) : Em (fun p : α × β => D.tup [f p.1, g p.2]) (max n m + 1) := by
  obtain ⟨p, h1, h2, h3, h4⟩ := e.ex
  obtain ⟨q, k1, k2, k3, k4⟩ := e2.ex
  refine ⟨⟨fun x => .tuple [p x.1, q x.2], fun x => by simp [toPy, toPyL, h1, k1], fun a b => ?_, fun x => by simp [PySem.PyData.canLay0, PySem.PyData.canLayAll0, h3, k3], fun x => ?_⟩⟩
  · simp only [PySem.PyData.eqv, PySem.PyData.eqvAll, Bool.and_true, Bool.and_eq_true, h2, k2]
    exact ⟨fun ⟨a1, a2⟩ => Prod.ext a1 a2, fun z => by rw [z]; exact ⟨rfl, rfl⟩⟩
  · have := h4 x.1
    have := k4 x.2
    simp only [PySem.PyData.depth, PySem.PyData.depthAll]
    omega
theorem em_eqD [DecidableEq α] (e : Em f n) (hn : n ≤ 64 := by decide) (a b : α) : eqD (f a) (f b) = some (decide (a = b)) := by
  obtain ⟨p, h1, h2, h3, h4⟩ := e.ex
  have s : ∀ a, PySem.SeqAt.shaped (p a) = true := fun a => by
    simp only [PySem.SeqAt.shaped, h3, Bool.true_and, decide_eq_true_eq]
    exact Nat.le_trans (h4 a) hn
  unfold eqD
  rw [h1, h1]
  simp only [s, and_self, if_true]
  congr 1
  rw [Bool.eq_iff_iff, h2, decide_eq_true_eq]
theorem em_fEq [DecidableEq α] (e : Em f n) (a b : α) (hn : n ≤ 64 := by decide) : fEq (f a) (f b) = some (.bl (decide (a = b))) := by
  unfold fEq
  rw [em_eqD e hn] <;> rfl
theorem em_fNe [DecidableEq α] (e : Em f n) (a b : α) (hn : n ≤ 64 := by decide) : fNe (f a) (f b) = some (.bl (!decide (a = b))) := by
  unfold fNe
  rw [em_eqD e hn] <;> rfl
end
@[simp] theorem eq_int (a b : Int) : fEq (.int a) (.int b) = some (.bl (decide (a = b))) := em_fEq em_int a b
@[simp] theorem ne_int (a b : Int) : fNe (.int a) (.int b) = some (.bl (!decide (a = b))) := em_fNe em_int a b
@[simp] theorem eq_bl (a b : Bool) : fEq (.bl a) (.bl b) = some (.bl (decide (a = b))) := em_fEq em_bl a b
@[simp] theorem ne_bl (a b : Bool) : fNe (.bl a) (.bl b) = some (.bl (!decide (a = b))) := em_fNe em_bl a b
/-! ### loops -/
theorem for_fold {α τ : Type} {g : GM} {body : SM} (emb : τ → S) (toD : α → D) (step : τ → α → τ) (P : Nat → τ → Prop) : ∀ (l : List α) (k : Nat) (s : τ), P k s →
    (∀ (i : Nat) (a : α) (s : τ), l[i]? = some a → P (k + i) s → (∃ s1, g (toD a) (emb s) = some s1 ∧ (body s1 = .nx (emb (step s a)) ∨ body s1 = .ct (emb (step s a)))) ∧ P (k + i + 1) (step s a)) →
    forL g body (l.map toD) (emb s) = .nx (emb (l.foldl step s)) ∧ P (k + l.length) (l.foldl step s)
  | [], k, s, hp, _ => ⟨rfl, hp⟩
  | a :: l, k, s, hp, h => by
    obtain ⟨⟨s1, e1, e2⟩, p2⟩ := h 0 a s rfl hp
    have ih := for_fold emb toD step P l (k + 1) (step s a) p2 fun i b s' e q => by
      have := h (i + 1) b s' (by simpa using e) (by rw [show k + (i + 1) = k + 1 + i by omega]; exact q)
      rw [show k + (i + 1) + 1 = k + 1 + i + 1 by omega] at this
      exact this
    rw [List.map_cons]
    unfold forL
    rw [e1]
    simp only
    rw [List.foldl_cons, List.length_cons, show k + (l.length + 1) = k + 1 + l.length by omega]
    rcases e2 with e2 | e2 <;> rw [e2] <;> exact ih
/-- a loop without a bound to keep -/
theorem for_fold0 {α τ : Type} {g : GM} {body : SM} (emb : τ → S) (toD : α → D) (step : τ → α → τ) (l : List α) (s : τ) (h : ∀ (a : α) (s : τ), a ∈ l → ∃ s1, g (toD a) (emb s) = some s1 ∧ (body s1 = .nx (emb (step s a)) ∨ body s1 = .ct (emb (step s a)))) :
    forL g body (l.map toD) (emb s) = .nx (emb (l.foldl step s)) := (for_fold emb toD step (fun _ _ => True) l 0 s trivial fun i a s e _ => ⟨h a s (List.mem_of_getElem? e), trivial⟩).1
theorem enumD_map {α : Type} (f : α → D) : ∀ (l : List α) (k : Nat), enumD k (l.map f) = (l.zipIdx k).map fun p => .tup [.int (p.2 : Nat), f p.1]
  | [], _ => rfl
  | a :: l, k => by
    simp only [List.map_cons, enumD, List.zipIdx_cons, enumD_map f l (k + 1)]
theorem zipD_map {α β : Type} (f : α → D) (g : β → D) : ∀ (l : List α) (r : List β), zipD (l.map f) (r.map g) = (l.zip r).map fun p => .tup [f p.1, g p.2]
  | [], r => by simp [zipD]
  | a :: l, [] => by simp [zipD]
  | a :: l, b :: r => by simp [zipD, zipD_map f g l r]
theorem rngD_map (j : Nat) : rngD 0 j = (List.range j).map fun (i : Nat) => D.int (i : Int) := by
  unfold rngD
  simp
theorem lc_flt {α : Type} {own : List Nat} {g : GM} {t : M Bool} {te : M D} {u : S} {toD : α → D} (p : α → Bool) (out : α → D) : ∀ (l : List α), l.length < 16777215 →
    (∀ a ∈ l, ∃ s1 s2, g (toD a) u = some s1 ∧ t s1 = .ok (p a) s2 ∧ (p a = true → ∃ s3, te s2 = .ok (out a) s3 ∧ unset own s3 = u) ∧ (p a = false → unset own s2 = u)) → lcL own g t te (l.map toD) u = .ok ((l.filter p).map out) u
  | [], _, _ => rfl
  | a :: l, hl, h => by
    have hl' : l.length < 16777215 := by simp only [List.length_cons] at hl; omega
    have ih := lc_flt p out l hl' fun b hb => h b (List.mem_cons_of_mem _ hb)
    obtain ⟨s1, s2, e1, e2, e3, e4⟩ := h a List.mem_cons_self
    rw [List.map_cons]
    unfold lcL
    rw [e1]
    simp only
    rw [e2]
    cases hp : p a with
    | true =>
      obtain ⟨s3, e5, e6⟩ := e3 hp
      simp only
      rw [e5]
      simp only
      rw [e6, ih]
      simp only
      have : ((l.filter p).map out).length < 16777215 := by
        rw [List.length_map]
        exact Nat.lt_of_le_of_lt (List.length_filter_le _ _) hl'
      rw [if_pos this, List.filter_cons_of_pos hp, List.map_cons]
    | false =>
      simp only
      rw [e4 hp, ih, List.filter_cons_of_neg (by simp [hp])]
section
variable {m n : SM} {st s1 s2 : S}
theorem sq_of {x : SRes} (h : m st = .nx s1) (k : n s1 = x) : sq m n st = x := by rw [v_sq, h]; exact k
theorem for_of {mi : M (List D)} {g : GM} {body : SM} {ds : List D} (hi : mi st = .ok ds s1) (h : forL g body ds s1 = .nx s2) : sFor mi g body st = .nx s2 := by rw [v_sFor, hi]; exact h
theorem ret_of {mm : M D} {d : D} (h : mm st = .ok d s1) : sRet mm st = .rt d s1 := by rw [v_sRet, h]
theorem if_of {t : M Bool} {k : Bool} {x : SRes} (h : t st = .ok k s1) (hx : (if k then m s1 else n s1) = x) : sIf t m n st = x := by
  rw [v_sIf, h]
  cases k <;> exact hx
theorem expr_of {mm : M D} {d : D} (h : mm st = .ok d s1) : sExpr mm st = .nx s1 := by rw [v_sExpr, h]
theorem set_of {mm : M D} {d : D} {i : Nat} (h : mm st = .ok d s1) : sSet i mm st = .nx (s1.set i (.va d)) := by rw [v_sSet, h]
theorem own_of {mm : M D} {d : D} {i : Nat} (h : mm st = .ok d s1) : sOwn i mm st = .nx (s1.set i (.ow d)) := by rw [v_sOwn, h]
theorem call_of {k : Nat} {f : FM} {ma : M (List Ag)} {ds : List D} {d : D} (h : ma st = .ok (ds.map Ag.v) s1) (hk : ds.length = k) (hf : f (ds.map SV.va) = .ok d none) : mCall k f ma st = .ok d s1 := by
  have c : ∀ ds : List D, agChk (ds.map Ag.v) = true := fun ds => by induction ds with | nil => rfl | cons d r ih => exact ih
  have sv : ∀ ds : List D, svsOf s1 (ds.map Ag.v) = some (ds.map SV.va) := fun ds => by
    induction ds with
    | nil => rfl
    | cons d r ih => simp [ih]
  have os : ∀ ds : List D, oSlot (ds.map Ag.v) = none := fun ds => by induction ds with | nil => rfl | cons d r ih => exact ih
  rw [v_mCall, v_bnd', h]
  simp only [c, List.length_map, hk, and_self, if_true, sv, hf, os, v_put0]
variable {f : D → D → Option D} {ma mb : M Hd} {mm : M D} {h k : Hd} {a b d : D} {s : S}
theorem mB_of (h1 : ma st = .ok h s1) (h2 : mb s1 = .ok k s2) (l1 : look h s2 = .ok a s2) (l2 : look k s2 = .ok b s2) (e : f a b = some d) : mB f ma mb st = .ok d s2 := by
  rw [v_mB, v_bnd', h1]
  simp only
  rw [v_bnd', h2]
  simp only
  rw [v_bnd', l1]
  simp only
  rw [v_bnd', l2]
  simp only
  rw [v_ofO, e]
theorem asB_of {x : Bool} (h1 : mm st = .ok (.bl x) s1) : asB mm st = .ok x s1 := by rw [v_asB, v_bnd', h1] <;> rfl
theorem mV_of (h1 : mm st = .ok d s1) : mV mm st = .ok (.v d) s1 := by rw [v_mV, h1]
theorem mSl_of {i : Nat} (e : (st[i]?).bind svD = some d) : mSl i st = .ok (.s i) st := by rw [v_mSl, e]
theorem lkS_of {i : Nat} (e : (st[i]?).bind svD = some d) : look (.s i) st = .ok d st := by rw [v_lookS, e]
theorem mAnd_of {m n : M Bool} {x y : Bool} (h1 : m st = .ok x st) (h2 : x = true → n st = .ok y st) : mAnd m n st = .ok (x && y) st := by
  rw [v_mAnd, h1]
  cases x with
  | true => simpa using h2 rfl
  | false => rfl
theorem mIf_of {t : M Bool} {m n : M D} {x : Bool} {r : Res D} (h1 : t st = .ok x s1) (h2 : (if x then m s1 else n s1) = r) : mIf t m n st = r := by
  rw [v_mIf, h1]
  cases x <;> exact h2
theorem mC1_of {g : D → Option D} (h1 : ma st = .ok h s1) (l1 : look h s1 = .ok a s1) (e : g a = some d) : mC1 g ma st = .ok d s1 := by
  rw [v_mC1, v_bnd', h1]
  simp only
  rw [v_bnd', l1]
  simp only
  rw [v_ofO, e]
theorem app_of {i : Nat} {ds : List D} (ho : ownAt st i = some (.lst ds)) (h1 : mm st = .ok d st) (hl : ds.length < 16777216) : sApp i mm st = .nx (putOwn st i (.lst (ds ++ [d]))) := by
  unfold sApp
  rw [ho]
  simp only [v_isLst1, if_true, v_eS, h1, ho, hl]
end
end Dn

set_option Elab.async false
set_option linter.all false
set_option maxRecDepth 10000
set_option maxHeartbeats 4000000
/-! Dn, part X: one rule a meaning, for reckoning by refine. -/
namespace Dn
section
variable {α : Type} {st s1 s2 s3 : S} {i : Nat} {a b d e x y : D} {ds es : List D} {m n r mm : M D} {ma mb mc : M Hd} {h k l : Hd} {t u : M Bool} {p q : Bool}
theorem e_ret (z : α) : Dn.ret z st = .ok z st := rfl
theorem e_va (e : st[i]? = some (.va d)) : mVar i st = .ok d st := by rw [v_mVar, e]
theorem e_ow (e : st[i]? = some (.ow d)) (h : st.set i (.va d) = s1) : mVar i st = .ok d s1 := by rw [v_mVar, e, ← h]
theorem e_slV (e : st[i]? = some (.va d)) : mSl i st = .ok (.s i) st := mSl_of (d := d) (by rw [e]; rfl)
theorem e_slO (e : st[i]? = some (.ow d)) : mSl i st = .ok (.s i) st := mSl_of (d := d) (by rw [e]; rfl)
theorem e_slI (e : st[i]? = some (.io d)) : mSl i st = .ok (.s i) st := mSl_of (d := d) (by rw [e]; rfl)
theorem l_v : look (.v d) st = .ok d st := rfl
theorem l_sV (e : st[i]? = some (.va d)) : look (.s i) st = .ok d st := lkS_of (by rw [e]; rfl)
theorem l_sO (e : st[i]? = some (.ow d)) : look (.s i) st = .ok d st := lkS_of (by rw [e]; rfl)
theorem l_sI (e : st[i]? = some (.io d)) : look (.s i) st = .ok d st := lkS_of (by rw [e]; rfl)
theorem e_neg {z : Int} (h : m st = .ok (.int z) s1) : mNeg m st = .ok (.int (-z)) s1 := by rw [v_mNeg, v_bnd', h] <;> rfl
theorem e_notV (h : m st = .ok (.bl p) s1) : mNotV m st = .ok (.bl (!p)) s1 := by rw [v_mNotV, v_bnd', h] <;> rfl
theorem e_andV (h : m st = .ok (.bl p) s1) (g : p = true → n s1 = .ok (.bl q) s1) : mAndV m n st = .ok (.bl (p && q)) s1 := by
  rw [v_mAndV, v_bnd', h]
  cases p with
  | true => simpa using g rfl
  | false => rfl
theorem e_orV (h : m st = .ok (.bl p) s1) (g : p = false → n s1 = .ok (.bl q) s1) : mOrV m n st = .ok (.bl (p || q)) s1 := by
  unfold mOrV
  rw [v_bnd', h]
  cases p with
  | true => rfl
  | false => simpa using g rfl
theorem e_if (h : t st = .ok p s1) (g1 : p = true → m s1 = .ok a s2) (g2 : p = false → n s1 = .ok b s2) : mIf t m n st = .ok (if p = true then a else b) s2 := by
  rw [v_mIf, h]
  cases p with
  | true => exact g1 rfl
  | false => exact g2 rfl
theorem e_cons {r : M (List D)} (h : m st = .ok d s1) (g : r s1 = .ok ds s2) : mCons m r st = .ok (d :: ds) s2 := by
  rw [v_mCons, v_bnd', h]
  simp only
  rw [v_bnd', g]
  rfl
theorem e_lst {r : M (List D)} (h : r st = .ok ds s1) (hl : Nat.ble ds.length 16777216 = true) : mLst r st = .ok (.lst ds) s1 := by
  rw [v_mLst, v_bnd', h]
  simp only
  rw [if_pos (Nat.le_of_ble_eq_true hl)]
  rfl
theorem e_tup {r : M (List D)} (h : r st = .ok ds s1) (hl : Nat.ble ds.length 16777216 = true) : mTup r st = .ok (.tup ds) s1 := by
  rw [v_mTup, v_bnd', h]
  simp only
  rw [if_pos (Nat.le_of_ble_eq_true hl)]
  rfl
theorem e_part {z : Int} (h : m st = .ok (.int z) s1) : mPart m st = .ok (some z) s1 := by rw [v_mPart, v_bnd', h] <;> rfl
theorem e_slice {f : D → Option Int → Option Int → Option D} {ml mu : M (Option Int)} {lo hi : Option Int} (h1 : ma st = .ok h s1) (h2 : ml s1 = .ok lo s2) (h3 : mu s2 = .ok hi s3) (h4 : look h s3 = .ok a s3) (h5 : f a lo hi = some d) : mSlice f ma ml mu st = .ok d s3 := by
  rw [v_mSlice, v_bnd', h1]
  simp only
  rw [v_bnd', h2]
  simp only
  rw [v_bnd', h3]
  simp only
  rw [v_bnd', h4]
  simp only
  rw [v_ofO, h5]
theorem e_chain {f f' : D → D → Option D} {w : D} {p q : Bool} (h1 : ma st = .ok h s1) (h2 : mb s1 = .ok k s2) (l1 : look h s2 = .ok a s2) (l2 : look k s2 = .ok b s2) (e1 : f a b = some (.bl p)) (h3 : p = true → mc s2 = .ok l s2) (l3 : p = true → look l s2 = .ok w s2) (e2 : p = true → f' b w = some (.bl q)) :
    mChain f f' ma mb mc st = .ok (.bl (p && q)) s2 := by
  rw [v_mChain, v_bnd', h1]
  simp only
  rw [v_bnd', h2]
  simp only
  rw [v_bnd', l1]
  simp only
  rw [v_bnd', l2]
  simp only
  rw [v_bnd', v_ofO, e1]
  cases p with
  | false => rfl
  | true =>
    simp only
    rw [v_bnd', h3 rfl]
    simp only
    rw [v_bnd', l2]
    simp only
    rw [v_bnd', l3 rfl]
    simp only
    rw [v_ofO, e2 rfl]
    rfl
theorem t_asB (h : m st = .ok (.bl p) s1) : asB m st = .ok p s1 := asB_of h
theorem t_not (h : t st = .ok p s1) : mNot t st = .ok (!p) s1 := by rw [v_mNot, h]
theorem t_and (h : t st = .ok p s1) (g : p = true → u s1 = .ok q s1) : mAnd t u st = .ok (p && q) s1 := by
  rw [v_mAnd, h]
  cases p with
  | true => simpa using g rfl
  | false => rfl
theorem t_or (h : t st = .ok p s1) (g : p = false → u s1 = .ok q s1) : mOr t u st = .ok (p || q) s1 := by
  rw [v_mOr, h]
  cases p with
  | true => rfl
  | false => simpa using g rfl
theorem t_tru (h1 : ma st = .ok h s1) (l1 : look h s1 = .ok a s1) (e : truD a = some p) : mTru ma st = .ok p s1 := by
  rw [v_mTru, v_bnd', h1]
  simp only
  rw [v_bnd', l1]
  simp only
  rw [v_ofO, e]
theorem h_v (h1 : mm st = .ok d s1) : mV mm st = .ok (.v d) s1 := mV_of h1
theorem a_nil : (Dn.ret [] : M (List Ag)) st = .ok [] st := rfl
theorem a_v {r : M (List Ag)} {as : List Ag} (h : m st = .ok d s1) (g : r s1 = .ok as s2) : agV m r st = .ok (.v d :: as) s2 := by
  rw [v_agV, v_bnd', h]
  simp only
  rw [v_bnd', g]
  rfl
theorem a_o {r : M (List Ag)} {as : List Ag} (e : (ownAt st i).isSome = true) (g : r st = .ok as s1) : agO i r st = .ok (.o i :: as) s1 := by
  rw [v_agO, if_pos e, v_bnd', g]
  rfl
theorem e_call {kk : Nat} {f : FM} {ma : M (List Ag)} {ags : List Ag} {svs : List SV} {io : Option D} (h : ma st = .ok ags s1) (hc : agChk ags = true) (hk : ags.length = kk) (hs : svsOf s1 ags = some svs) (hf : f svs = .ok d io) (hp : putIo s1 (oSlot ags) io = s2) : mCall kk f ma st = .ok d s2 := by
  rw [v_mCall, v_bnd', h]
  simp only [hc, hk, and_self, if_true, hs, hf, hp]
theorem sv_nil : svsOf st [] = some [] := rfl
theorem sv_v {r : List Ag} {svs : List SV} (h : svsOf st r = some svs) : svsOf st (.v d :: r) = some (.va d :: svs) := by rw [v_svsV, h] <;> rfl
theorem sv_i {r : List Ag} {svs : List SV} (e : st[i]? = some (.io d)) (h : svsOf st r = some svs) : svsOf st (.o i :: r) = some (.io d :: svs) := by rw [v_svsO, h, e] <;> rfl
theorem sv_o {r : List Ag} {svs : List SV} (e : st[i]? = some (.ow d)) (h : svsOf st r = some svs) : svsOf st (.o i :: r) = some (.io d :: svs) := by rw [v_svsO, h, e] <;> rfl
-- operators
theorem o_add {z w : Int} : fAdd (.int z) (.int w) = some (.int (z + w)) := rfl
theorem o_sub {z w : Int} : fSub (.int z) (.int w) = some (.int (z - w)) := rfl
theorem o_lt {z w : Int} : fLt (.int z) (.int w) = some (.bl (decide (z < w))) := rfl
theorem o_le {z w : Int} : fLe (.int z) (.int w) = some (.bl (decide (z ≤ w))) := rfl
theorem o_gt {z w : Int} : fGt (.int z) (.int w) = some (.bl (decide (w < z))) := rfl
theorem o_ge {z w : Int} : fGe (.int z) (.int w) = some (.bl (decide (w ≤ z))) := rfl
theorem o_max {z w : Int} : fMax (.int z) (.int w) = some (.int (if w > z then w else z)) := rfl
theorem o_min {z w : Int} : fMin (.int z) (.int w) = some (.int (if w < z then w else z)) := rfl
theorem o_isN : fIsN d .non = some (.bl (isNon d)) := rfl
theorem o_notN : fNotN d .non = some (.bl (!isNon d)) := rfl
theorem o_mod {z w : Int} (h : 0 < w) : fMod (.int z) (.int w) = some (.int (z % w)) := by
  show (if cMod z w = true then _ else _) = _
  rw [if_pos (by simpa [cMod] using h)]
theorem o_div {z w : Int} (h : 0 < w) (g : w < 1073741824) : fDiv (.int z) (.int w) = some (.int (z / w)) := by
  show (if cDiv z w = true then _ else _) = _
  rw [if_pos (by simp [cDiv, h, g])]
theorem o_pow18 : fPow (.int 10) (.int 18) = some (.int 1000000000000000000) := rfl
theorem o_mulL {z w : Int} (h : -18446744073709551616 < z) (g : z < 18446744073709551616) : fMul (.int z) (.int w) = some (.int (z * w)) := by
  show (if cMul z w = true then _ else _) = _
  rw [if_pos (by simp [cMul, h, g])]
theorem o_mulR {z w : Int} (h : -18446744073709551616 < w) (g : w < 18446744073709551616) : fMul (.int z) (.int w) = some (.int (z * w)) := by
  show (if cMul z w = true then _ else _) = _
  rw [if_pos (by simp [cMul, h, g])]
theorem c_lenL {β : Type} {f : β → D} {l : List β} : fLen (.lst (l.map f)) = some (.int (l.length : Nat)) := by
  show some _ = _
  rw [List.length_map]
theorem c_lenT {β : Type} {f : β → D} {l : List β} : fLen (.tup (l.map f)) = some (.int (l.length : Nat)) := by
  show some _ = _
  rw [List.length_map]
theorem c_lenF {β : Type} {f : β → D} {l : List β} : fLen (.fl (l.map f)) = some (.int (l.length : Nat)) := by
  show some _ = _
  rw [List.length_map]
theorem c_int {z : Int} : fInt (.int z) = some (.int z) := rfl
theorem c_intB {p : Bool} : fInt (.bl p) = some (.int (if p then 1 else 0)) := by cases p <;> rfl
theorem k_bl : truD (.bl p) = some p := rfl
-- statements
variable {m1 n1 : SM} {z : SRes}
theorem s_set {s0 : S} (h : mm st = .ok d s1) (g : s1.set i (.va d) = s0) : sSet i mm st = .nx s0 := by rw [v_sSet, h, ← g]
theorem s_own {s0 : S} (h : mm st = .ok d s1) (g : s1.set i (.ow d) = s0) : sOwn i mm st = .nx s0 := by rw [v_sOwn, h, ← g]
theorem s_if (h : t st = .ok p s1) (g : (if p = true then m1 s1 else n1 s1) = z) : sIf t m1 n1 st = z := if_of h g
theorem s_ifT (h : t st = .ok p s1) (hp : p = true) (g : m1 s1 = z) : sIf t m1 n1 st = z := if_of h (by rw [hp]; exact g)
theorem s_ifF (h : t st = .ok p s1) (hp : p = false) (g : n1 s1 = z) : sIf t m1 n1 st = z := if_of h (by rw [hp]; exact g)
theorem s_nop : nop st = .nx st := rfl
theorem s_app {s0 : S} (ho : ownAt st i = some (.lst ds)) (h1 : mm st = .ok d s1) (ho1 : ownAt s1 i = some (.lst ds)) (hl : ds.length < 16777216) (g : putOwn s1 i (.lst (ds ++ [d])) = s0) : sApp i mm st = .nx s0 := by
  unfold sApp
  rw [ho]
  simp only [v_isLst1, if_true, v_eS, h1, ho1, hl, ← g]
theorem s_aug {s0 : S} {f : D → D → Option D} (e : st[i]? = some (.va a)) (h1 : mm st = .ok b s1) (hf : f a b = some d) (g : s1.set i (.va d) = s0) : sAug f i mm st = .nx s0 := by
  unfold sAug
  rw [e]
  simp only [v_eS, h1, hf, ← g]
theorem s_asg {s0 : S} {g : GM} (h1 : mm st = .ok d s1) (h2 : g d s1 = some s0) : sAsg g mm st = .nx s0 := by rw [v_sAsg, h1]; simp only [h2]
theorem s_par {s0 : S} {is : List Nat} {mx : M (List (Bool × D))} {xs : List (Bool × D)} (h1 : mx st = .ok xs s1) (h2 : setX is xs s1 = some s0) : sPar is mx st = .nx s0 := by rw [v_sPar, h1]; simp only [h2]
theorem x_v {r : M (List (Bool × D))} {xs : List (Bool × D)} (h : m st = .ok d s1) (g : r s1 = .ok xs s2) : xV m r st = .ok ((false, d) :: xs) s2 := by
  rw [v_xV, v_bnd', h]
  simp only
  rw [v_bnd', g]
  rfl
theorem x_n {r : M (List (Bool × D))} {xs : List (Bool × D)} (h : m st = .ok (.lst ds) s1) (g : r s1 = .ok xs s2) : xN m r st = .ok ((true, .lst ds) :: xs) s2 := by
  rw [v_xN, v_bnd', h]
  show bnd r (fun xs => Dn.ret ((true, D.lst ds) :: xs)) s1 = _
  rw [v_bnd', g]
  rfl
theorem x_nil : (Dn.ret [] : M (List (Bool × D))) st = .ok [] st := rfl
theorem d_nil : (Dn.ret [] : M (List D)) st = .ok [] st := rfl
theorem s_put {s0 : S} {mk : M D} {zz : Int} {j : Nat} (h1 : mm st = .ok d s1) (h2 : isLst (ownAt s1 i) = true) (h3 : mk s1 = .ok (.int zz) s2) (h4 : ownAt s2 i = some (.lst ds)) (h5 : L2.ixN ds.length zz = some j) (g : putOwn s2 i (.lst (ds.set j d)) = s0) : sPut i mk mm st = .nx s0 := by
  unfold sPut
  simp only [v_eS, h1, h2, if_true, h3, h4, h5, ← g]
theorem s_augIx {f : D → D → Option D} {mk : M D} {s0 : S} {zz : Int} {j : Nat} {es : List D} {w d0 : D} (h1 : isLst (ownAt st i) = true) (h2 : mk st = .ok (.int zz) s1) (h3 : ownAt s1 i = some (.lst ds)) (h4 : 0 ≤ zz) (h5 : L2.atI ds zz = some d0) (h6 : mm s1 = .ok b s2) (h7 : f d0 b = some w) (h8 : ownAt s2 i = some (.lst es)) (h9 : L2.ixN es.length zz = some j) (g : putOwn s2 i (.lst (es.set j w)) = s0) : sAugIx f i mk mm st = .nx s0 := by
  unfold sAugIx
  simp only [h1, if_true, v_eS, h2, h3, h4, h5, h6, h7, h8, h9, ← g]
-- sources of loops
theorem i_lst (h : m st = .ok (.lst ds) s1) : mIs m st = .ok ds s1 := by rw [v_mIs, v_bnd', h] <;> rfl
theorem i_tup (h : m st = .ok (.tup ds) s1) : mIs m st = .ok ds s1 := by rw [v_mIs, v_bnd', h] <;> rfl
theorem i_enL (h : m st = .ok (.lst ds) s1) : mEnS m st = .ok (enumD 0 ds) s1 := by rw [v_mEnS, v_bnd', h] <;> rfl
theorem i_enT (h : m st = .ok (.tup ds) s1) : mEnS m st = .ok (enumD 0 ds) s1 := by rw [v_mEnS, v_bnd', h] <;> rfl
theorem i_zip (h : m st = .ok (.lst ds) s1) (g : n s1 = .ok (.lst es) s2) : mZip m n st = .ok (zipD ds es) s2 := by
  rw [v_mZip, v_bnd', h]
  simp only
  rw [v_bnd', g]
  rfl
theorem i_r1 {w : Int} (h : m st = .ok (.int w) s1) (h1 : -4611686018427387904 ≤ w) (h2 : w < 4611686018427387904) : mR1 m st = .ok (rngD 0 w) s1 := by
  rw [v_mR1, v_bnd', h]
  simp only
  rw [if_pos ⟨h1, h2⟩]
  rfl
theorem i_r2 {v w : Int} (h : m st = .ok (.int v) s1) (g : n s1 = .ok (.int w) s2) (h1 : -4611686018427387904 ≤ v) (h2 : v < 4611686018427387904) (h3 : -4611686018427387904 ≤ w) (h4 : w < 4611686018427387904) : mR2 m n st = .ok (rngD v w) s2 := by
  unfold mR2
  rw [v_bnd', h]
  simp only
  rw [v_bnd', g]
  simp only
  rw [if_pos ⟨⟨h1, h2⟩, h3, h4⟩]
  rfl
theorem i_zipM {β γ : Type} {f : β → D} {g : γ → D} {l : List β} {r : List γ} (h : m st = .ok (.lst (l.map f)) s1) (k : n s1 = .ok (.lst (r.map g)) s2) : mZip m n st = .ok ((l.zip r).map fun p => .tup [f p.1, g p.2]) s2 := by
  rw [i_zip h k, zipD_map]
theorem i_enLM {β : Type} {f : β → D} {l : List β} (h : m st = .ok (.lst (l.map f)) s1) : mEnS m st = .ok ((l.zipIdx 0).map fun p => .tup [.int (p.2 : Nat), f p.1]) s1 := by
  rw [i_enL h, enumD_map]
theorem i_enTM {β : Type} {f : β → D} {l : List β} (h : m st = .ok (.tup (l.map f)) s1) : mEnS m st = .ok ((l.zipIdx 0).map fun p => .tup [.int (p.2 : Nat), f p.1]) s1 := by
  rw [i_enT h, enumD_map]
theorem i_r1M {w : Nat} (h : m st = .ok (.int (w : Nat)) s1) (h2 : w < 4611686018427387904) : mR1 m st = .ok ((List.range w).map fun i : Nat => D.int (i : Int)) s1 := by
  rw [i_r1 h (by omega) (by omega), rngD_map]
theorem e_lr3 {r : M (List D)} {v w z : Int} (h : r st = .ok [.int v, .int w, .int z] s1) (hl : lrOk v w z = true) : mLr3 r st = .ok (.lst (rng3D v w z)) s1 := by
  unfold mLr3
  rw [v_bnd', h]
  simp only [hl, if_true]
  rfl
theorem s_for {g : GM} {body : SM} {mi : M (List D)} (hi : mi st = .ok ds s1) (h : forL g body ds s1 = z) : sFor mi g body st = z := by
  rw [v_sFor, hi]
  exact h
theorem s_seqR {z : SRes} (h : m1 st = z) (nz : ∀ s, z ≠ .nx s) : sq m1 n1 st = z := by
  rw [v_sq, h]
  cases z with
  | nx s => exact absurd rfl (nz s)
  | _ => rfl
theorem e_lc {mi : M (List D)} {own : List Nat} {g : GM} {t : M Bool} {te : M D} {ys : List D} {s0 : S} (hi : mi st = .ok ds s1) (h : lcL own g t te ds (unset own s1) = .ok ys s2) (h0 : restore s1 own s2 = s0) : mLc mi own g t te st = .ok (.lst ys) s0 := by
  unfold mLc
  rw [v_bnd', hi]
  simp only
  rw [h]
  simp only [h0]
/-- a def's answer, its last stand not asked where nothing was handed -/
theorem f_rt {nn : Nat} {mb : SM} {svs : List SV} {d : D} {st : S} (h : mb (initS nn svs) = .rt d st) (hi : ioIx svs = none) : fnOf nn mb svs = .ok d none := fn_rt h hi
theorem f_io {nn : Nat} {mb : SM} {svs : List SV} {d e : D} {st : S} {i : Nat} (hi : ioIx svs = some i) (h : mb (initS nn svs) = .rt d st) (he : st[i]? = some (.io e)) : fnOf nn mb svs = .ok d (some e) := fn_io h hi he
theorem f_va {nn : Nat} {mb : SM} {svs : List SV} {d : D} {st s0 : S} (h0 : initS nn svs = s0) (hi : ioIx svs = none) (h : mb s0 = .rt d st) : fnOf nn mb svs = .ok d none := fn_rt (by rw [h0]; exact h) hi
theorem f_vaE {nn : Nat} {mb : SM} {svs : List SV} {d d' : D} {st s0 : S} (h0 : initS nn svs = s0) (hi : ioIx svs = none) (h : mb s0 = .rt d' st) (hd : d' = d) : fnOf nn mb svs = .ok d none := hd ▸ f_va h0 hi h
theorem e_ifI {z w : Int} (h : t st = .ok p s1) (g1 : p = true → m s1 = .ok (.int z) s2) (g2 : p = false → n s1 = .ok (.int w) s2) : mIf t m n st = .ok (.int (if p = true then z else w)) s2 := by
  rw [e_if h g1 g2]
  cases p <;> rfl
theorem e_ifB {z w : Bool} (h : t st = .ok p s1) (g1 : p = true → m s1 = .ok (.bl z) s2) (g2 : p = false → n s1 = .ok (.bl w) s2) : mIf t m n st = .ok (.bl (if p = true then z else w)) s2 := by
  rw [e_if h g1 g2]
  cases p <;> rfl
theorem e_ifS {z w : PySem.Str} (h : t st = .ok p s1) (g1 : p = true → m s1 = .ok (.str z) s2) (g2 : p = false → n s1 = .ok (.str w) s2) : mIf t m n st = .ok (.str (if p = true then z else w)) s2 := by
  rw [e_if h g1 g2]
  cases p <;> rfl
theorem f_nx {nn : Nat} {mb : SM} {svs : List SV} {st s0 : S} (h0 : initS nn svs = s0) (hi : ioIx svs = none) (h : mb s0 = .nx st) : fnOf nn mb svs = .ok .non none := fn_nx (by rw [h0]; exact h) hi
theorem f_ior {nn : Nat} {mb : SM} {svs : List SV} {d e : D} {st s0 : S} {i : Nat} (h0 : initS nn svs = s0) (hi : ioIx svs = some i) (h : mb s0 = .rt d st) (he : st[i]? = some (.io e)) : fnOf nn mb svs = .ok d (some e) := fn_io (by rw [h0]; exact h) hi he
theorem s_retq {w : SRes} (h : m st = .ok d s1) : sq (sRet m) n1 st = .rt d s1 := s_seqR (ret_of h) fun _ z => by cases z
theorem s_seqRt {d : D} (h : m1 st = .rt d s1) : sq m1 n1 st = .rt d s1 := s_seqR h fun _ z => by cases z
/-- a loop by what holds between its turns; it may be left by an answer -/
theorem for_rel {α τ : Type} {g : GM} {body : SM} (toD : α → D) (step : τ → α → τ) (J : Nat → τ → S → Prop) : ∀ (l : List α) (k : Nat) (s : τ) (st : S), J k s st →
    (∀ (i : Nat) (a : α) (s : τ) (st : S), l[i]? = some a → J (k + i) s st → ∃ s1 s2, g (toD a) st = some s1 ∧ (body s1 = .nx s2 ∨ body s1 = .ct s2) ∧ J (k + i + 1) (step s a) s2) →
    ∃ st', forL g body (l.map toD) st = .nx st' ∧ J (k + l.length) (l.foldl step s) st'
  | [], k, s, st, hp, _ => ⟨st, rfl, hp⟩
  | a :: l, k, s, st, hp, h => by
    obtain ⟨s1, s2, e1, e2, p2⟩ := h 0 a s st rfl hp
    obtain ⟨st', ih1, ih2⟩ := for_rel toD step J l (k + 1) (step s a) s2 p2 fun i b s' st' e q => by
      have := h (i + 1) b s' st' (by simpa using e) (by rw [show k + (i + 1) = k + 1 + i by omega]; exact q)
      rw [show k + (i + 1) + 1 = k + 1 + i + 1 by omega] at this
      exact this
    refine ⟨st', ?_, ?_⟩
    · rw [List.map_cons]
      unfold forL
      rw [e1]
      simp only
      rcases e2 with e2 | e2 <;> rw [e2] <;> exact ih1
    · rw [List.foldl_cons, List.length_cons, show k + (l.length + 1) = k + 1 + l.length by omega]
      exact ih2
/-! what a row of statements ends in, as a property -/
def Rt (d : D) (r : SRes) : Prop := ∃ st, r = .rt d st
def RtI (i : Nat) (d e : D) (r : SRes) : Prop := ∃ st, r = .rt d st ∧ st[i]? = some (.io e)
def Nx (r : SRes) : Prop := ∃ st, r = .nx st
theorem f_z {nn : Nat} {mb : SM} {svs : List SV} {d : D} {s0 : S} (h0 : initS nn svs = s0) (hi : ioIx svs = none) (h : Rt d (mb s0)) : fnOf nn mb svs = .ok d none := by
  obtain ⟨st, e⟩ := h
  exact f_va h0 hi e
theorem f_zI {nn : Nat} {mb : SM} {svs : List SV} {d e : D} {s0 : S} {i : Nat} (h0 : initS nn svs = s0) (hi : ioIx svs = some i) (h : RtI i d e (mb s0)) : fnOf nn mb svs = .ok d (some e) := by
  obtain ⟨st, e1, e2⟩ := h
  exact f_ior h0 hi e1 e2
theorem f_zN {nn : Nat} {mb : SM} {svs : List SV} {s0 : S} (h0 : initS nn svs = s0) (hi : ioIx svs = none) (h : Nx (mb s0)) : fnOf nn mb svs = .ok .non none := by
  obtain ⟨st, e⟩ := h
  exact f_nx h0 hi e
variable {Z : SRes → Prop}
theorem q_sq (h : m1 st = .nx s1) (k : Z (n1 s1)) : Z (sq m1 n1 st) := by rw [sq_of h rfl]; exact k
theorem q_ret {d' : D} (h : mm st = .ok d' s1) (e : d' = d) : Rt d (sRet mm st) := ⟨s1, by rw [ret_of h, e]⟩
theorem q_retI {d' : D} (h : mm st = .ok d' s1) (e : d' = d) (g : s1[i]? = some (.io a)) : RtI i d a (sRet mm st) := ⟨s1, by rw [ret_of h, e], g⟩
theorem q_seqR (h : Rt d (m1 st)) : Rt d (sq m1 n1 st) := by
  obtain ⟨s, e⟩ := h
  exact ⟨s, s_seqRt e⟩
theorem q_seqRI (h : RtI i d a (m1 st)) : RtI i d a (sq m1 n1 st) := by
  obtain ⟨s, e, g⟩ := h
  exact ⟨s, s_seqRt e, g⟩
theorem q_ifT (h : t st = .ok p s1) (hp : p = true) (k : Z (m1 s1)) : Z (sIf t m1 n1 st) := by rw [s_ifT h hp rfl]; exact k
theorem q_ifF (h : t st = .ok p s1) (hp : p = false) (k : Z (n1 s1)) : Z (sIf t m1 n1 st) := by rw [s_ifF h hp rfl]; exact k
/-- a loop in a row of statements, by what holds between its turns -/
theorem q_for {α τ : Type} {g : GM} {body : SM} {mi : M (List D)} (toD : α → D) (step : τ → α → τ) (J : Nat → τ → S → Prop) (l : List α) (s : τ) (hi : mi st = .ok (l.map toD) s1) (h0 : J 0 s s1)
    (turn : ∀ (i : Nat) (a : α) (s : τ) (st : S), l[i]? = some a → J i s st → ∃ s1 s2, g (toD a) st = some s1 ∧ (body s1 = .nx s2 ∨ body s1 = .ct s2) ∧ J (i + 1) (step s a) s2)
    (k : ∀ st', J l.length (l.foldl step s) st' → Z (n1 st')) : Z (sq (sFor mi g body) n1 st) := by
  obtain ⟨st', e1, e2⟩ := for_rel (g := g) (body := body) toD step J l 0 s s1 h0 fun i a s st e j => by
    rw [Nat.zero_add] at j
    rw [Nat.zero_add]
    exact turn i a s st e j
  rw [Nat.zero_add] at e2
  exact q_sq (s_for hi e1) (k st' e2)
/-- a loop that looks for the first item with ok, and answers there -/
theorem q_find {α : Type} {g : GM} {body : SM} {mi : M (List D)} (toD : α → D) (ok : α → Bool) (J : S → Prop) (l : List α) (hi : mi st = .ok (l.map toD) s1) (h0 : J s1)
    (turn : ∀ (a : α) (st : S), a ∈ l → J st → ∃ s1, g (toD a) st = some s1 ∧ (ok a = true → l.find? ok = some a → Z (body s1) ∧ ∃ d s, body s1 = .rt d s) ∧ (ok a = false → ∃ s2, (body s1 = .nx s2 ∨ body s1 = .ct s2) ∧ J s2))
    (k : l.find? ok = none → ∀ st', J st' → Z (n1 st')) : Z (sq (sFor mi g body) n1 st) := by
  have key : ∀ (r : List α) (st : S), (∀ a ∈ r, a ∈ l) → l.find? ok = r.find? ok → J st → (l.find? ok = none ∧ ∃ st', forL g body (r.map toD) st = .nx st' ∧ J st') ∨ (Z (forL g body (r.map toD) st) ∧ ∃ d s, forL g body (r.map toD) st = .rt d s) := by
    intro r
    induction r with
    | nil => exact fun st _ hf j => .inl ⟨hf, st, rfl, j⟩
    | cons a r ih =>
      intro st hm hf j
      obtain ⟨s1, e1, e2, e3⟩ := turn a st (hm a List.mem_cons_self) j
      rw [List.map_cons]
      unfold forL
      rw [e1]
      simp only
      cases c : ok a with
      | true =>
        rw [List.find?_cons_of_pos c] at hf
        obtain ⟨z1, d, s, z2⟩ := e2 c hf
        rw [z2] at z1 ⊢
        exact .inr ⟨z1, d, s, rfl⟩
      | false =>
        rw [List.find?_cons_of_neg (by simp [c])] at hf
        obtain ⟨s2, z1, z2⟩ := e3 c
        have := ih s2 (fun b hb => hm b (List.mem_cons_of_mem _ hb)) hf z2
        rcases z1 with z1 | z1 <;> rw [z1] <;> exact this
  rcases key l s1 (fun _ h => h) rfl h0 with ⟨a1, st', a2, a3⟩ | ⟨a1, d, s, a2⟩
  · exact q_sq (s_for hi a2) (k a1 st' a3)
  · rw [s_seqRt (s_for hi a2)]
    rw [a2] at a1
    exact a1
/-- a loop that a turn leaves -/
theorem for_hit {g : GM} {body : SM} {R : SRes → Prop} (J : Nat → S → Prop) : ∀ (l : List D) (k : Nat) (st : S), J k st →
    (∀ (i : Nat) (d : D) (st : S), l[i]? = some d → J (k + i) st → ∃ s1, g d st = some s1 ∧ ((∃ s2, (body s1 = .nx s2 ∨ body s1 = .ct s2) ∧ J (k + i + 1) s2) ∨ (R (body s1) ∧ (∃ d s, body s1 = .rt d s)))) →
    (∃ st', forL g body l st = .nx st' ∧ J (k + l.length) st') ∨ R (forL g body l st)
  | [], k, st, hp, _ => .inl ⟨st, rfl, hp⟩
  | a :: l, k, st, hp, h => by
    obtain ⟨s1, e1, e2⟩ := h 0 a st rfl hp
    unfold forL
    rw [e1]
    simp only
    rcases e2 with ⟨s2, e2, p2⟩ | ⟨e2, d, s, e3⟩
    · have ih := for_hit J l (k + 1) s2 p2 fun i b st' e q => by
        have := h (i + 1) b st' (by simpa using e) (by rw [show k + (i + 1) = k + 1 + i by omega]; exact q)
        rw [show k + (i + 1) + 1 = k + 1 + i + 1 by omega] at this
        exact this
      rw [List.length_cons, show k + (l.length + 1) = k + 1 + l.length by omega]
      rcases e2 with e2 | e2 <;> rw [e2] <;> exact ih
    · rw [e3] at e2 ⊢
      exact .inr e2
theorem lc_map {α : Type} {own : List Nat} {g : GM} {te : M D} {u : S} {toD : α → D} (out : α → D) (l : List α) (hl : l.length < 16777215) (h : ∀ a ∈ l, ∃ s1 s3, g (toD a) u = some s1 ∧ te s1 = .ok (out a) s3 ∧ unset own s3 = u) : lcL own g (Dn.ret true) te (l.map toD) u = .ok (l.map out) u := by
  have := lc_flt (own := own) (g := g) (t := Dn.ret true) (te := te) (u := u) (toD := toD) (fun _ => true) out l hl fun a ha => by
    obtain ⟨s1, s3, e1, e2, e3⟩ := h a ha
    exact ⟨s1, s1, e1, rfl, fun _ => ⟨s3, e2, e3⟩, fun z => by cases z⟩
  rwa [List.filter_eq_self.mpr fun _ _ => rfl] at this
theorem o_ix0 {a : D} {r : List D} : fIx (.tup (a :: r)) (.int 0) = some a := L2.atI_nat (xs := a :: r) (j := 0) rfl
theorem o_ix1 {a b : D} {r : List D} : fIx (.tup (a :: b :: r)) (.int 1) = some b := L2.atI_nat (xs := a :: b :: r) (j := 1) rfl
theorem o_ixl0 {a : D} {r : List D} : fIx (.lst (a :: r)) (.int 0) = some a := L2.atI_nat (xs := a :: r) (j := 0) rfl
theorem o_ixl1 {a b : D} {r : List D} : fIx (.lst (a :: b :: r)) (.int 1) = some b := L2.atI_nat (xs := a :: b :: r) (j := 1) rfl
theorem o_ixN {β : Type} {f : β → D} {l : List β} {j : Nat} {a : β} (h : l[j]? = some a) : fIx (.lst (l.map f)) (.int (j : Nat)) = some (f a) := L2.atI_nat (by rw [List.getElem?_map, h]; rfl)
theorem o_ixF {β : Type} {f : β → D} {l : List β} {j : Nat} {a : β} (h : l[j]? = some a) : fIx (.fl (l.map f)) (.int (j : Nat)) = some (f a) := L2.atI_nat (by rw [List.getElem?_map, h]; rfl)
theorem o_ixL {β : Type} {f : β → D} {l : List β} {a : β} : fIx (.lst ((l ++ [a]).map f)) (.int (-1)) = some (f a) := by
  rw [List.map_append]
  exact L2.atI_last (l.map f) (f a)
theorem ixN_last {n : Nat} : L2.ixN (n + 1) (-1) = some n := by
  unfold L2.ixN
  rw [if_neg (by decide), if_pos (by omega)]
  congr 1
  omega
theorem ixN_at {n j : Nat} (h : j < n) : L2.ixN n (j : Nat) = some j := by
  unfold L2.ixN
  rw [if_pos (by omega), if_pos (by omega)]
  congr 1
theorem em_fIn {α : Type} [DecidableEq α] {f : α → D} {n : Nat} (e : Em f n) (neg : Bool) (a : α) (l : List α) (hn : n ≤ 63 := by decide) : fInD neg (f a) (.lst (l.map f)) = some (.bl (decide (a ∈ l) != neg)) := by
  obtain ⟨p, h1, h2, h3, h4⟩ := e.ex
  have s1 : PySem.SeqAt.shaped (p a) = true := by
    simp only [PySem.SeqAt.shaped, h3, Bool.true_and, decide_eq_true_eq]
    exact Nat.le_trans (h4 a) (by omega)
  have s2 : PySem.SeqAt.shaped (.list (l.map p)) = true := by
    simp only [PySem.SeqAt.shaped, PySem.PyData.canLay0, lay_map h3 l, Bool.true_and, decide_eq_true_eq, PySem.PyData.depth]
    exact decide_eq_true (Nat.le_trans (Nat.succ_le_succ (depth_map h4 l)) (Nat.succ_le_succ hn))
  unfold fInD
  rw [h1, show toPy (.lst (l.map f)) = some (.list (l.map p)) from by simp [toPy, toPyL_map h1]]
  simp only [s1, s2, and_self, if_true]
  congr 3
  rw [List.any_map, Bool.eq_iff_iff, List.any_eq_true, decide_eq_true_eq]
  constructor
  · rintro ⟨x, hx, h⟩
    exact ((h2 x a).mp h) ▸ hx
  · exact fun h => ⟨a, h, (h2 a a).mpr rfl⟩
theorem fl_ne {xs : List D} {d : D} : fNe (.fl xs) d = fNe (.lst xs) d := by unfold fNe eqD; simp only [toPy]
theorem fl_eq {xs : List D} {d : D} : fEq (.fl xs) d = fEq (.lst xs) d := by unfold fEq eqD; simp only [toPy]
theorem blsOf_map {β : Type} (q : β → Bool) : ∀ l : List β, blsOf (l.map fun p => D.bl (q p)) = some (l.map q)
  | [] => rfl
  | a :: l => by
    rw [List.map_cons, List.map_cons]
    unfold blsOf
    rw [blsOf_map q l]
    rfl
theorem c_any {β : Type} {q : β → Bool} {l : List β} : fAny (.lst (l.map fun p => D.bl (q p))) = some (.bl (l.any q)) := by
  unfold fAny
  show ((some (l.map fun p => D.bl (q p))).bind blsOf).map _ = _
  rw [Option.bind_some, blsOf_map, Option.map_some, List.any_map]
  rfl
theorem c_all {β : Type} {q : β → Bool} {l : List β} : fAll (.lst (l.map fun p => D.bl (q p))) = some (.bl (l.all q)) := by
  unfold fAll
  show ((some (l.map fun p => D.bl (q p))).bind blsOf).map _ = _
  rw [Option.bind_some, blsOf_map, Option.map_some, List.all_map]
  rfl
theorem o_from {β : Type} {f : β → D} {l : List β} {k : Nat} : fSlL (.lst (l.map f)) (some (k : Nat)) none = some (.lst ((l.drop k).map f)) := by
  show some (D.lst (cutL _ _ _)) = _
  unfold cutL
  rw [HT.sIx_nat, HT.sIx_none, List.length_map, ← List.map_drop, List.take_of_length_le]
  · by_cases h : k ≤ l.length
    · rw [Nat.min_eq_left h]
    · rw [Nat.min_eq_right (by omega), List.drop_length, List.drop_eq_nil_iff.mpr (by omega)]
  · simp
theorem o_from1 {β : Type} {f : β → D} {l : List β} : fSlL (.lst (l.map f)) (some 1) none = some (.lst ((l.drop 1).map f)) := o_from (k := 1)
theorem c_listL {xs : List D} : fListOf (.lst xs) = some (.lst xs) := rfl
theorem c_tupL {xs : List D} : fTupOf (.lst xs) = some (.tup xs) := rfl
@[simp] theorem keep_idem (x : Option SV) : keepV (some (keepV x)) = keepV x := by
  unfold keepV
  rcases x with _ | x
  · rfl
  · cases x <;> rfl
theorem keep_va {d : D} : keepV (some (.va d)) = .va d := rfl
theorem keep_ow {d : D} : keepV (some (.ow d)) = .un := rfl
theorem keep_un : keepV (some .un) = .un := rfl
theorem em_nat : Em (fun k : Nat => D.int (k : Nat)) 0 := em_via em_int fun a b h => Int.ofNat.inj h
theorem em_fl {α : Type} {f : α → D} {n : Nat} (e : Em f n) : Em (fun xs : List α => D.fl (xs.map f)) (n + 1) := by
  obtain ⟨p, h1, h2, h3, h4⟩ := e.ex
  refine ⟨⟨fun xs => .list (xs.map p), fun xs => by simp [toPy, toPyL_map h1], fun a b => by simp only [PySem.PyData.eqv]; exact eqvAll_map h2 a b, fun xs => by simp only [PySem.PyData.canLay0]; exact lay_map h3 xs, fun xs => ?_⟩⟩
  simp only [PySem.PyData.depth]
  exact Nat.succ_le_succ (depth_map h4 xs)
theorem em_tupL {α : Type} {f : α → D} {n : Nat} (e : Em f n) : Em (fun xs : List α => D.tup (xs.map f)) (n + 1) := by
  obtain ⟨p, h1, h2, h3, h4⟩ := e.ex
  refine ⟨⟨fun xs => .tuple (xs.map p), fun xs => by simp [toPy, toPyL_map h1], fun a b => by simp only [PySem.PyData.eqv]; exact eqvAll_map h2 a b, fun xs => by simp only [PySem.PyData.canLay0]; exact lay_map h3 xs, fun xs => ?_⟩⟩
  simp only [PySem.PyData.depth]
  exact Nat.succ_le_succ (depth_map h4 xs)
end
end Dn

set_option Elab.async false
set_option linter.all false
set_option maxRecDepth 100000
set_option maxHeartbeats 0

namespace W23
open PySem PySem.Spec PyProof.Rows L2 Dn
def topS (i : Nat) : Stmt := PySem.Challenge.pw_signsbykeys_k23_whole_bounces.main.body.getD i (.Pass ⟨0, 0, 0, 0⟩)
abbrev s_is_integer : Stmt := topS 3
abbrev s_is_row : Stmt := topS 4
abbrev s_is_number : Stmt := topS 5
abbrev s_check_samples : Stmt := topS 9
abbrev s_cleaned : Stmt := topS 10
abbrev s_changes : Stmt := topS 11
abbrev s_runs_of : Stmt := topS 12
abbrev s_longest_noise : Stmt := topS 13
abbrev s_least_hold : Stmt := topS 14
abbrev s_same_events : Stmt := topS 15
abbrev s_delays : Stmt := topS 16
abbrev s_same_words : Stmt := topS 17
abbrev s_repeats : Stmt := topS 18
abbrev s_count_repeats : Stmt := topS 19
abbrev s_lengths_for : Stmt := topS 20
abbrev s_u_law_number : Stmt := topS 22
abbrev s_u_law_take : Stmt := topS 23
abbrev s_u_law_cleaned : Stmt := topS 24
abbrev s_u_law_changes : Stmt := topS 25
abbrev s_u_law_refused : Stmt := topS 26
abbrev s_u_law_repeats_right : Stmt := topS 27
abbrev s_law : Stmt := topS 28
abbrev si_BadSamples : Stmt := (clsBody (topS 7)).getD 0 (.Pass ⟨0, 0, 0, 0⟩)
def tblM : Mt := [(("BadSamples", "BadSamples"), true), (("BadSamples", "BadHold"), false), (("BadHold", "BadSamples"), false), (("BadHold", "BadHold"), true)]
abbrev bm_BadHold : List Value := [.type "ValueError", .type "Exception", .type "BaseException", .type "object"]
structure Fx (K : PySem.W.Frag) (mg : MG) where
  z_all : mg "all" = none
  z_any : mg "any" = none
  z_bool : mg "bool" = none
  z_enumerate : mg "enumerate" = none
  z_int : mg "int" = none
  z_isinstance : mg "isinstance" = none
  z_len : mg "len" = none
  z_list : mg "list" = none
  z_max : mg "max" = none
  z_range : mg "range" = none
  z_tuple : mg "tuple" = none
  z_zip : mg "zip" = none
  f_is_integer : Addr
  fd_is_integer : FuncData
  g_is_integer : mg "is_integer" = some (.ref f_is_integer)
  F_is_integer : Fun K "is_integer" "is_integer" s_is_integer f_is_integer fd_is_integer
  f_is_row : Addr
  fd_is_row : FuncData
  g_is_row : mg "is_row" = some (.ref f_is_row)
  F_is_row : Fun K "is_row" "is_row" s_is_row f_is_row fd_is_row
  f_is_number : Addr
  fd_is_number : FuncData
  g_is_number : mg "is_number" = some (.ref f_is_number)
  F_is_number : Fun K "is_number" "is_number" s_is_number f_is_number fd_is_number
  f_check_samples : Addr
  fd_check_samples : FuncData
  g_check_samples : mg "check_samples" = some (.ref f_check_samples)
  F_check_samples : Fun K "check_samples" "check_samples" s_check_samples f_check_samples fd_check_samples
  f_cleaned : Addr
  fd_cleaned : FuncData
  g_cleaned : mg "cleaned" = some (.ref f_cleaned)
  F_cleaned : Fun K "cleaned" "cleaned" s_cleaned f_cleaned fd_cleaned
  f_changes : Addr
  fd_changes : FuncData
  g_changes : mg "changes" = some (.ref f_changes)
  F_changes : Fun K "changes" "changes" s_changes f_changes fd_changes
  f_runs_of : Addr
  fd_runs_of : FuncData
  g_runs_of : mg "runs_of" = some (.ref f_runs_of)
  F_runs_of : Fun K "runs_of" "runs_of" s_runs_of f_runs_of fd_runs_of
  f_longest_noise : Addr
  fd_longest_noise : FuncData
  g_longest_noise : mg "longest_noise" = some (.ref f_longest_noise)
  F_longest_noise : Fun K "longest_noise" "longest_noise" s_longest_noise f_longest_noise fd_longest_noise
  f_least_hold : Addr
  fd_least_hold : FuncData
  g_least_hold : mg "least_hold" = some (.ref f_least_hold)
  F_least_hold : Fun K "least_hold" "least_hold" s_least_hold f_least_hold fd_least_hold
  f_same_events : Addr
  fd_same_events : FuncData
  g_same_events : mg "same_events" = some (.ref f_same_events)
  F_same_events : Fun K "same_events" "same_events" s_same_events f_same_events fd_same_events
  f_same_words : Addr
  fd_same_words : FuncData
  g_same_words : mg "same_words" = some (.ref f_same_words)
  F_same_words : Fun K "same_words" "same_words" s_same_words f_same_words fd_same_words
  f_delays : Addr
  fd_delays : FuncData
  g_delays : mg "delays" = some (.ref f_delays)
  F_delays : Fun K "delays" "delays" s_delays f_delays fd_delays
  f_repeats : Addr
  fd_repeats : FuncData
  g_repeats : mg "repeats" = some (.ref f_repeats)
  F_repeats : Fun K "repeats" "repeats" s_repeats f_repeats fd_repeats
  f_count_repeats : Addr
  fd_count_repeats : FuncData
  g_count_repeats : mg "count_repeats" = some (.ref f_count_repeats)
  F_count_repeats : Fun K "count_repeats" "count_repeats" s_count_repeats f_count_repeats fd_count_repeats
  f_lengths_for : Addr
  fd_lengths_for : FuncData
  g_lengths_for : mg "lengths_for" = some (.ref f_lengths_for)
  F_lengths_for : Fun K "lengths_for" "lengths_for" s_lengths_for f_lengths_for fd_lengths_for
  f_u_law_number : Addr
  fd_u_law_number : FuncData
  g_u_law_number : mg "_law_number" = some (.ref f_u_law_number)
  F_u_law_number : Fun K "_law_number" "_law_number" s_u_law_number f_u_law_number fd_u_law_number
  f_u_law_take : Addr
  fd_u_law_take : FuncData
  g_u_law_take : mg "_law_take" = some (.ref f_u_law_take)
  F_u_law_take : Fun K "_law_take" "_law_take" s_u_law_take f_u_law_take fd_u_law_take
  f_u_law_cleaned : Addr
  fd_u_law_cleaned : FuncData
  g_u_law_cleaned : mg "_law_cleaned" = some (.ref f_u_law_cleaned)
  F_u_law_cleaned : Fun K "_law_cleaned" "_law_cleaned" s_u_law_cleaned f_u_law_cleaned fd_u_law_cleaned
  f_u_law_changes : Addr
  fd_u_law_changes : FuncData
  g_u_law_changes : mg "_law_changes" = some (.ref f_u_law_changes)
  F_u_law_changes : Fun K "_law_changes" "_law_changes" s_u_law_changes f_u_law_changes fd_u_law_changes
  f_u_law_refused : Addr
  fd_u_law_refused : FuncData
  g_u_law_refused : mg "_law_refused" = some (.ref f_u_law_refused)
  F_u_law_refused : Fun K "_law_refused" "_law_refused" s_u_law_refused f_u_law_refused fd_u_law_refused
  f_u_law_repeats_right : Addr
  fd_u_law_repeats_right : FuncData
  g_u_law_repeats_right : mg "_law_repeats_right" = some (.ref f_u_law_repeats_right)
  F_u_law_repeats_right : Fun K "_law_repeats_right" "_law_repeats_right" s_u_law_repeats_right f_u_law_repeats_right fd_u_law_repeats_right
  C_BadSamples : Addr
  g_BadSamples : mg "BadSamples" = some (.ref C_BadSamples)
  o_BadSamples : OexC K C_BadSamples
  fi_BadSamples : Addr
  fdi_BadSamples : FuncData
  i_BadSamples : PySem.W.findIn K (.ref C_BadSamples) "__init__" = some (some (.ref fi_BadSamples))
  ti_BadSamples : PySem.W.typeIn K (.ref fi_BadSamples) = some (.type "function")
  Fi_BadSamples : Fun K "__init__" "BadSamples.__init__" si_BadSamples fi_BadSamples fdi_BadSamples
  no_BadSamples_place : PySem.W.findIn K (.ref C_BadSamples) "place" = some none
  xf_BadSamples : XfC K C_BadSamples
  C_BadHold : Addr
  g_BadHold : mg "BadHold" = some (.ref C_BadHold)
  x_BadHold : PySem.W.excIn K C_BadHold (bm_BadHold) "ValueError.__new__" = true
  k_BadHold : PySem.W.keepIn K (.ref C_BadHold) = true
  e_BadHold : PySem.W.subIn K (.ref C_BadHold) (.type "BaseException") = some true
  t_BadHold : PySem.W.typeIn K (.ref C_BadHold) = some (.type "type")
  exm : Exm K mg tblM
section
variable {P : Program} {w : World} {K : PySem.W.Frag} {mg : MG} {base : Heap}
theorem sci_BadSamples : FnScope [("self" : Str), ("place" : Str)] [("self" : Str), ("place" : Str)] (defScope si_BadSamples) := ⟨rfl, rfl, rfl, by decide +kernel, rfl, by decide +kernel, by decide +kernel⟩
theorem ini_BadSamples (T : Fx K mg) : FnOk P w K mg base CX0 1 T.fi_BadSamples T.fdi_BadSamples [("self" : Str), ("place" : Str)] (spInit T.C_BadSamples [("place" : Str)]) := init1 T.Fi_BadSamples sci_BadSamples rfl rfl rfl (by decide) (by decide) (fun env he => by rfl) T.o_BadSamples T.no_BadSamples_place
theorem bi_BadSamples (T : Fx K mg) : Binds K T.fdi_BadSamples [("self" : Str), ("place" : Str)] [] := T.Fi_BadSamples.binds (ps := [("self" : Str), ("place" : Str)]) fun _ _ _ _ _ _ us hl => match us, hl with | [_, _], _ => rfl
theorem xf_BadSamples_place {c : Ct} {X : Cx} (T : Fx X.K X.mg) (hM : c.mg = X.mg) : ∀ cn, (["BadSamples"] : List Str).contains cn = true → ∃ C, c.mg cn = some (.ref C) ∧ XfC X.K C ∧ PySem.W.findIn X.K (.ref C) "place" = some none := fun cn h => by
  have e : cn = "BadSamples" := by simpa using h
  subst e
  exact ⟨T.C_BadSamples, by rw [hM]; exact T.g_BadSamples, T.xf_BadSamples, T.no_BadSamples_place⟩
/-! ### is_integer -/
abbrev ps_is_integer : List Str := [("thing" : Str)]
abbrev N_is_integer : List Str := [("thing" : Str)]
theorem sc_is_integer : FnScope N_is_integer ps_is_integer (defScope s_is_integer) := ⟨rfl, rfl, rfl, by decide +kernel, rfl, by decide +kernel, by decide +kernel⟩
def m_is_integer : SM := (sRet (mAndV (mC1 (fIsi "int") (mSl 0)) (mNotV (mC1 (fIsi "bool") (mSl 0)))))
def f_is_integer : FM := fnOf N_is_integer.length m_is_integer
theorem ok_is_integer (T : Fx K mg) : FnOk P w K mg base (L2.CX P w) 1 T.f_is_integer T.fd_is_integer ps_is_integer (spM K mg ps_is_integer.length f_is_integer) := by
  unfold f_is_integer
  exact fn_ok (m := m_is_integer) T.F_is_integer sc_is_integer (by decide) fun cdv A outer s H E c W hr hK hM tk hp => by
    have nd := sc_is_integer.nd
    exact (dss_one (ds_ret (de_and (de_isi (T := "int") hK (by rfl) T.z_isinstance (by decide +kernel) (by rfl) T.z_int (by decide +kernel) (dh_sl 0)) (de_one (de_not (de_isi (T := "bool") hK (by rfl) T.z_isinstance (by decide +kernel) (by rfl) T.z_bool (by decide +kernel) (dh_sl 0)))))))
theorem b_is_integer (T : Fx K mg) : Binds K T.fd_is_integer ps_is_integer [] := T.F_is_integer.binds (ps := ps_is_integer) fun _ _ _ _ _ _ us hl => match us, hl with | [_], _ => rfl
/-! ### is_row -/
abbrev ps_is_row : List Str := [("thing" : Str)]
abbrev N_is_row : List Str := [("thing" : Str)]
theorem sc_is_row : FnScope N_is_row ps_is_row (defScope s_is_row) := ⟨rfl, rfl, rfl, by decide +kernel, rfl, by decide +kernel, by decide +kernel⟩
def m_is_row : SM := (sRet (mC1 (isiT2 "list" "tuple") (mSl 0)))
def f_is_row : FM := fnOf N_is_row.length m_is_row
theorem ok_is_row (T : Fx K mg) : FnOk P w K mg base (L2.CX P w) 1 T.f_is_row T.fd_is_row ps_is_row (spM K mg ps_is_row.length f_is_row) := by
  unfold f_is_row
  exact fn_ok (m := m_is_row) T.F_is_row sc_is_row (by decide) fun cdv A outer s H E c W hr hK hM tk hp => by
    have nd := sc_is_row.nd
    exact (dss_one (ds_ret (de_isi2 (T := "list") (U := "tuple") hK (by rfl) T.z_isinstance (by decide +kernel) (by rfl) T.z_list (by decide +kernel) (by rfl) T.z_tuple (by decide +kernel) (dh_sl 0))))
theorem b_is_row (T : Fx K mg) : Binds K T.fd_is_row ps_is_row [] := T.F_is_row.binds (ps := ps_is_row) fun _ _ _ _ _ _ us hl => match us, hl with | [_], _ => rfl
/-! ### is_number -/
abbrev ps_is_number : List Str := [("thing" : Str), ("least" : Str), ("most" : Str)]
abbrev N_is_number : List Str := [("thing" : Str), ("least" : Str), ("most" : Str)]
theorem sc_is_number : FnScope N_is_number ps_is_number (defScope s_is_number) := ⟨rfl, rfl, rfl, by decide +kernel, rfl, by decide +kernel, by decide +kernel⟩
def m_is_number : SM := (sRet (mAndV (mCall ps_is_integer.length f_is_integer (agV (mVar 0) (ret []))) (mChain fLe fLe (mSl 1) (mSl 0) (mSl 2))))
def f_is_number : FM := fnOf N_is_number.length m_is_number
theorem ok_is_number (T : Fx K mg) : FnOk P w K mg base (L2.CX P w) 2 T.f_is_number T.fd_is_number ps_is_number (spM K mg ps_is_number.length f_is_number) := by
  unfold f_is_number
  exact fn_ok (m := m_is_number) T.F_is_number sc_is_number (by decide) fun cdv A outer s H E c W hr hK hM tk hp => by
    have nd := sc_is_number.nd
    exact (dss_one (ds_ret (de_and (de_call hK hM (ok_is_integer T) (hr.mono (by decide)) tk (by rfl) T.g_is_integer T.F_is_integer.kp (b_is_integer T) (dag_v (de_var 0) dag_nil)) (de_one (de_chain op_le op_le ops_le ops_le (dh_sl 1) (dh_sl 0) (dh_sl 2))))))
theorem b_is_number (T : Fx K mg) : Binds K T.fd_is_number ps_is_number [] := T.F_is_number.binds (ps := ps_is_number) fun _ _ _ _ _ _ us hl => match us, hl with | [_, _, _], _ => rfl
/-! ### check_samples -/
abbrev ps_check_samples : List Str := [("samples" : Str), ("hold" : Str)]
abbrev N_check_samples : List Str := [("samples" : Str), ("hold" : Str), ("place" : Str), ("one" : Str)]
theorem sc_check_samples : FnScope N_check_samples ps_check_samples (defScope s_check_samples) := ⟨rfl, rfl, rfl, by decide +kernel, rfl, by decide +kernel, by decide +kernel⟩
def m_check_samples : SM := (sq (sIf (mNot (asB (mCall ps_is_row.length f_is_row (agV (mVar 0) (ret []))))) (sRaise "BadSamples" ["place"] (mCons (ret .non) (ret []))) nop) (sq (sFor (mEnS (mVar 0)) (gT 2 (gCons' (gN 2) (gCons' (gN 3) gNil'))) (sIf (mNot (asB (mC1 (fIsi "bool") (mSl 3)))) (sRaise "BadSamples" ["place"] (mCons (mVar 2) (ret []))) nop)) (sIf (mNot (asB (mCall ps_is_number.length f_is_number (agV (mVar 1) (agV (ret (.int 1)) (agV (ret (.int 9)) (ret []))))))) (sRaise0 "BadHold") nop)))
def f_check_samples : FM := fnOf N_check_samples.length m_check_samples
theorem ok_check_samples (T : Fx K mg) : FnOk P w K mg base (L2.CX P w) 3 T.f_check_samples T.fd_check_samples ps_check_samples (spM K mg ps_check_samples.length f_check_samples) := by
  unfold f_check_samples
  exact fn_ok (m := m_check_samples) T.F_check_samples sc_check_samples (by decide) fun cdv A outer s H E c W hr hK hM tk hp => by
    have nd := sc_check_samples.nd
    exact (dss_cons (ds_if (dt_not (dt_val (de_call hK hM (ok_is_row T) (hr.mono (by decide)) tk (by rfl) T.g_is_row T.F_is_row.kp (b_is_row T) (dag_v (de_var 0) dag_nil)))) (dss_one (ds_raise hM rfl tk T.o_BadSamples T.i_BadSamples T.ti_BadSamples (ini_BadSamples T) (hr.mono (by decide)) (bi_BadSamples T) passes0 (by rfl) T.g_BadSamples (da_cons de_non da_nil))) dss_nil) (dss_cons (ds_for hp rfl (di_enumS hK (by rfl) T.z_enumerate (de_var 0)) (dg_tup hK rfl (dgs_cons (dg_name (i := 2) nd rfl (.inl rfl)) (dgs_cons (dg_name (i := 3) nd rfl (.inl rfl)) dgs_nil))) (dss_one (ds_if (dt_not (dt_val (de_isi (T := "bool") hK (by rfl) T.z_isinstance (by decide +kernel) (by rfl) T.z_bool (by decide +kernel) (dh_sl 3)))) (dss_one (ds_raise hM rfl tk T.o_BadSamples T.i_BadSamples T.ti_BadSamples (ini_BadSamples T) (hr.mono (by decide)) (bi_BadSamples T) passes0 (by rfl) T.g_BadSamples (da_cons (de_var 2) da_nil))) dss_nil))) (dss_one (ds_if (dt_not (dt_val (de_call hK hM (ok_is_number T) (hr.mono (by decide)) tk (by rfl) T.g_is_number T.F_is_number.kp (b_is_number T) (dag_v (de_var 1) (dag_v de_int (dag_v de_int dag_nil)))))) (dss_one (ds_raise0 hM rfl tk PySem.F.excBase_ValueError T.x_BadHold T.g_BadHold T.k_BadHold (raises_own T.e_BadHold T.t_BadHold) (by rfl))) dss_nil))))
theorem b_check_samples (T : Fx K mg) : Binds K T.fd_check_samples ps_check_samples [] := T.F_check_samples.binds (ps := ps_check_samples) fun _ _ _ _ _ _ us hl => match us, hl with | [_, _], _ => rfl
/-! ### cleaned -/
abbrev ps_cleaned : List Str := [("samples" : Str), ("hold" : Str)]
abbrev N_cleaned : List Str := [("samples" : Str), ("hold" : Str), ("found" : Str), ("now" : Str), ("run" : Str), ("one" : Str)]
theorem sc_cleaned : FnScope N_cleaned ps_cleaned (defScope s_cleaned) := ⟨rfl, rfl, rfl, by decide +kernel, rfl, by decide +kernel, by decide +kernel⟩
def m_cleaned : SM := (sq (sExpr (mCall ps_check_samples.length f_check_samples (agV (mVar 0) (agV (mVar 1) (ret []))))) (sq (sPar [2, 3, 4] (xN (mLst (ret [])) (xV (ret (.bl false)) (xV (ret (.int 0)) (ret []))))) (sq (sFor (mIs (mVar 0)) (gN 5) (sq (sSet 4 (mIf (asB (mB fNe (mSl 5) (mSl 3))) (mB fAdd (mSl 4) (mV (ret (.int 1)))) (ret (.int 0)))) (sq (sIf (asB (mB fEq (mSl 4) (mSl 1))) (sPar [3, 4] (xV (mVar 5) (xV (ret (.int 0)) (ret [])))) nop) (sApp 2 (mVar 3))))) (sRet (mVar 2)))))
def f_cleaned : FM := fnOf N_cleaned.length m_cleaned
theorem ok_cleaned (T : Fx K mg) : FnOk P w K mg base (L2.CX P w) 4 T.f_cleaned T.fd_cleaned ps_cleaned (spM K mg ps_cleaned.length f_cleaned) := by
  unfold f_cleaned
  exact fn_ok (m := m_cleaned) T.F_cleaned sc_cleaned (by decide) fun cdv A outer s H E c W hr hK hM tk hp => by
    have nd := sc_cleaned.nd
    exact (dss_cons (ds_expr (de_call hK hM (ok_check_samples T) (hr.mono (by decide)) tk (by rfl) T.g_check_samples T.F_check_samples.kp (b_check_samples T) (dag_v (de_var 0) (dag_v (de_var 1) dag_nil)))) (dss_cons (ds_par3 (i := 2) (j := 3) (l := 4) rfl nd rfl rfl rfl (by decide) (by decide) (by decide) rfl rfl rfl (dx_n (dn_lst da_nil) (fun _ => (dx_v de_bl (dx_v de_int dx_nil)))) (by rfl)) (dss_cons (ds_for hp rfl (di_seq hK (de_var 0)) (dg_name (i := 5) nd rfl (.inl rfl)) (dss_cons (ds_set (i := 4) nd rfl (.inl rfl) (de_if (dt_cmp (op_neD hr.units) (opsK_ne hK) (dh_sl 5) (dh_sl 3) (nomark _)) (de_op op_add ops_add (dh_sl 4) (dh_de de_int)) de_int)) (dss_cons (ds_if (dt_cmp (op_eqD hr.units) (opsK_eq hK) (dh_sl 4) (dh_sl 1) (nomark _)) (dss_one (ds_par2 (i := 3) (j := 4) rfl nd rfl rfl (by decide) rfl rfl (dx_v (de_var 5) (dx_v de_int dx_nil)) (by rfl))) dss_nil) (dss_one (ds_app 2 (de_var 3)))))) (dss_one (ds_ret (de_var 2))))))
theorem b_cleaned (T : Fx K mg) : Binds K T.fd_cleaned ps_cleaned [] := T.F_cleaned.binds (ps := ps_cleaned) fun _ _ _ _ _ _ us hl => match us, hl with | [_, _], _ => rfl
/-! ### changes -/
abbrev ps_changes : List Str := [("samples" : Str), ("hold" : Str)]
abbrev N_changes : List Str := [("samples" : Str), ("hold" : Str), ("found" : Str), ("before" : Str), ("tick" : Str), ("one" : Str)]
theorem sc_changes : FnScope N_changes ps_changes (defScope s_changes) := ⟨rfl, rfl, rfl, by decide +kernel, rfl, by decide +kernel, by decide +kernel⟩
def m_changes : SM := (sq (sPar [2, 3] (xN (mLst (ret [])) (xV (ret (.bl false)) (ret [])))) (sq (sFor (mEnS (mCall ps_cleaned.length f_cleaned (agV (mVar 0) (agV (mVar 1) (ret []))))) (gT 2 (gCons' (gN 4) (gCons' (gN 5) gNil'))) (sq (sIf (asB (mB fNe (mSl 5) (mSl 3))) (sApp 2 (mTup (mCons (mVar 4) (mCons (mIf (mTru (mSl 5)) (ret (.str "down")) (ret (.str "up"))) (ret []))))) nop) (sSet 3 (mVar 5)))) (sRet (mVar 2))))
def f_changes : FM := fnOf N_changes.length m_changes
theorem ok_changes (T : Fx K mg) : FnOk P w K mg base (L2.CX P w) 5 T.f_changes T.fd_changes ps_changes (spM K mg ps_changes.length f_changes) := by
  unfold f_changes
  exact fn_ok (m := m_changes) T.F_changes sc_changes (by decide) fun cdv A outer s H E c W hr hK hM tk hp => by
    have nd := sc_changes.nd
    exact (dss_cons (ds_par2 (i := 2) (j := 3) rfl nd rfl rfl (by decide) rfl rfl (dx_n (dn_lst da_nil) (fun _ => (dx_v de_bl dx_nil))) (by rfl)) (dss_cons (ds_for hp rfl (di_enumS hK (by rfl) T.z_enumerate (de_call hK hM (ok_cleaned T) (hr.mono (by decide)) tk (by rfl) T.g_cleaned T.F_cleaned.kp (b_cleaned T) (dag_v (de_var 0) (dag_v (de_var 1) dag_nil)))) (dg_tup hK rfl (dgs_cons (dg_name (i := 4) nd rfl (.inl rfl)) (dgs_cons (dg_name (i := 5) nd rfl (.inl rfl)) dgs_nil))) (dss_cons (ds_if (dt_cmp (op_neD hr.units) (opsK_ne hK) (dh_sl 5) (dh_sl 3) (nomark _)) (dss_one (ds_app 2 (de_tup (da_cons (de_var 4) (da_cons (de_if (dt_tru hK (dh_sl 5)) de_str de_str) da_nil))))) dss_nil) (dss_one (ds_set (i := 3) nd rfl (.inl rfl) (de_var 5))))) (dss_one (ds_ret (de_var 2)))))
theorem b_changes (T : Fx K mg) : Binds K T.fd_changes ps_changes [] := T.F_changes.binds (ps := ps_changes) fun _ _ _ _ _ _ us hl => match us, hl with | [_, _], _ => rfl
/-! ### runs_of -/
abbrev ps_runs_of : List Str := [("samples" : Str)]
abbrev N_runs_of : List Str := [("samples" : Str), ("found" : Str), ("one" : Str)]
theorem sc_runs_of : FnScope N_runs_of ps_runs_of (defScope s_runs_of) := ⟨rfl, rfl, rfl, by decide +kernel, rfl, by decide +kernel, by decide +kernel⟩
def m_runs_of : SM := (sq (sExpr (mCall ps_check_samples.length f_check_samples (agV (mVar 0) (agV (ret (.int 1)) (ret []))))) (sq (sOwn 1 (mLst (ret []))) (sq (sFor (mIs (mVar 0)) (gN 2) (sIf (mAnd (asB (mB fNe (mSl 1) (mV (mLst (ret []))))) (asB (mB fEq (mV (mB fIx (mV (mB fIx (mSl 1) (mV (mNeg (ret (.int 1)))))) (mV (ret (.int 0))))) (mSl 2)))) (sPut 1 (mNeg (ret (.int 1))) (mTup (mCons (mVar 2) (mCons (mB fAdd (mV (mB fIx (mV (mB fIx (mSl 1) (mV (mNeg (ret (.int 1)))))) (mV (ret (.int 1))))) (mV (ret (.int 1)))) (ret []))))) (sApp 1 (mTup (mCons (mVar 2) (mCons (ret (.int 1)) (ret []))))))) (sRet (mVar 1)))))
def f_runs_of : FM := fnOf N_runs_of.length m_runs_of
theorem ok_runs_of (T : Fx K mg) : FnOk P w K mg base (L2.CX P w) 4 T.f_runs_of T.fd_runs_of ps_runs_of (spM K mg ps_runs_of.length f_runs_of) := by
  unfold f_runs_of
  exact fn_ok (m := m_runs_of) T.F_runs_of sc_runs_of (by decide) fun cdv A outer s H E c W hr hK hM tk hp => by
    have nd := sc_runs_of.nd
    exact (dss_cons (ds_expr (de_call hK hM (ok_check_samples T) (hr.mono (by decide)) tk (by rfl) T.g_check_samples T.F_check_samples.kp (b_check_samples T) (dag_v (de_var 0) (dag_v de_int dag_nil)))) (dss_cons (ds_own (i := 1) nd rfl (.inl rfl) (dn_lst da_nil)) (dss_cons (ds_for hp rfl (di_seq hK (de_var 0)) (dg_name (i := 2) nd rfl (.inl rfl)) (dss_one (ds_if (dt_bool (dw_and (dt_cmp (op_neD hr.units) (opsK_ne hK) (dh_sl 1) (dh_de (DN.de (dn_lst da_nil))) (nomark _)) (dw_and1 (dt_cmp (op_eqD hr.units) (opsK_eq hK) (dh_de (de_ix hK (dh_de (de_ix hK (dh_sl 1) (dh_de (de_neg de_int)))) (dh_de de_int))) (dh_sl 2) (nomark _))))) (dss_one (ds_put 1 (de_neg de_int) (de_tup (da_cons (de_var 2) (da_cons (de_op op_add ops_add (dh_de (de_ix hK (dh_de (de_ix hK (dh_sl 1) (dh_de (de_neg de_int)))) (dh_de de_int))) (dh_de de_int)) da_nil))))) (dss_one (ds_app 1 (de_tup (da_cons (de_var 2) (da_cons de_int da_nil)))))))) (dss_one (ds_ret (de_var 1))))))
theorem b_runs_of (T : Fx K mg) : Binds K T.fd_runs_of ps_runs_of [] := T.F_runs_of.binds (ps := ps_runs_of) fun _ _ _ _ _ _ us hl => match us, hl with | [_], _ => rfl
/-! ### longest_noise -/
abbrev ps_longest_noise : List Str := [("samples" : Str), ("hold" : Str)]
abbrev N_longest_noise : List Str := [("samples" : Str), ("hold" : Str), ("best" : Str), ("run" : Str), ("one" : Str), ("now" : Str)]
theorem sc_longest_noise : FnScope N_longest_noise ps_longest_noise (defScope s_longest_noise) := ⟨rfl, rfl, rfl, by decide +kernel, rfl, by decide +kernel, by decide +kernel⟩
def m_longest_noise : SM := (sq (sPar [2, 3] (xV (ret (.int 0)) (xV (ret (.int 0)) (ret [])))) (sq (sFor (mZip (mVar 0) (mCall ps_cleaned.length f_cleaned (agV (mVar 0) (agV (mVar 1) (ret []))))) (gT 2 (gCons' (gN 4) (gCons' (gN 5) gNil'))) (sq (sSet 3 (mIf (asB (mB fNe (mSl 4) (mSl 5))) (mB fAdd (mSl 3) (mV (ret (.int 1)))) (ret (.int 0)))) (sSet 2 (mB fMax (mSl 2) (mSl 3))))) (sRet (mVar 2))))
def f_longest_noise : FM := fnOf N_longest_noise.length m_longest_noise
theorem ok_longest_noise (T : Fx K mg) : FnOk P w K mg base (L2.CX P w) 5 T.f_longest_noise T.fd_longest_noise ps_longest_noise (spM K mg ps_longest_noise.length f_longest_noise) := by
  unfold f_longest_noise
  exact fn_ok (m := m_longest_noise) T.F_longest_noise sc_longest_noise (by decide) fun cdv A outer s H E c W hr hK hM tk hp => by
    have nd := sc_longest_noise.nd
    exact (dss_cons (ds_parT (is := [2, 3]) hK rfl (dx_v de_int (dx_v de_int dx_nil)) (pgs_cons (pg_name (i := 2) nd rfl (.inl rfl)) (pgs_cons (pg_name (i := 3) nd rfl (.inl rfl)) pgs_nil))) (dss_cons (ds_for hp rfl (di_zip hK (by rfl) T.z_zip (de_var 0) (de_call hK hM (ok_cleaned T) (hr.mono (by decide)) tk (by rfl) T.g_cleaned T.F_cleaned.kp (b_cleaned T) (dag_v (de_var 0) (dag_v (de_var 1) dag_nil)))) (dg_tup hK rfl (dgs_cons (dg_name (i := 4) nd rfl (.inl rfl)) (dgs_cons (dg_name (i := 5) nd rfl (.inl rfl)) dgs_nil))) (dss_cons (ds_set (i := 3) nd rfl (.inl rfl) (de_if (dt_cmp (op_neD hr.units) (opsK_ne hK) (dh_sl 4) (dh_sl 5) (nomark _)) (de_op op_add ops_add (dh_sl 3) (dh_de de_int)) de_int)) (dss_one (ds_set (i := 2) nd rfl (.inl rfl) (de_callB2 (call_max2 rfl) cal2_max (by rfl) T.z_max (by decide +kernel) (dh_sl 2) (dh_sl 3)))))) (dss_one (ds_ret (de_var 2)))))
theorem b_longest_noise (T : Fx K mg) : Binds K T.fd_longest_noise ps_longest_noise [] := T.F_longest_noise.binds (ps := ps_longest_noise) fun _ _ _ _ _ _ us hl => match us, hl with | [_, _], _ => rfl
/-! ### least_hold -/
abbrev ps_least_hold : List Str := [("samples" : Str), ("many" : Str)]
abbrev N_least_hold : List Str := [("samples" : Str), ("many" : Str), ("hold" : Str)]
theorem sc_least_hold : FnScope N_least_hold ps_least_hold (defScope s_least_hold) := ⟨rfl, rfl, rfl, by decide +kernel, rfl, by decide +kernel, by decide +kernel⟩
def m_least_hold : SM := (sq (sExpr (mCall ps_check_samples.length f_check_samples (agV (mVar 0) (agV (ret (.int 1)) (ret []))))) (sq (sIf (mNot (asB (mCall ps_is_number.length f_is_number (agV (mVar 1) (agV (ret (.int 0)) (agV (ret (.int 999)) (ret []))))))) (sRaise0 "BadHold") nop) (sq (sFor (mR2 (ret (.int 1)) (ret (.int 10))) (gN 2) (sIf (asB (mB fLe (mV (mC1 fLen (mV (mCall ps_changes.length f_changes (agV (mVar 0) (agV (mVar 2) (ret []))))))) (mSl 1))) (sRet (mVar 2)) nop)) (sRet (ret .non)))))
def f_least_hold : FM := fnOf N_least_hold.length m_least_hold
theorem ok_least_hold (T : Fx K mg) : FnOk P w K mg base (L2.CX P w) 6 T.f_least_hold T.fd_least_hold ps_least_hold (spM K mg ps_least_hold.length f_least_hold) := by
  unfold f_least_hold
  exact fn_ok (m := m_least_hold) T.F_least_hold sc_least_hold (by decide) fun cdv A outer s H E c W hr hK hM tk hp => by
    have nd := sc_least_hold.nd
    exact (dss_cons (ds_expr (de_call hK hM (ok_check_samples T) (hr.mono (by decide)) tk (by rfl) T.g_check_samples T.F_check_samples.kp (b_check_samples T) (dag_v (de_var 0) (dag_v de_int dag_nil)))) (dss_cons (ds_if (dt_not (dt_val (de_call hK hM (ok_is_number T) (hr.mono (by decide)) tk (by rfl) T.g_is_number T.F_is_number.kp (b_is_number T) (dag_v (de_var 1) (dag_v de_int (dag_v de_int dag_nil)))))) (dss_one (ds_raise0 hM rfl tk PySem.F.excBase_ValueError T.x_BadHold T.g_BadHold T.k_BadHold (raises_own T.e_BadHold T.t_BadHold) (by rfl))) dss_nil) (dss_cons (ds_for hp rfl (di_r2 (by rfl) T.z_range de_int de_int) (dg_name (i := 2) nd rfl (.inl rfl)) (dss_one (ds_if (dt_cmp op_le ops_le (dh_de (de_callB call_len' (calsK_len hK) (by rfl) T.z_len PySem.boot_len (dh_de (de_call hK hM (ok_changes T) (hr.mono (by decide)) tk (by rfl) T.g_changes T.F_changes.kp (b_changes T) (dag_v (de_var 0) (dag_v (de_var 2) dag_nil)))))) (dh_sl 1) (nomark _)) (dss_one (ds_ret (de_var 2))) dss_nil))) (dss_one (ds_ret de_non)))))
theorem b_least_hold (T : Fx K mg) : Binds K T.fd_least_hold ps_least_hold [] := T.F_least_hold.binds (ps := ps_least_hold) fun _ _ _ _ _ _ us hl => match us, hl with | [_, _], _ => rfl
/-! ### same_events -/
abbrev ps_same_events : List Str := [("one" : Str), ("other" : Str), ("hold" : Str)]
abbrev N_same_events : List Str := [("one" : Str), ("other" : Str), ("hold" : Str), ("mine" : Str), ("theirs" : Str), ("tick" : Str), ("word" : Str)]
theorem sc_same_events : FnScope N_same_events ps_same_events (defScope s_same_events) := ⟨rfl, rfl, rfl, by decide +kernel, rfl, by decide +kernel, by decide +kernel⟩
def m_same_events : SM := (sq (sPar [3, 4] (xV (mCall ps_changes.length f_changes (agV (mVar 0) (agV (mVar 2) (ret [])))) (xV (mCall ps_changes.length f_changes (agV (mVar 1) (agV (mVar 2) (ret [])))) (ret [])))) (sRet (mB fEq (mV (mLc (mIs (mVar 3)) [5, 6] (gT 2 (gCons' (gN 5) (gCons' (gN 6) gNil'))) (ret true) (mVar 6))) (mV (mLc (mIs (mVar 4)) [5, 6] (gT 2 (gCons' (gN 5) (gCons' (gN 6) gNil'))) (ret true) (mVar 6))))))
def f_same_events : FM := fnOf N_same_events.length m_same_events
theorem ok_same_events (T : Fx K mg) : FnOk P w K mg base (L2.CX P w) 6 T.f_same_events T.fd_same_events ps_same_events (spM K mg ps_same_events.length f_same_events) := by
  unfold f_same_events
  exact fn_ok (m := m_same_events) T.F_same_events sc_same_events (by decide) fun cdv A outer s H E c W hr hK hM tk hp => by
    have nd := sc_same_events.nd
    exact (dss_cons (ds_par2 (i := 3) (j := 4) rfl nd rfl rfl (by decide) rfl rfl (dx_v (de_call hK hM (ok_changes T) (hr.mono (by decide)) tk (by rfl) T.g_changes T.F_changes.kp (b_changes T) (dag_v (de_var 0) (dag_v (de_var 2) dag_nil))) (dx_v (de_call hK hM (ok_changes T) (hr.mono (by decide)) tk (by rfl) T.g_changes T.F_changes.kp (b_changes T) (dag_v (de_var 1) (dag_v (de_var 2) dag_nil))) dx_nil)) (by rfl)) (dss_one (ds_ret (de_cmp (op_eqD hr.units) (opsK_eq hK) (dh_de (DN.de (dn_lcj [(("tick" : Str), 5), (("word" : Str), 6)] rfl nd (di_seq hK (de_var 3)) (blkOk_by (N := N_same_events) (sc := defScope s_same_events) (by decide +kernel)) (fun _ _ _ _ _ _ => (dg_tup hK rfl (dgs_cons (dg_name (i := 5) nd rfl (.inl rfl)) (dgs_cons (dg_name (i := 6) nd rfl (.inl rfl)) dgs_nil)))) (fun _ _ _ _ _ _ => dts_nil) (fun _ _ _ _ _ _ => (de_var 6))))) (dh_de (DN.de (dn_lcj [(("tick" : Str), 5), (("word" : Str), 6)] rfl nd (di_seq hK (de_var 4)) (blkOk_by (N := N_same_events) (sc := defScope s_same_events) (by decide +kernel)) (fun _ _ _ _ _ _ => (dg_tup hK rfl (dgs_cons (dg_name (i := 5) nd rfl (.inl rfl)) (dgs_cons (dg_name (i := 6) nd rfl (.inl rfl)) dgs_nil)))) (fun _ _ _ _ _ _ => dts_nil) (fun _ _ _ _ _ _ => (de_var 6))))) (nomark _)))))
theorem b_same_events (T : Fx K mg) : Binds K T.fd_same_events ps_same_events [] := T.F_same_events.binds (ps := ps_same_events) fun _ _ _ _ _ _ us hl => match us, hl with | [_, _, _], _ => rfl
/-! ### same_words -/
abbrev ps_same_words : List Str := [("samples" : Str), ("clean" : Str), ("hold" : Str)]
abbrev N_same_words : List Str := [("samples" : Str), ("clean" : Str), ("hold" : Str), ("tick" : Str), ("word" : Str)]
theorem sc_same_words : FnScope N_same_words ps_same_words (defScope s_same_words) := ⟨rfl, rfl, rfl, by decide +kernel, rfl, by decide +kernel, by decide +kernel⟩
def m_same_words : SM := (sRet (mB fEq (mV (mLc (mIs (mCall ps_changes.length f_changes (agV (mVar 0) (agV (mVar 2) (ret []))))) [3, 4] (gT 2 (gCons' (gN 3) (gCons' (gN 4) gNil'))) (ret true) (mVar 4))) (mV (mLc (mIs (mCall ps_changes.length f_changes (agV (mVar 1) (agV (ret (.int 1)) (ret []))))) [3, 4] (gT 2 (gCons' (gN 3) (gCons' (gN 4) gNil'))) (ret true) (mVar 4)))))
def f_same_words : FM := fnOf N_same_words.length m_same_words
theorem ok_same_words (T : Fx K mg) : FnOk P w K mg base (L2.CX P w) 6 T.f_same_words T.fd_same_words ps_same_words (spM K mg ps_same_words.length f_same_words) := by
  unfold f_same_words
  exact fn_ok (m := m_same_words) T.F_same_words sc_same_words (by decide) fun cdv A outer s H E c W hr hK hM tk hp => by
    have nd := sc_same_words.nd
    exact (dss_one (ds_ret (de_cmp (op_eqD hr.units) (opsK_eq hK) (dh_de (DN.de (dn_lcj [(("tick" : Str), 3), (("word" : Str), 4)] rfl nd (di_seq hK (de_call hK hM (ok_changes T) (hr.mono (by decide)) tk (by rfl) T.g_changes T.F_changes.kp (b_changes T) (dag_v (de_var 0) (dag_v (de_var 2) dag_nil)))) (blkOk_by (N := N_same_words) (sc := defScope s_same_words) (by decide +kernel)) (fun _ _ _ _ _ _ => (dg_tup hK rfl (dgs_cons (dg_name (i := 3) nd rfl (.inl rfl)) (dgs_cons (dg_name (i := 4) nd rfl (.inl rfl)) dgs_nil)))) (fun _ _ _ _ _ _ => dts_nil) (fun _ _ _ _ _ _ => (de_var 4))))) (dh_de (DN.de (dn_lcj [(("tick" : Str), 3), (("word" : Str), 4)] rfl nd (di_seq hK (de_call hK hM (ok_changes T) (hr.mono (by decide)) tk (by rfl) T.g_changes T.F_changes.kp (b_changes T) (dag_v (de_var 1) (dag_v de_int dag_nil)))) (blkOk_by (N := N_same_words) (sc := defScope s_same_words) (by decide +kernel)) (fun _ _ _ _ _ _ => (dg_tup hK rfl (dgs_cons (dg_name (i := 3) nd rfl (.inl rfl)) (dgs_cons (dg_name (i := 4) nd rfl (.inl rfl)) dgs_nil)))) (fun _ _ _ _ _ _ => dts_nil) (fun _ _ _ _ _ _ => (de_var 4))))) (nomark _))))
theorem b_same_words (T : Fx K mg) : Binds K T.fd_same_words ps_same_words [] := T.F_same_words.binds (ps := ps_same_words) fun _ _ _ _ _ _ us hl => match us, hl with | [_, _, _], _ => rfl
/-! ### delays -/
abbrev ps_delays : List Str := [("samples" : Str), ("clean" : Str), ("hold" : Str)]
abbrev N_delays : List Str := [("samples" : Str), ("clean" : Str), ("hold" : Str), ("told" : Str), ("one" : Str), ("late" : Str)]
theorem sc_delays : FnScope N_delays ps_delays (defScope s_delays) := ⟨rfl, rfl, rfl, by decide +kernel, rfl, by decide +kernel, by decide +kernel⟩
def m_delays : SM := (sq (sExpr (mCall ps_check_samples.length f_check_samples (agV (mVar 1) (agV (mVar 2) (ret []))))) (sq (sIf (mNot (asB (mCall ps_same_words.length f_same_words (agV (mVar 0) (agV (mVar 1) (agV (mVar 2) (ret []))))))) (sRet (ret .non)) nop) (sq (sSet 3 (mCall ps_changes.length f_changes (agV (mVar 1) (agV (ret (.int 1)) (ret []))))) (sRet (mLc (mZip (mVar 3) (mCall ps_changes.length f_changes (agV (mVar 0) (agV (mVar 2) (ret []))))) [4, 5] (gT 2 (gCons' (gN 4) (gCons' (gN 5) gNil'))) (ret true) (mB fSub (mV (mB fIx (mSl 5) (mV (ret (.int 0))))) (mV (mB fIx (mSl 4) (mV (ret (.int 0)))))))))))
def f_delays : FM := fnOf N_delays.length m_delays
theorem ok_delays (T : Fx K mg) : FnOk P w K mg base (L2.CX P w) 7 T.f_delays T.fd_delays ps_delays (spM K mg ps_delays.length f_delays) := by
  unfold f_delays
  exact fn_ok (m := m_delays) T.F_delays sc_delays (by decide) fun cdv A outer s H E c W hr hK hM tk hp => by
    have nd := sc_delays.nd
    exact (dss_cons (ds_expr (de_call hK hM (ok_check_samples T) (hr.mono (by decide)) tk (by rfl) T.g_check_samples T.F_check_samples.kp (b_check_samples T) (dag_v (de_var 1) (dag_v (de_var 2) dag_nil)))) (dss_cons (ds_if (dt_not (dt_val (de_call hK hM (ok_same_words T) (hr.mono (by decide)) tk (by rfl) T.g_same_words T.F_same_words.kp (b_same_words T) (dag_v (de_var 0) (dag_v (de_var 1) (dag_v (de_var 2) dag_nil)))))) (dss_one (ds_ret de_non)) dss_nil) (dss_cons (ds_set (i := 3) nd rfl (.inl rfl) (de_call hK hM (ok_changes T) (hr.mono (by decide)) tk (by rfl) T.g_changes T.F_changes.kp (b_changes T) (dag_v (de_var 1) (dag_v de_int dag_nil)))) (dss_one (ds_ret (DN.de (dn_lcj [(("one" : Str), 4), (("late" : Str), 5)] rfl nd (di_zip hK (by rfl) T.z_zip (de_var 3) (de_call hK hM (ok_changes T) (hr.mono (by decide)) tk (by rfl) T.g_changes T.F_changes.kp (b_changes T) (dag_v (de_var 0) (dag_v (de_var 2) dag_nil)))) (blkOk_by (N := N_delays) (sc := defScope s_delays) (by decide +kernel)) (fun _ _ _ _ _ _ => (dg_tup hK rfl (dgs_cons (dg_name (i := 4) nd rfl (.inl rfl)) (dgs_cons (dg_name (i := 5) nd rfl (.inl rfl)) dgs_nil)))) (fun _ _ _ _ _ _ => dts_nil) (fun _ _ _ _ _ _ => (de_op op_sub ops_sub (dh_de (de_ix hK (dh_sl 5) (dh_de de_int))) (dh_de (de_ix hK (dh_sl 4) (dh_de de_int))))))))))))
theorem b_delays (T : Fx K mg) : Binds K T.fd_delays ps_delays [] := T.F_delays.binds (ps := ps_delays) fun _ _ _ _ _ _ us hl => match us, hl with | [_, _, _], _ => rfl
/-! ### repeats -/
abbrev ps_repeats : List Str := [("samples" : Str), ("delay" : Str), ("every" : Str)]
abbrev N_repeats : List Str := [("samples" : Str), ("delay" : Str), ("every" : Str), ("found" : Str), ("since" : Str), ("tick" : Str), ("one" : Str)]
theorem sc_repeats : FnScope N_repeats ps_repeats (defScope s_repeats) := ⟨rfl, rfl, rfl, by decide +kernel, rfl, by decide +kernel, by decide +kernel⟩
def m_repeats : SM := (sq (sExpr (mCall ps_check_samples.length f_check_samples (agV (mVar 0) (agV (ret (.int 1)) (ret []))))) (sq (sIf (mOr (mNot (asB (mCall ps_is_number.length f_is_number (agV (mVar 1) (agV (ret (.int 1)) (agV (ret (.int 99)) (ret []))))))) (mNot (asB (mCall ps_is_number.length f_is_number (agV (mVar 2) (agV (ret (.int 1)) (agV (ret (.int 99)) (ret [])))))))) (sRaise0 "BadHold") nop) (sq (sPar [3, 4] (xN (mLst (ret [])) (xV (ret .non) (ret [])))) (sq (sFor (mEnS (mVar 0)) (gT 2 (gCons' (gN 5) (gCons' (gN 6) gNil'))) (sq (sIf (mNot (mTru (mSl 6))) (sq (sSet 4 (ret .non)) (fun st => .ct st)) nop) (sq (sSet 4 (mIf (asB (mB fIsN (mSl 4) (mV (ret .non)))) (ret (.int 0)) (mB fAdd (mSl 4) (mV (ret (.int 1)))))) (sIf (mOr (asB (mB fEq (mSl 4) (mV (ret (.int 0))))) (mAnd (asB (mB fGe (mSl 4) (mSl 1))) (asB (mB fEq (mV (mB fMod (mV (mB fSub (mSl 4) (mSl 1))) (mSl 2))) (mV (ret (.int 0))))))) (sApp 3 (mVar 5)) nop)))) (sRet (mVar 3))))))
def f_repeats : FM := fnOf N_repeats.length m_repeats
theorem ok_repeats (T : Fx K mg) : FnOk P w K mg base (L2.CX P w) 4 T.f_repeats T.fd_repeats ps_repeats (spM K mg ps_repeats.length f_repeats) := by
  unfold f_repeats
  exact fn_ok (m := m_repeats) T.F_repeats sc_repeats (by decide) fun cdv A outer s H E c W hr hK hM tk hp => by
    have nd := sc_repeats.nd
    exact (dss_cons (ds_expr (de_call hK hM (ok_check_samples T) (hr.mono (by decide)) tk (by rfl) T.g_check_samples T.F_check_samples.kp (b_check_samples T) (dag_v (de_var 0) (dag_v de_int dag_nil)))) (dss_cons (ds_if (dt_bool (dw_or (dt_not (dt_val (de_call hK hM (ok_is_number T) (hr.mono (by decide)) tk (by rfl) T.g_is_number T.F_is_number.kp (b_is_number T) (dag_v (de_var 1) (dag_v de_int (dag_v de_int dag_nil)))))) (dw_or1 (dt_not (dt_val (de_call hK hM (ok_is_number T) (hr.mono (by decide)) tk (by rfl) T.g_is_number T.F_is_number.kp (b_is_number T) (dag_v (de_var 2) (dag_v de_int (dag_v de_int dag_nil))))))))) (dss_one (ds_raise0 hM rfl tk PySem.F.excBase_ValueError T.x_BadHold T.g_BadHold T.k_BadHold (raises_own T.e_BadHold T.t_BadHold) (by rfl))) dss_nil) (dss_cons (ds_par2 (i := 3) (j := 4) rfl nd rfl rfl (by decide) rfl rfl (dx_n (dn_lst da_nil) (fun _ => (dx_v de_non dx_nil))) (by rfl)) (dss_cons (ds_for hp rfl (di_enumS hK (by rfl) T.z_enumerate (de_var 0)) (dg_tup hK rfl (dgs_cons (dg_name (i := 5) nd rfl (.inl rfl)) (dgs_cons (dg_name (i := 6) nd rfl (.inl rfl)) dgs_nil))) (dss_cons (ds_if (dt_not (dt_tru hK (dh_sl 6))) (dss_cons (ds_set (i := 4) nd rfl (.inl rfl) de_non) (dss_one ds_cont)) dss_nil) (dss_cons (ds_set (i := 4) nd rfl (.inl rfl) (de_if (dt_cmp op_isN ops_isN (dh_sl 4) (dh_de de_non) (nomark _)) de_int (de_op op_add ops_add (dh_sl 4) (dh_de de_int)))) (dss_one (ds_if (dt_bool (dw_or (dt_cmp (op_eqD hr.units) (opsK_eq hK) (dh_sl 4) (dh_de de_int) (nomark _)) (dw_or1 (dt_bool (dw_and (dt_cmp op_ge ops_ge (dh_sl 4) (dh_sl 1) (nomark _)) (dw_and1 (dt_cmp (op_eqD hr.units) (opsK_eq hK) (dh_de (de_op op_mod ops_mod (dh_de (de_op op_sub ops_sub (dh_sl 4) (dh_sl 1))) (dh_sl 2))) (dh_de de_int) (nomark _)))))))) (dss_one (ds_app 3 (de_var 5))) dss_nil))))) (dss_one (ds_ret (de_var 3)))))))
theorem b_repeats (T : Fx K mg) : Binds K T.fd_repeats ps_repeats [] := T.F_repeats.binds (ps := ps_repeats) fun _ _ _ _ _ _ us hl => match us, hl with | [_, _, _], _ => rfl
/-! ### count_repeats -/
abbrev ps_count_repeats : List Str := [("length" : Str), ("delay" : Str), ("every" : Str)]
abbrev N_count_repeats : List Str := [("length" : Str), ("delay" : Str), ("every" : Str)]
theorem sc_count_repeats : FnScope N_count_repeats ps_count_repeats (defScope s_count_repeats) := ⟨rfl, rfl, rfl, by decide +kernel, rfl, by decide +kernel, by decide +kernel⟩
def m_count_repeats : SM := (sq (sIf (mOr (mNot (asB (mCall ps_is_number.length f_is_number (agV (mVar 0) (agV (ret (.int 0)) (agV (ret (.int 9999)) (ret []))))))) (mOr (mNot (asB (mCall ps_is_number.length f_is_number (agV (mVar 1) (agV (ret (.int 1)) (agV (ret (.int 99)) (ret []))))))) (mNot (asB (mCall ps_is_number.length f_is_number (agV (mVar 2) (agV (ret (.int 1)) (agV (ret (.int 99)) (ret []))))))))) (sRaise0 "BadHold") nop) (sq (sIf (asB (mB fEq (mSl 0) (mV (ret (.int 0))))) (sRet (ret (.int 0))) nop) (sRet (mB fAdd (mV (ret (.int 1))) (mV (mIf (asB (mB fLe (mSl 0) (mSl 1))) (ret (.int 0)) (mB fAdd (mV (ret (.int 1))) (mV (mB fDiv (mV (mB fSub (mV (mB fSub (mSl 0) (mV (ret (.int 1))))) (mSl 1))) (mSl 2))))))))))
def f_count_repeats : FM := fnOf N_count_repeats.length m_count_repeats
theorem ok_count_repeats (T : Fx K mg) : FnOk P w K mg base (L2.CX P w) 3 T.f_count_repeats T.fd_count_repeats ps_count_repeats (spM K mg ps_count_repeats.length f_count_repeats) := by
  unfold f_count_repeats
  exact fn_ok (m := m_count_repeats) T.F_count_repeats sc_count_repeats (by decide) fun cdv A outer s H E c W hr hK hM tk hp => by
    have nd := sc_count_repeats.nd
    exact (dss_cons (ds_if (dt_bool (dw_or (dt_not (dt_val (de_call hK hM (ok_is_number T) (hr.mono (by decide)) tk (by rfl) T.g_is_number T.F_is_number.kp (b_is_number T) (dag_v (de_var 0) (dag_v de_int (dag_v de_int dag_nil)))))) (dw_or (dt_not (dt_val (de_call hK hM (ok_is_number T) (hr.mono (by decide)) tk (by rfl) T.g_is_number T.F_is_number.kp (b_is_number T) (dag_v (de_var 1) (dag_v de_int (dag_v de_int dag_nil)))))) (dw_or1 (dt_not (dt_val (de_call hK hM (ok_is_number T) (hr.mono (by decide)) tk (by rfl) T.g_is_number T.F_is_number.kp (b_is_number T) (dag_v (de_var 2) (dag_v de_int (dag_v de_int dag_nil)))))))))) (dss_one (ds_raise0 hM rfl tk PySem.F.excBase_ValueError T.x_BadHold T.g_BadHold T.k_BadHold (raises_own T.e_BadHold T.t_BadHold) (by rfl))) dss_nil) (dss_cons (ds_if (dt_cmp (op_eqD hr.units) (opsK_eq hK) (dh_sl 0) (dh_de de_int) (nomark _)) (dss_one (ds_ret de_int)) dss_nil) (dss_one (ds_ret (de_op op_add ops_add (dh_de de_int) (dh_de (de_if (dt_cmp op_le ops_le (dh_sl 0) (dh_sl 1) (nomark _)) de_int (de_op op_add ops_add (dh_de de_int) (dh_de (de_op op_fdiv ops_fdiv (dh_de (de_op op_sub ops_sub (dh_de (de_op op_sub ops_sub (dh_sl 0) (dh_de de_int))) (dh_sl 1))) (dh_sl 2)))))))))))
theorem b_count_repeats (T : Fx K mg) : Binds K T.fd_count_repeats ps_count_repeats [] := T.F_count_repeats.binds (ps := ps_count_repeats) fun _ _ _ _ _ _ us hl => match us, hl with | [_, _, _], _ => rfl
/-! ### lengths_for -/
abbrev ps_lengths_for : List Str := [("many" : Str), ("delay" : Str), ("every" : Str)]
abbrev N_lengths_for : List Str := [("many" : Str), ("delay" : Str), ("every" : Str), ("least" : Str)]
theorem sc_lengths_for : FnScope N_lengths_for ps_lengths_for (defScope s_lengths_for) := ⟨rfl, rfl, rfl, by decide +kernel, rfl, by decide +kernel, by decide +kernel⟩
def m_lengths_for : SM := (sq (sIf (mOr (mNot (asB (mCall ps_is_number.length f_is_number (agV (mVar 0) (agV (ret (.int 1)) (agV (ret (.int 99)) (ret []))))))) (mOr (mNot (asB (mCall ps_is_number.length f_is_number (agV (mVar 1) (agV (ret (.int 1)) (agV (ret (.int 99)) (ret []))))))) (mNot (asB (mCall ps_is_number.length f_is_number (agV (mVar 2) (agV (ret (.int 1)) (agV (ret (.int 99)) (ret []))))))))) (sRaise0 "BadHold") nop) (sq (sIf (asB (mB fEq (mSl 0) (mV (ret (.int 1))))) (sRet (mTup (mCons (ret (.int 1)) (mCons (mVar 1) (ret []))))) nop) (sq (sSet 3 (mB fAdd (mV (mB fAdd (mSl 1) (mV (ret (.int 1))))) (mV (mB fMul (mV (mB fSub (mSl 0) (mV (ret (.int 2))))) (mSl 2))))) (sRet (mTup (mCons (mVar 3) (mCons (mB fSub (mV (mB fAdd (mSl 3) (mSl 2))) (mV (ret (.int 1)))) (ret []))))))))
def f_lengths_for : FM := fnOf N_lengths_for.length m_lengths_for
theorem ok_lengths_for (T : Fx K mg) : FnOk P w K mg base (L2.CX P w) 3 T.f_lengths_for T.fd_lengths_for ps_lengths_for (spM K mg ps_lengths_for.length f_lengths_for) := by
  unfold f_lengths_for
  exact fn_ok (m := m_lengths_for) T.F_lengths_for sc_lengths_for (by decide) fun cdv A outer s H E c W hr hK hM tk hp => by
    have nd := sc_lengths_for.nd
    exact (dss_cons (ds_if (dt_bool (dw_or (dt_not (dt_val (de_call hK hM (ok_is_number T) (hr.mono (by decide)) tk (by rfl) T.g_is_number T.F_is_number.kp (b_is_number T) (dag_v (de_var 0) (dag_v de_int (dag_v de_int dag_nil)))))) (dw_or (dt_not (dt_val (de_call hK hM (ok_is_number T) (hr.mono (by decide)) tk (by rfl) T.g_is_number T.F_is_number.kp (b_is_number T) (dag_v (de_var 1) (dag_v de_int (dag_v de_int dag_nil)))))) (dw_or1 (dt_not (dt_val (de_call hK hM (ok_is_number T) (hr.mono (by decide)) tk (by rfl) T.g_is_number T.F_is_number.kp (b_is_number T) (dag_v (de_var 2) (dag_v de_int (dag_v de_int dag_nil)))))))))) (dss_one (ds_raise0 hM rfl tk PySem.F.excBase_ValueError T.x_BadHold T.g_BadHold T.k_BadHold (raises_own T.e_BadHold T.t_BadHold) (by rfl))) dss_nil) (dss_cons (ds_if (dt_cmp (op_eqD hr.units) (opsK_eq hK) (dh_sl 0) (dh_de de_int) (nomark _)) (dss_one (ds_ret (de_tup (da_cons de_int (da_cons (de_var 1) da_nil))))) dss_nil) (dss_cons (ds_set (i := 3) nd rfl (.inl rfl) (de_op op_add ops_add (dh_de (de_op op_add ops_add (dh_sl 1) (dh_de de_int))) (dh_de (de_op op_mul ops_mul (dh_de (de_op op_sub ops_sub (dh_sl 0) (dh_de de_int))) (dh_sl 2))))) (dss_one (ds_ret (de_tup (da_cons (de_var 3) (da_cons (de_op op_sub ops_sub (dh_de (de_op op_add ops_add (dh_sl 3) (dh_sl 2))) (dh_de de_int)) da_nil))))))))
theorem b_lengths_for (T : Fx K mg) : Binds K T.fd_lengths_for ps_lengths_for [] := T.F_lengths_for.binds (ps := ps_lengths_for) fun _ _ _ _ _ _ us hl => match us, hl with | [_, _, _], _ => rfl
/-! ### _law_number -/
abbrev ps_u_law_number : List Str := [("script" : Str), ("index" : Str)]
abbrev N_u_law_number : List Str := [("script" : Str), ("index" : Str), ("cell" : Str), ("turn" : Str), ("rest" : Str), ("step" : Str), ("blend" : Str)]
theorem sc_u_law_number : FnScope N_u_law_number ps_u_law_number (defScope s_u_law_number) := ⟨rfl, rfl, rfl, by decide +kernel, rfl, by decide +kernel, by decide +kernel⟩
def m_u_law_number : SM := (sq (sAsg (gT 2 (gCons' (gN 2) (gCons' (gN 3) gNil'))) (mIf (asB (mB fNe (mSl 0) (mV (mLst (ret []))))) (mTup (mCons (mB fIx (mSl 0) (mV (mB fMod (mSl 1) (mV (mC1 fLen (mSl 0)))))) (mCons (mB fDiv (mSl 1) (mV (mC1 fLen (mSl 0)))) (ret [])))) (mTup (mCons (ret (.int 12345)) (mCons (ret (.int 0)) (ret [])))))) (sq (sSet 4 (mIf (asB (mB fLt (mSl 3) (mV (ret (.int 60))))) (mB fSub (mSl 2) (mV (mB fPow (mV (ret (.int 10))) (mV (ret (.int 18)))))) (ret (.int 0)))) (sq (sFor (mR1 (mB fMod (mV (mC1 fInt (mSl 3))) (mV (ret (.int 60))))) (gN 5) (sSet 4 (mB fDiv (mSl 4) (mV (ret (.int 1009)))))) (sq (sIf (asB (mB fGt (mSl 4) (mV (ret (.int 0))))) (sRet (mB fMod (mV (mC1 fInt (mSl 4))) (mV (ret (.int 1009))))) nop) (sq (sSet 6 (mB fMod (mV (mB fAdd (mV (mB fMul (mV (mC1 fInt (mV (mB fAdd (mSl 2) (mV (mB fMul (mV (ret (.int 977))) (mSl 1))))))) (mV (ret (.int 48271))))) (mV (mB fMul (mV (ret (.int 31))) (mV (mC1 fLen (mSl 0))))))) (mV (ret (.int 2147483647))))) (sq (sSet 6 (mB fMod (mV (mB fAdd (mV (mB fMul (mSl 6) (mSl 6))) (mV (mB fMul (mV (ret (.int 40503))) (mSl 1))))) (mV (ret (.int 2147483629))))) (sRet (mC1 fInt (mV (mB fMod (mV (mB fAdd (mV (mB fMul (mSl 6) (mV (ret (.int 69621))))) (mV (mB fDiv (mSl 6) (mV (ret (.int 977))))))) (mV (ret (.int 2147483587)))))))))))))
def f_u_law_number : FM := fnOf N_u_law_number.length m_u_law_number
theorem ok_u_law_number (T : Fx K mg) : FnOk P w K mg base (L2.CX P w) 1 T.f_u_law_number T.fd_u_law_number ps_u_law_number (spM K mg ps_u_law_number.length f_u_law_number) := by
  unfold f_u_law_number
  exact fn_ok (m := m_u_law_number) T.F_u_law_number sc_u_law_number (by decide) fun cdv A outer s H E c W hr hK hM tk hp => by
    have nd := sc_u_law_number.nd
    exact (dss_cons (ds_asg (de_if (dt_cmp (op_neD hr.units) (opsK_ne hK) (dh_sl 0) (dh_de (DN.de (dn_lst da_nil))) (nomark _)) (de_tup (da_cons (de_ix hK (dh_sl 0) (dh_de (de_op op_mod ops_mod (dh_sl 1) (dh_de (de_callB call_len' (calsK_len hK) (by rfl) T.z_len PySem.boot_len (dh_sl 0)))))) (da_cons (de_op op_fdiv ops_fdiv (dh_sl 1) (dh_de (de_callB call_len' (calsK_len hK) (by rfl) T.z_len PySem.boot_len (dh_sl 0)))) da_nil))) (de_tup (da_cons de_int (da_cons de_int da_nil)))) (dg_tup hK rfl (dgs_cons (dg_name (i := 2) nd rfl (.inl rfl)) (dgs_cons (dg_name (i := 3) nd rfl (.inl rfl)) dgs_nil)))) (dss_cons (ds_set (i := 4) nd rfl (.inl rfl) (de_if (dt_cmp op_lt ops_lt (dh_sl 3) (dh_de de_int) (nomark _)) (de_op op_sub ops_sub (dh_sl 2) (dh_de (de_op op_pow ops_pow (dh_de de_int) (dh_de de_int)))) de_int)) (dss_cons (ds_for hp rfl (di_r1 (by rfl) T.z_range (de_op op_mod ops_mod (dh_de (de_callTy call_int1 cals_int (by rfl) T.z_int boot_int (dh_sl 3))) (dh_de de_int))) (dg_name (i := 5) nd rfl (.inl rfl)) (dss_one (ds_set (i := 4) nd rfl (.inl rfl) (de_op op_fdiv ops_fdiv (dh_sl 4) (dh_de de_int))))) (dss_cons (ds_if (dt_cmp op_gt ops_gt (dh_sl 4) (dh_de de_int) (nomark _)) (dss_one (ds_ret (de_op op_mod ops_mod (dh_de (de_callTy call_int1 cals_int (by rfl) T.z_int boot_int (dh_sl 4))) (dh_de de_int)))) dss_nil) (dss_cons (ds_set (i := 6) nd rfl (.inl rfl) (de_op op_mod ops_mod (dh_de (de_op op_add ops_add (dh_de (de_op op_mul ops_mul (dh_de (de_callTy call_int1 cals_int (by rfl) T.z_int boot_int (dh_de (de_op op_add ops_add (dh_sl 2) (dh_de (de_op op_mul ops_mul (dh_de de_int) (dh_sl 1))))))) (dh_de de_int))) (dh_de (de_op op_mul ops_mul (dh_de de_int) (dh_de (de_callB call_len' (calsK_len hK) (by rfl) T.z_len PySem.boot_len (dh_sl 0))))))) (dh_de de_int))) (dss_cons (ds_set (i := 6) nd rfl (.inl rfl) (de_op op_mod ops_mod (dh_de (de_op op_add ops_add (dh_de (de_op op_mul ops_mul (dh_sl 6) (dh_sl 6))) (dh_de (de_op op_mul ops_mul (dh_de de_int) (dh_sl 1))))) (dh_de de_int))) (dss_one (ds_ret (de_callTy call_int1 cals_int (by rfl) T.z_int boot_int (dh_de (de_op op_mod ops_mod (dh_de (de_op op_add ops_add (dh_de (de_op op_mul ops_mul (dh_sl 6) (dh_de de_int))) (dh_de (de_op op_fdiv ops_fdiv (dh_sl 6) (dh_de de_int))))) (dh_de de_int))))))))))))
theorem b_u_law_number (T : Fx K mg) : Binds K T.fd_u_law_number ps_u_law_number [] := T.F_u_law_number.binds (ps := ps_u_law_number) fun _ _ _ _ _ _ us hl => match us, hl with | [_, _], _ => rfl
/-! ### _law_take -/
abbrev ps_u_law_take : List Str := [("draw" : Str), ("many" : Str)]
abbrev N_u_law_take : List Str := [("draw" : Str), ("many" : Str)]
theorem sc_u_law_take : FnScope N_u_law_take ps_u_law_take (defScope s_u_law_take) := ⟨rfl, rfl, rfl, by decide +kernel, rfl, by decide +kernel, by decide +kernel⟩
def m_u_law_take : SM := (sq (sAugIx fAdd 0 (ret (.int 1)) (ret (.int 1))) (sRet (mB fMod (mV (mC1 fInt (mV (mCall ps_u_law_number.length f_u_law_number (agV (mB fIx (mSl 0) (mV (ret (.int 0)))) (agV (mC1 fInt (mV (mB fIx (mSl 0) (mV (ret (.int 1)))))) (ret []))))))) (mSl 1))))
def f_u_law_take : FM := fnOf N_u_law_take.length m_u_law_take
theorem ok_u_law_take (T : Fx K mg) : FnOk P w K mg base (L2.CX P w) 2 T.f_u_law_take T.fd_u_law_take ps_u_law_take (spM K mg ps_u_law_take.length f_u_law_take) := by
  unfold f_u_law_take
  exact fn_ok (m := m_u_law_take) T.F_u_law_take sc_u_law_take (by decide) fun cdv A outer s H E c W hr hK hM tk hp => by
    have nd := sc_u_law_take.nd
    exact (dss_cons (ds_augIx 0 hK iop_add ops_add de_int de_int) (dss_one (ds_ret (de_op op_mod ops_mod (dh_de (de_callTy call_int1 cals_int (by rfl) T.z_int boot_int (dh_de (de_call hK hM (ok_u_law_number T) (hr.mono (by decide)) tk (by rfl) T.g_u_law_number T.F_u_law_number.kp (b_u_law_number T) (dag_v (de_ix hK (dh_sl 0) (dh_de de_int)) (dag_v (de_callTy call_int1 cals_int (by rfl) T.z_int boot_int (dh_de (de_ix hK (dh_sl 0) (dh_de de_int)))) dag_nil)))))) (dh_sl 1)))))
theorem b_u_law_take (T : Fx K mg) : Binds K T.fd_u_law_take ps_u_law_take [] := T.F_u_law_take.binds (ps := ps_u_law_take) fun _ _ _ _ _ _ us hl => match us, hl with | [_, _], _ => rfl
/-! ### _law_cleaned -/
abbrev ps_u_law_cleaned : List Str := [("samples" : Str), ("hold" : Str)]
abbrev N_u_law_cleaned : List Str := [("samples" : Str), ("hold" : Str), ("found" : Str), ("tick" : Str), ("now" : Str), ("last" : Str)]
theorem sc_u_law_cleaned : FnScope N_u_law_cleaned ps_u_law_cleaned (defScope s_u_law_cleaned) := ⟨rfl, rfl, rfl, by decide +kernel, rfl, by decide +kernel, by decide +kernel⟩
def m_u_law_cleaned : SM := (sq (sOwn 2 (mLst (ret []))) (sq (sFor (mR1 (mC1 fLen (mSl 0))) (gN 3) (sq (sSet 4 (mIf (asB (mB fNe (mSl 2) (mV (mLst (ret []))))) (mB fIx (mSl 2) (mV (mNeg (ret (.int 1))))) (ret (.bl false)))) (sq (sOwn 5 (mSlice fSlL (mSl 0) (mPart (mB fMax (mV (ret (.int 0))) (mV (mB fSub (mV (mB fAdd (mSl 3) (mV (ret (.int 1))))) (mSl 1))))) (mPart (mB fAdd (mSl 3) (mV (ret (.int 1))))))) (sApp 2 (mIf (mAnd (asB (mB fEq (mV (mC1 fLen (mSl 5))) (mSl 1))) (asB (mB fEq (mSl 5) (mV (mB fRep (mV (mLst (mCons (mB fIx (mSl 5) (mV (ret (.int 0)))) (ret [])))) (mSl 1)))))) (mB fIx (mSl 5) (mV (ret (.int 0)))) (mVar 4)))))) (sRet (mVar 2))))
def f_u_law_cleaned : FM := fnOf N_u_law_cleaned.length m_u_law_cleaned
theorem ok_u_law_cleaned (T : Fx K mg) : FnOk P w K mg base (L2.CX P w) 1 T.f_u_law_cleaned T.fd_u_law_cleaned ps_u_law_cleaned (spM K mg ps_u_law_cleaned.length f_u_law_cleaned) := by
  unfold f_u_law_cleaned
  exact fn_ok (m := m_u_law_cleaned) T.F_u_law_cleaned sc_u_law_cleaned (by decide) fun cdv A outer s H E c W hr hK hM tk hp => by
    have nd := sc_u_law_cleaned.nd
    exact (dss_cons (ds_own (i := 2) nd rfl (.inl rfl) (dn_lst da_nil)) (dss_cons (ds_for hp rfl (di_r1 (by rfl) T.z_range (de_callB call_len' (calsK_len hK) (by rfl) T.z_len PySem.boot_len (dh_sl 0))) (dg_name (i := 3) nd rfl (.inl rfl)) (dss_cons (ds_set (i := 4) nd rfl (.inl rfl) (de_if (dt_cmp (op_neD hr.units) (opsK_ne hK) (dh_sl 2) (dh_de (DN.de (dn_lst da_nil))) (nomark _)) (de_ix hK (dh_sl 2) (dh_de (de_neg de_int))) de_bl)) (dss_cons (ds_own (i := 5) nd rfl (.inl rfl) (dn_slice hK (dh_sl 0) (do_some (de_callB2 (call_max2 rfl) cal2_max (by rfl) T.z_max (by decide +kernel) (dh_de de_int) (dh_de (de_op op_sub ops_sub (dh_de (de_op op_add ops_add (dh_sl 3) (dh_de de_int))) (dh_sl 1))))) (do_some (de_op op_add ops_add (dh_sl 3) (dh_de de_int))))) (dss_one (ds_app 2 (de_if (dt_bool (dw_and (dt_cmp (op_eqD hr.units) (opsK_eq hK) (dh_de (de_callB call_len' (calsK_len hK) (by rfl) T.z_len PySem.boot_len (dh_sl 5))) (dh_sl 1) (nomark _)) (dw_and1 (dt_cmp (op_eqD hr.units) (opsK_eq hK) (dh_sl 5) (dh_de (DN.de (dn_op op_rep opn_rep (dh_de (DN.de (dn_lst (da_cons (de_ix hK (dh_sl 5) (dh_de de_int)) da_nil)))) (dh_sl 1)))) (nomark _))))) (de_ix hK (dh_sl 5) (dh_de de_int)) (de_var 4))))))) (dss_one (ds_ret (de_var 2)))))
theorem b_u_law_cleaned (T : Fx K mg) : Binds K T.fd_u_law_cleaned ps_u_law_cleaned [] := T.F_u_law_cleaned.binds (ps := ps_u_law_cleaned) fun _ _ _ _ _ _ us hl => match us, hl with | [_, _], _ => rfl
/-! ### _law_changes -/
abbrev ps_u_law_changes : List Str := [("samples" : Str), ("hold" : Str)]
abbrev N_u_law_changes : List Str := [("samples" : Str), ("hold" : Str), ("row" : Str), ("tick" : Str)]
theorem sc_u_law_changes : FnScope N_u_law_changes ps_u_law_changes (defScope s_u_law_changes) := ⟨rfl, rfl, rfl, by decide +kernel, rfl, by decide +kernel, by decide +kernel⟩
def m_u_law_changes : SM := (sq (sOwn 2 (mB fCat (mV (mLst (mCons (ret (.bl false)) (ret [])))) (mV (mCall ps_u_law_cleaned.length f_u_law_cleaned (agV (mVar 0) (agV (mVar 1) (ret []))))))) (sRet (mLc (mR1 (mC1 fLen (mSl 0))) [3] (gN 3) (asB (mB fNe (mV (mB fIx (mSl 2) (mSl 3))) (mV (mB fIx (mSl 2) (mV (mB fAdd (mSl 3) (mV (ret (.int 1))))))))) (mTup (mCons (mVar 3) (mCons (mIf (asB (mB fIx (mSl 2) (mV (mB fAdd (mSl 3) (mV (ret (.int 1))))))) (ret (.str "down")) (ret (.str "up"))) (ret [])))))))
def f_u_law_changes : FM := fnOf N_u_law_changes.length m_u_law_changes
theorem ok_u_law_changes (T : Fx K mg) : FnOk P w K mg base (L2.CX P w) 2 T.f_u_law_changes T.fd_u_law_changes ps_u_law_changes (spM K mg ps_u_law_changes.length f_u_law_changes) := by
  unfold f_u_law_changes
  exact fn_ok (m := m_u_law_changes) T.F_u_law_changes sc_u_law_changes (by decide) fun cdv A outer s H E c W hr hK hM tk hp => by
    have nd := sc_u_law_changes.nd
    exact (dss_cons (ds_own (i := 2) nd rfl (.inr rfl) (dn_op op_cat opn_cat (dh_de (DN.de (dn_lst (da_cons de_bl da_nil)))) (dh_de (de_call hK hM (ok_u_law_cleaned T) (hr.mono (by decide)) tk (by rfl) T.g_u_law_cleaned T.F_u_law_cleaned.kp (b_u_law_cleaned T) (dag_v (de_var 0) (dag_v (de_var 1) dag_nil)))))) (dss_one (ds_ret (DN.de (dn_lcj [(("tick" : Str), 3)] rfl nd (di_r1 (by rfl) T.z_range (de_callB call_len' (calsK_len hK) (by rfl) T.z_len PySem.boot_len (dh_sl 0))) (blkOk_by (N := N_u_law_changes) (sc := defScope s_u_law_changes) (by decide +kernel)) (fun _ _ _ _ _ _ => (dg_name (i := 3) nd rfl (.inl rfl))) (fun _ _ _ _ _ _ => (dts_one (dt_cmp (op_neD hr.units) (opsK_ne hK) (dh_de (de_ix hK (dh_sl 2) (dh_sl 3))) (dh_de (de_ix hK (dh_sl 2) (dh_de (de_op op_add ops_add (dh_sl 3) (dh_de de_int))))) (nomark _)))) (fun _ _ _ _ _ _ => (de_tup (da_cons (de_var 3) (da_cons (de_if (dt_val (de_ix hK (dh_sl 2) (dh_de (de_op op_add ops_add (dh_sl 3) (dh_de de_int))))) de_str de_str) da_nil)))))))))
theorem b_u_law_changes (T : Fx K mg) : Binds K T.fd_u_law_changes ps_u_law_changes [] := T.F_u_law_changes.binds (ps := ps_u_law_changes) fun _ _ _ _ _ _ us hl => match us, hl with | [_, _], _ => rfl
/-! ### _law_refused -/
abbrev ps_u_law_refused : List Str := [("deed" : Str)]
abbrev N_u_law_refused : List Str := [("deed" : Str), ("fault" : Str)]
theorem sc_u_law_refused : FnScope N_u_law_refused ps_u_law_refused (defScope s_u_law_refused) := ⟨rfl, rfl, rfl, by decide +kernel, rfl, by decide +kernel, by decide +kernel⟩
noncomputable def m_u_law_refused (P : Program) (w : World) (K : PySem.W.Frag) (mg : MG) (base : Heap) : SM := (sq (sTry (mtOf tblM) (sExpr (mAct P w K mg base 7 0)) (("BadSamples", some 1, (hTup (hCons (fun _ _ _ => some (.str "samples")) (hCons (hFld ["BadSamples"] "place") (fun _ _ _ => some []))))) :: (("BadHold", none, (fun _ _ _ => some (.str "hold"))) :: []))) (sRet (ret (.str ""))))
noncomputable def f_u_law_refused (P : Program) (w : World) (K : PySem.W.Frag) (mg : MG) (base : Heap) : FM := fnOf N_u_law_refused.length (m_u_law_refused P w K mg base)
theorem ok_u_law_refused (T : Fx K mg) : FnOk P w K mg base (L2.CX P w) 9 T.f_u_law_refused T.fd_u_law_refused ps_u_law_refused (spM K mg ps_u_law_refused.length (f_u_law_refused P w K mg base)) := by
  unfold f_u_law_refused
  exact fn_ok (m := (m_u_law_refused P w K mg base)) T.F_u_law_refused sc_u_law_refused (by decide) fun cdv A outer s H E c W hr hK hM tk hp => by
    have nd := sc_u_law_refused.nd
    exact (dss_cons (ds_try hK nd rfl rfl tk (exm_at hK hM T.exm) (fun W pn xe tk hp => (dss_one (ds_expr (de_act (k := 7) (i := 0) hK hM tk (hr.mono (by decide)) rfl (.inl rfl))))) (clok_cons hM (by rfl) T.g_BadSamples (.inr ⟨1, _, rfl, rfl, rfl, rfl⟩) (fun a oe cls d pn hz hf => (hx_tup (hxs_cons hx_str (hxs_cons (hx_fld (F := ["BadSamples"]) (xf_BadSamples_place T hM) hz hf rfl (.inl rfl)) hxs_nil)))) (clok_cons hM (by rfl) T.g_BadHold (.inl ⟨rfl, rfl⟩) (fun a oe cls d pn hz hf => hx_str) clok_nil))) (dss_one (ds_ret de_str)))
theorem b_u_law_refused (T : Fx K mg) : Binds K T.fd_u_law_refused ps_u_law_refused [] := T.F_u_law_refused.binds (ps := ps_u_law_refused) fun _ _ _ _ _ _ us hl => match us, hl with | [_], _ => rfl
/-! ### _law_repeats_right -/
abbrev ps_u_law_repeats_right : List Str := [("draw" : Str), ("samples" : Str)]
abbrev N_u_law_repeats_right : List Str := [("draw" : Str), ("samples" : Str), ("delay" : Str), ("every" : Str), ("ticks" : Str), ("since" : Str), ("tick" : Str), ("one" : Str), ("length" : Str), ("many" : Str), ("least" : Str), ("most" : Str)]
theorem sc_u_law_repeats_right : FnScope N_u_law_repeats_right ps_u_law_repeats_right (defScope s_u_law_repeats_right) := ⟨rfl, rfl, rfl, by decide +kernel, rfl, by decide +kernel, by decide +kernel⟩
def m_u_law_repeats_right : SM := (sq (sPar [2, 3] (xV (mB fAdd (mV (ret (.int 1))) (mV (mCall ps_u_law_take.length f_u_law_take (agO 0 (agV (ret (.int 6)) (ret [])))))) (xV (mB fAdd (mV (ret (.int 1))) (mV (mCall ps_u_law_take.length f_u_law_take (agO 0 (agV (ret (.int 4)) (ret [])))))) (ret [])))) (sq (sPar [4, 5] (xN (mLst (ret [])) (xV (ret .non) (ret [])))) (sq (sFor (mEnS (mVar 1)) (gT 2 (gCons' (gN 6) (gCons' (gN 7) gNil'))) (sq (sSet 5 (mIf (mTru (mSl 7)) (mIf (asB (mB fIsN (mSl 5) (mV (ret .non)))) (ret (.int 0)) (mB fAdd (mSl 5) (mV (ret (.int 1))))) (ret .non))) (sIf (mAnd (asB (mB fNotN (mSl 5) (mV (ret .non)))) (asB (mB (fInD false) (mSl 5) (mV (mB fCat (mV (mLst (mCons (ret (.int 0)) (ret [])))) (mV (mLr3 (mCons (mVar 2) (mCons (ret (.int 200)) (mCons (mVar 3) (ret []))))))))))) (sApp 4 (mVar 6)) nop))) (sq (sIf (asB (mB fNe (mV (mCall ps_repeats.length f_repeats (agV (mVar 1) (agV (mVar 2) (agV (mVar 3) (ret [])))))) (mSl 4))) (sRet (ret (.bl false))) nop) (sq (sFor (mR1 (ret (.int 25))) (gN 8) (sq (sSet 9 (mC1 fLen (mV (mCall ps_repeats.length f_repeats (agV (mB fRep (mV (mLst (mCons (ret (.bl true)) (ret [])))) (mSl 8)) (agV (mVar 2) (agV (mVar 3) (ret [])))))))) (sq (sIf (asB (mB fNe (mV (mCall ps_count_repeats.length f_count_repeats (agV (mVar 8) (agV (mVar 2) (agV (mVar 3) (ret [])))))) (mSl 9))) (sRet (ret (.bl false))) nop) (sIf (asB (mB fGt (mSl 9) (mV (ret (.int 0))))) (sq (sAsg (gT 2 (gCons' (gN 10) (gCons' (gN 11) gNil'))) (mCall ps_lengths_for.length f_lengths_for (agV (mVar 9) (agV (mVar 2) (agV (mVar 3) (ret [])))))) (sIf (mOr (mNot (asB (mChain fLe fLe (mSl 10) (mSl 8) (mSl 11)))) (mOr (asB (mB fNe (mV (mCall ps_count_repeats.length f_count_repeats (agV (mVar 10) (agV (mVar 2) (agV (mVar 3) (ret [])))))) (mSl 9))) (mOr (asB (mB fNe (mV (mCall ps_count_repeats.length f_count_repeats (agV (mVar 11) (agV (mVar 2) (agV (mVar 3) (ret [])))))) (mSl 9))) (mOr (asB (mB fNe (mV (mCall ps_count_repeats.length f_count_repeats (agV (mB fAdd (mSl 11) (mV (ret (.int 1)))) (agV (mVar 2) (agV (mVar 3) (ret [])))))) (mV (mB fAdd (mSl 9) (mV (ret (.int 1))))))) (asB (mB fNe (mV (mCall ps_count_repeats.length f_count_repeats (agV (mB fSub (mSl 10) (mV (ret (.int 1)))) (agV (mVar 2) (agV (mVar 3) (ret [])))))) (mV (mB fSub (mSl 9) (mV (ret (.int 1))))))))))) (sRet (ret (.bl false))) nop)) nop)))) (sRet (ret (.bl true))))))))
def f_u_law_repeats_right : FM := fnOf N_u_law_repeats_right.length m_u_law_repeats_right
theorem ok_u_law_repeats_right (T : Fx K mg) : FnOk P w K mg base (L2.CX P w) 5 T.f_u_law_repeats_right T.fd_u_law_repeats_right ps_u_law_repeats_right (spM K mg ps_u_law_repeats_right.length f_u_law_repeats_right) := by
  unfold f_u_law_repeats_right
  exact fn_ok (m := m_u_law_repeats_right) T.F_u_law_repeats_right sc_u_law_repeats_right (by decide) fun cdv A outer s H E c W hr hK hM tk hp => by
    have nd := sc_u_law_repeats_right.nd
    exact (dss_cons (ds_par2 (i := 2) (j := 3) rfl nd rfl rfl (by decide) rfl rfl (dx_v (de_op op_add ops_add (dh_de de_int) (dh_de (de_call hK hM (ok_u_law_take T) (hr.mono (by decide)) tk (by rfl) T.g_u_law_take T.F_u_law_take.kp (b_u_law_take T) (dag_o 0 (dag_v de_int dag_nil))))) (dx_v (de_op op_add ops_add (dh_de de_int) (dh_de (de_call hK hM (ok_u_law_take T) (hr.mono (by decide)) tk (by rfl) T.g_u_law_take T.F_u_law_take.kp (b_u_law_take T) (dag_o 0 (dag_v de_int dag_nil))))) dx_nil)) (by rfl)) (dss_cons (ds_par2 (i := 4) (j := 5) rfl nd rfl rfl (by decide) rfl rfl (dx_n (dn_lst da_nil) (fun _ => (dx_v de_non dx_nil))) (by rfl)) (dss_cons (ds_for hp rfl (di_enumS hK (by rfl) T.z_enumerate (de_var 1)) (dg_tup hK rfl (dgs_cons (dg_name (i := 6) nd rfl (.inl rfl)) (dgs_cons (dg_name (i := 7) nd rfl (.inl rfl)) dgs_nil))) (dss_cons (ds_set (i := 5) nd rfl (.inl rfl) (de_if (dt_tru hK (dh_sl 7)) (de_if (dt_cmp op_isN ops_isN (dh_sl 5) (dh_de de_non) (nomark _)) de_int (de_op op_add ops_add (dh_sl 5) (dh_de de_int))) de_non)) (dss_one (ds_if (dt_bool (dw_and (dt_cmp op_notN ops_notN (dh_sl 5) (dh_de de_non) (nomark _)) (dw_and1 (dt_cmp (op_inD (hu65 hr)) (opsK_in hK) (dh_sl 5) (dh_de (DN.de (dn_op op_cat opn_cat (dh_de (DN.de (dn_lst (da_cons de_int da_nil)))) (dh_de (DN.de (dn_lr3 rfl (by rfl) T.z_list (by rfl) T.z_range (da_cons (de_var 2) (da_cons de_int (da_cons (de_var 3) da_nil))))))))) (by with_unfolding_all rfl))))) (dss_one (ds_app 4 (de_var 6))) dss_nil)))) (dss_cons (ds_if (dt_cmp (op_neD hr.units) (opsK_ne hK) (dh_de (de_call hK hM (ok_repeats T) (hr.mono (by decide)) tk (by rfl) T.g_repeats T.F_repeats.kp (b_repeats T) (dag_v (de_var 1) (dag_v (de_var 2) (dag_v (de_var 3) dag_nil))))) (dh_sl 4) (nomark _)) (dss_one (ds_ret de_bl)) dss_nil) (dss_cons (ds_for hp rfl (di_r1 (by rfl) T.z_range de_int) (dg_name (i := 8) nd rfl (.inl rfl)) (dss_cons (ds_set (i := 9) nd rfl (.inl rfl) (de_callB call_len' (calsK_len hK) (by rfl) T.z_len PySem.boot_len (dh_de (de_call hK hM (ok_repeats T) (hr.mono (by decide)) tk (by rfl) T.g_repeats T.F_repeats.kp (b_repeats T) (dag_v (DN.de (dn_op op_rep opn_rep (dh_de (DN.de (dn_lst (da_cons de_bl da_nil)))) (dh_sl 8))) (dag_v (de_var 2) (dag_v (de_var 3) dag_nil))))))) (dss_cons (ds_if (dt_cmp (op_neD hr.units) (opsK_ne hK) (dh_de (de_call hK hM (ok_count_repeats T) (hr.mono (by decide)) tk (by rfl) T.g_count_repeats T.F_count_repeats.kp (b_count_repeats T) (dag_v (de_var 8) (dag_v (de_var 2) (dag_v (de_var 3) dag_nil))))) (dh_sl 9) (nomark _)) (dss_one (ds_ret de_bl)) dss_nil) (dss_one (ds_if (dt_cmp op_gt ops_gt (dh_sl 9) (dh_de de_int) (nomark _)) (dss_cons (ds_asg (de_call hK hM (ok_lengths_for T) (hr.mono (by decide)) tk (by rfl) T.g_lengths_for T.F_lengths_for.kp (b_lengths_for T) (dag_v (de_var 9) (dag_v (de_var 2) (dag_v (de_var 3) dag_nil)))) (dg_tup hK rfl (dgs_cons (dg_name (i := 10) nd rfl (.inl rfl)) (dgs_cons (dg_name (i := 11) nd rfl (.inl rfl)) dgs_nil)))) (dss_one (ds_if (dt_bool (dw_or (dt_not (dt_chain op_le op_le ops_le ops_le (dh_sl 10) (dh_sl 8) (dh_sl 11))) (dw_or (dt_cmp (op_neD hr.units) (opsK_ne hK) (dh_de (de_call hK hM (ok_count_repeats T) (hr.mono (by decide)) tk (by rfl) T.g_count_repeats T.F_count_repeats.kp (b_count_repeats T) (dag_v (de_var 10) (dag_v (de_var 2) (dag_v (de_var 3) dag_nil))))) (dh_sl 9) (nomark _)) (dw_or (dt_cmp (op_neD hr.units) (opsK_ne hK) (dh_de (de_call hK hM (ok_count_repeats T) (hr.mono (by decide)) tk (by rfl) T.g_count_repeats T.F_count_repeats.kp (b_count_repeats T) (dag_v (de_var 11) (dag_v (de_var 2) (dag_v (de_var 3) dag_nil))))) (dh_sl 9) (nomark _)) (dw_or (dt_cmp (op_neD hr.units) (opsK_ne hK) (dh_de (de_call hK hM (ok_count_repeats T) (hr.mono (by decide)) tk (by rfl) T.g_count_repeats T.F_count_repeats.kp (b_count_repeats T) (dag_v (de_op op_add ops_add (dh_sl 11) (dh_de de_int)) (dag_v (de_var 2) (dag_v (de_var 3) dag_nil))))) (dh_de (de_op op_add ops_add (dh_sl 9) (dh_de de_int))) (nomark _)) (dw_or1 (dt_cmp (op_neD hr.units) (opsK_ne hK) (dh_de (de_call hK hM (ok_count_repeats T) (hr.mono (by decide)) tk (by rfl) T.g_count_repeats T.F_count_repeats.kp (b_count_repeats T) (dag_v (de_op op_sub ops_sub (dh_sl 10) (dh_de de_int)) (dag_v (de_var 2) (dag_v (de_var 3) dag_nil))))) (dh_de (de_op op_sub ops_sub (dh_sl 9) (dh_de de_int))) (nomark _)))))))) (dss_one (ds_ret de_bl)) dss_nil))) dss_nil))))) (dss_one (ds_ret de_bl)))))))
theorem b_u_law_repeats_right (T : Fx K mg) : Binds K T.fd_u_law_repeats_right ps_u_law_repeats_right [] := T.F_u_law_repeats_right.binds (ps := ps_u_law_repeats_right) fun _ _ _ _ _ _ us hl => match us, hl with | [_, _], _ => rfl
end
end W23

set_option Elab.async false
set_option linter.all false
set_option maxRecDepth 100000
set_option maxHeartbeats 0
namespace W23
open PySem PySem.Spec PyProof.Rows L2 Dn
section
variable {P : Program} {w : World} {K : PySem.W.Frag} {mg : MG} {base : Heap}
/-! ### the law -/
abbrev ps_law : List Str := [("script" : Str)]
abbrev N_law : List Str := [("script" : Str), ("draw" : Str), ("clean" : Str), ("turn" : Str), ("samples" : Str), ("at" : Str), ("hold" : Str), ("mine" : Str), ("runs" : Str), ("flat" : Str), ("one" : Str), ("many" : Str), ("best" : Str), ("run" : Str), ("now" : Str), ("good" : Str), ("same" : Str), ("found" : Str), ("other" : Str), ("wrong" : Str), ("late" : Str), ("tick" : Str), ("word" : Str), ("change" : Str), ("deed" : Str), ("part" : Str)]
theorem sc_law : FnScope N_law ps_law (defScope s_law) := ⟨rfl, rfl, rfl, by decide +kernel, rfl, by decide +kernel, by decide +kernel⟩
def wrongE (j : Nat) : Expr := lamAt ((defBody s_law).getD 22 (.Pass ⟨0, 0, 0, 0⟩)) j
abbrev lq : Str := "law.<locals>.<lambda>"
theorem thk_0 (T : Fx K mg) : Thk P w K mg base 7 lq (lamP (wrongE 0)) (lamB (wrongE 0)) (lamS (wrongE 0)) (some ("BadSamples", ["place"])) [.non] :=
  ⟨noNm_of (by decide +kernel), fun _ _ _ => rfl, (mCall ps_cleaned.length f_cleaned (agV (ret .non) (agV (ret (.int 1)) (ret [])))), by rfl, fun A outer s H E f c' c W hK hM tk hr => by
    have nd : (lamX P w K mg base A outer s H E lq (lamS (wrongE 0)) f c').N.Nodup := List.nodup_nil
    exact (de_call hK hM (ok_cleaned T) (hr.mono (by decide)) tk (by rfl) T.g_cleaned T.F_cleaned.kp (b_cleaned T) (dag_v de_non (dag_v de_int dag_nil)))⟩
theorem thk_1 (T : Fx K mg) : Thk P w K mg base 7 lq (lamP (wrongE 1)) (lamB (wrongE 1)) (lamS (wrongE 1)) (some ("BadSamples", ["place"])) [(.int (1))] :=
  ⟨noNm_of (by decide +kernel), fun _ _ _ => rfl, (mCall ps_cleaned.length f_cleaned (agV (mLst (mCons (ret (.bl true)) (mCons (ret (.int 1)) (ret [])))) (agV (ret (.int 1)) (ret [])))), by rfl, fun A outer s H E f c' c W hK hM tk hr => by
    have nd : (lamX P w K mg base A outer s H E lq (lamS (wrongE 1)) f c').N.Nodup := List.nodup_nil
    exact (de_call hK hM (ok_cleaned T) (hr.mono (by decide)) tk (by rfl) T.g_cleaned T.F_cleaned.kp (b_cleaned T) (dag_v (DN.de (dn_lst (da_cons de_bl (da_cons de_int da_nil)))) (dag_v de_int dag_nil)))⟩
theorem thk_2 (T : Fx K mg) : Thk P w K mg base 7 lq (lamP (wrongE 2)) (lamB (wrongE 2)) (lamS (wrongE 2)) (some ("BadHold", [])) [] :=
  ⟨noNm_of (by decide +kernel), fun _ _ _ => rfl, (mCall ps_cleaned.length f_cleaned (agV (mLst (ret [])) (agV (ret (.int 0)) (ret [])))), by rfl, fun A outer s H E f c' c W hK hM tk hr => by
    have nd : (lamX P w K mg base A outer s H E lq (lamS (wrongE 2)) f c').N.Nodup := List.nodup_nil
    exact (de_call hK hM (ok_cleaned T) (hr.mono (by decide)) tk (by rfl) T.g_cleaned T.F_cleaned.kp (b_cleaned T) (dag_v (DN.de (dn_lst da_nil)) (dag_v de_int dag_nil)))⟩
theorem thk_3 (T : Fx K mg) : Thk P w K mg base 7 lq (lamP (wrongE 3)) (lamB (wrongE 3)) (lamS (wrongE 3)) (some ("BadHold", [])) [] :=
  ⟨noNm_of (by decide +kernel), fun _ _ _ => rfl, (mCall ps_cleaned.length f_cleaned (agV (mLst (ret [])) (agV (ret (.int 10)) (ret [])))), by rfl, fun A outer s H E f c' c W hK hM tk hr => by
    have nd : (lamX P w K mg base A outer s H E lq (lamS (wrongE 3)) f c').N.Nodup := List.nodup_nil
    exact (de_call hK hM (ok_cleaned T) (hr.mono (by decide)) tk (by rfl) T.g_cleaned T.F_cleaned.kp (b_cleaned T) (dag_v (DN.de (dn_lst da_nil)) (dag_v de_int dag_nil)))⟩
theorem thk_4 (T : Fx K mg) : Thk P w K mg base 7 lq (lamP (wrongE 4)) (lamB (wrongE 4)) (lamS (wrongE 4)) (some ("BadHold", [])) [] :=
  ⟨noNm_of (by decide +kernel), fun _ _ _ => rfl, (mCall ps_changes.length f_changes (agV (mLst (ret [])) (agV (ret .non) (ret [])))), by rfl, fun A outer s H E f c' c W hK hM tk hr => by
    have nd : (lamX P w K mg base A outer s H E lq (lamS (wrongE 4)) f c').N.Nodup := List.nodup_nil
    exact (de_call hK hM (ok_changes T) (hr.mono (by decide)) tk (by rfl) T.g_changes T.F_changes.kp (b_changes T) (dag_v (DN.de (dn_lst da_nil)) (dag_v de_non dag_nil)))⟩
theorem thk_5 (T : Fx K mg) : Thk P w K mg base 7 lq (lamP (wrongE 5)) (lamB (wrongE 5)) (lamS (wrongE 5)) (some ("BadHold", [])) [] :=
  ⟨noNm_of (by decide +kernel), fun _ _ _ => rfl, (mCall ps_least_hold.length f_least_hold (agV (mLst (ret [])) (agV (mNeg (ret (.int 1))) (ret [])))), by rfl, fun A outer s H E f c' c W hK hM tk hr => by
    have nd : (lamX P w K mg base A outer s H E lq (lamS (wrongE 5)) f c').N.Nodup := List.nodup_nil
    exact (de_call hK hM (ok_least_hold T) (hr.mono (by decide)) tk (by rfl) T.g_least_hold T.F_least_hold.kp (b_least_hold T) (dag_v (DN.de (dn_lst da_nil)) (dag_v (de_neg de_int) dag_nil)))⟩
theorem thk_6 (T : Fx K mg) : Thk P w K mg base 7 lq (lamP (wrongE 6)) (lamB (wrongE 6)) (lamS (wrongE 6)) (some ("BadSamples", ["place"])) [(.int (0))] :=
  ⟨noNm_of (by decide +kernel), fun _ _ _ => rfl, (mCall ps_least_hold.length f_least_hold (agV (mLst (mCons (ret .non) (ret []))) (agV (ret (.int 1)) (ret [])))), by rfl, fun A outer s H E f c' c W hK hM tk hr => by
    have nd : (lamX P w K mg base A outer s H E lq (lamS (wrongE 6)) f c').N.Nodup := List.nodup_nil
    exact (de_call hK hM (ok_least_hold T) (hr.mono (by decide)) tk (by rfl) T.g_least_hold T.F_least_hold.kp (b_least_hold T) (dag_v (DN.de (dn_lst (da_cons de_non da_nil))) (dag_v de_int dag_nil)))⟩
theorem thk_7 (T : Fx K mg) : Thk P w K mg base 7 lq (lamP (wrongE 7)) (lamB (wrongE 7)) (lamS (wrongE 7)) (some ("BadSamples", ["place"])) [.non] :=
  ⟨noNm_of (by decide +kernel), fun _ _ _ => rfl, (mCall ps_delays.length f_delays (agV (mLst (ret [])) (agV (ret .non) (agV (ret (.int 1)) (ret []))))), by rfl, fun A outer s H E f c' c W hK hM tk hr => by
    have nd : (lamX P w K mg base A outer s H E lq (lamS (wrongE 7)) f c').N.Nodup := List.nodup_nil
    exact (de_call hK hM (ok_delays T) (hr.mono (by decide)) tk (by rfl) T.g_delays T.F_delays.kp (b_delays T) (dag_v (DN.de (dn_lst da_nil)) (dag_v de_non (dag_v de_int dag_nil))))⟩
theorem thk_8 (T : Fx K mg) : Thk P w K mg base 7 lq (lamP (wrongE 8)) (lamB (wrongE 8)) (lamS (wrongE 8)) (some ("BadHold", [])) [] :=
  ⟨noNm_of (by decide +kernel), fun _ _ _ => rfl, (mCall ps_repeats.length f_repeats (agV (mLst (ret [])) (agV (ret (.int 0)) (agV (ret (.int 1)) (ret []))))), by rfl, fun A outer s H E f c' c W hK hM tk hr => by
    have nd : (lamX P w K mg base A outer s H E lq (lamS (wrongE 8)) f c').N.Nodup := List.nodup_nil
    exact (de_call hK hM (ok_repeats T) (hr.mono (by decide)) tk (by rfl) T.g_repeats T.F_repeats.kp (b_repeats T) (dag_v (DN.de (dn_lst da_nil)) (dag_v de_int (dag_v de_int dag_nil))))⟩
theorem thk_9 (T : Fx K mg) : Thk P w K mg base 7 lq (lamP (wrongE 9)) (lamB (wrongE 9)) (lamS (wrongE 9)) (some ("BadHold", [])) [] :=
  ⟨noNm_of (by decide +kernel), fun _ _ _ => rfl, (mCall ps_repeats.length f_repeats (agV (mLst (ret [])) (agV (ret (.int 1)) (agV (ret (.int 100)) (ret []))))), by rfl, fun A outer s H E f c' c W hK hM tk hr => by
    have nd : (lamX P w K mg base A outer s H E lq (lamS (wrongE 9)) f c').N.Nodup := List.nodup_nil
    exact (de_call hK hM (ok_repeats T) (hr.mono (by decide)) tk (by rfl) T.g_repeats T.F_repeats.kp (b_repeats T) (dag_v (DN.de (dn_lst da_nil)) (dag_v de_int (dag_v de_int dag_nil))))⟩
theorem thk_10 (T : Fx K mg) : Thk P w K mg base 7 lq (lamP (wrongE 10)) (lamB (wrongE 10)) (lamS (wrongE 10)) (some ("BadHold", [])) [] :=
  ⟨noNm_of (by decide +kernel), fun _ _ _ => rfl, (mCall ps_count_repeats.length f_count_repeats (agV (mNeg (ret (.int 1))) (agV (ret (.int 1)) (agV (ret (.int 1)) (ret []))))), by rfl, fun A outer s H E f c' c W hK hM tk hr => by
    have nd : (lamX P w K mg base A outer s H E lq (lamS (wrongE 10)) f c').N.Nodup := List.nodup_nil
    exact (de_call hK hM (ok_count_repeats T) (hr.mono (by decide)) tk (by rfl) T.g_count_repeats T.F_count_repeats.kp (b_count_repeats T) (dag_v (de_neg de_int) (dag_v de_int (dag_v de_int dag_nil))))⟩
theorem thk_11 (T : Fx K mg) : Thk P w K mg base 7 lq (lamP (wrongE 11)) (lamB (wrongE 11)) (lamS (wrongE 11)) (some ("BadHold", [])) [] :=
  ⟨noNm_of (by decide +kernel), fun _ _ _ => rfl, (mCall ps_lengths_for.length f_lengths_for (agV (ret (.int 0)) (agV (ret (.int 1)) (agV (ret (.int 1)) (ret []))))), by rfl, fun A outer s H E f c' c W hK hM tk hr => by
    have nd : (lamX P w K mg base A outer s H E lq (lamS (wrongE 11)) f c').N.Nodup := List.nodup_nil
    exact (de_call hK hM (ok_lengths_for T) (hr.mono (by decide)) tk (by rfl) T.g_lengths_for T.F_lengths_for.kp (b_lengths_for T) (dag_v de_int (dag_v de_int (dag_v de_int dag_nil))))⟩
theorem thk_12 (T : Fx K mg) : Thk P w K mg base 7 lq (lamP (wrongE 12)) (lamB (wrongE 12)) (lamS (wrongE 12)) (some ("BadSamples", ["place"])) [.non] :=
  ⟨noNm_of (by decide +kernel), fun _ _ _ => rfl, (mCall ps_runs_of.length f_runs_of (agV (ret (.str "a")) (ret []))), by rfl, fun A outer s H E f c' c W hK hM tk hr => by
    have nd : (lamX P w K mg base A outer s H E lq (lamS (wrongE 12)) f c').N.Nodup := List.nodup_nil
    exact (de_call hK hM (ok_runs_of T) (hr.mono (by decide)) tk (by rfl) T.g_runs_of T.F_runs_of.kp (b_runs_of T) (dag_v de_str dag_nil))⟩
def wrongD : List D := (.tup [(.thk lq (lamP (wrongE 0)) (lamB (wrongE 0)) (lamS (wrongE 0)) (some ("BadSamples", ["place"])) [.non]), (.tup ((.str "samples") :: (.non :: [])))] :: (.tup [(.thk lq (lamP (wrongE 1)) (lamB (wrongE 1)) (lamS (wrongE 1)) (some ("BadSamples", ["place"])) [(.int (1))]), (.tup ((.str "samples") :: ((.int 1) :: [])))] :: (.tup [(.thk lq (lamP (wrongE 2)) (lamB (wrongE 2)) (lamS (wrongE 2)) (some ("BadHold", [])) []), (.str "hold")] :: (.tup [(.thk lq (lamP (wrongE 3)) (lamB (wrongE 3)) (lamS (wrongE 3)) (some ("BadHold", [])) []), (.str "hold")] :: (.tup [(.thk lq (lamP (wrongE 4)) (lamB (wrongE 4)) (lamS (wrongE 4)) (some ("BadHold", [])) []), (.str "hold")] :: (.tup [(.thk lq (lamP (wrongE 5)) (lamB (wrongE 5)) (lamS (wrongE 5)) (some ("BadHold", [])) []), (.str "hold")] :: (.tup [(.thk lq (lamP (wrongE 6)) (lamB (wrongE 6)) (lamS (wrongE 6)) (some ("BadSamples", ["place"])) [(.int (0))]), (.tup ((.str "samples") :: ((.int 0) :: [])))] :: (.tup [(.thk lq (lamP (wrongE 7)) (lamB (wrongE 7)) (lamS (wrongE 7)) (some ("BadSamples", ["place"])) [.non]), (.tup ((.str "samples") :: (.non :: [])))] :: (.tup [(.thk lq (lamP (wrongE 8)) (lamB (wrongE 8)) (lamS (wrongE 8)) (some ("BadHold", [])) []), (.str "hold")] :: (.tup [(.thk lq (lamP (wrongE 9)) (lamB (wrongE 9)) (lamS (wrongE 9)) (some ("BadHold", [])) []), (.str "hold")] :: (.tup [(.thk lq (lamP (wrongE 10)) (lamB (wrongE 10)) (lamS (wrongE 10)) (some ("BadHold", [])) []), (.str "hold")] :: (.tup [(.thk lq (lamP (wrongE 11)) (lamB (wrongE 11)) (lamS (wrongE 11)) (some ("BadHold", [])) []), (.str "hold")] :: (.tup [(.thk lq (lamP (wrongE 12)) (lamB (wrongE 12)) (lamS (wrongE 12)) (some ("BadSamples", ["place"])) [.non]), (.tup ((.str "samples") :: (.non :: [])))] :: [])))))))))))))
noncomputable def m_law (P : Program) (w : World) (K : PySem.W.Frag) (mg : MG) (base : Heap) : SM := (sq (sOwn 1 (mLst (mCons (mVar 0) (mCons (ret (.int 0)) (ret [])))))
  (sq (sOwn 2 (mLst (ret [])))
  (sq (sFor (mR1 (mCall ps_u_law_take.length f_u_law_take (agO 1 (agV (ret (.int 5)) (ret []))))) (gN 3) (sOwn 2 (mB fCat (mSl 2) (mV (mB fRep (mV (mLst (mCons (mB fEq (mV (mB fMod (mSl 3) (mV (ret (.int 2))))) (mV (ret (.int 0)))) (ret [])))) (mV (mB fAdd (mV (ret (.int 4))) (mV (mCall ps_u_law_take.length f_u_law_take (agO 1 (agV (ret (.int 5)) (ret []))))))))))))
  (sq (sOwn 4 (mC1 fListOf (mSl 2)))
  (sq (sFor (mR1 (mCall ps_u_law_take.length f_u_law_take (agO 1 (agV (ret (.int 5)) (ret []))))) (gN 3) (sIf (asB (mB fNe (mSl 4) (mV (mLst (ret []))))) (sq (sSet 5 (mCall ps_u_law_take.length f_u_law_take (agO 1 (agV (mC1 fLen (mSl 4)) (ret []))))) (sPut 4 (mVar 5) (mNotV (mB fIx (mSl 4) (mSl 5))))) nop))
  (sq (sSet 6 (mB fAdd (mV (ret (.int 1))) (mV (mCall ps_u_law_take.length f_u_law_take (agO 1 (agV (ret (.int 4)) (ret [])))))))
  (sq (sSet 7 (mCall ps_u_law_cleaned.length f_u_law_cleaned (agV (mVar 4) (agV (mVar 6) (ret [])))))
  (sq (sIf (mOr (asB (mB fNe (mV (mCall ps_cleaned.length f_cleaned (agV (mC1 fTupOf (mSl 4)) (agV (mVar 6) (ret []))))) (mSl 7))) (mOr (asB (mB fNe (mV (mCall ps_changes.length f_changes (agV (mVar 4) (agV (mVar 6) (ret []))))) (mV (mCall ps_u_law_changes.length f_u_law_changes (agV (mVar 4) (agV (mVar 6) (ret []))))))) (asB (mB fNe (mV (mCall ps_cleaned.length f_cleaned (agV (mVar 4) (agV (ret (.int 1)) (ret []))))) (mSl 4))))) (sRet (ret (.bl false))) nop)
  (sq (sSet 8 (mCall ps_runs_of.length f_runs_of (agV (mVar 4) (ret []))))
  (sq (sOwn 9 (mLst (ret [])))
  (sq (sFor (mIs (mVar 8)) (gT 2 (gCons' (gN 10) (gCons' (gN 11) gNil'))) (sOwn 9 (mB fCat (mSl 9) (mV (mB fRep (mV (mLst (mCons (mVar 10) (ret [])))) (mSl 11))))))
  (sq (sIf (mOr (asB (mB fNe (mSl 9) (mSl 4))) (mOr (asB (mC1 fAny (mV (mLc (mZip (mVar 8) (mSlice fSlL (mSl 8) (mPart (ret (.int 1))) (ret none))) [10, 20] (gT 2 (gCons' (gN 10) (gCons' (gN 20) gNil'))) (ret true) (mB fEq (mV (mB fIx (mSl 10) (mV (ret (.int 0))))) (mV (mB fIx (mSl 20) (mV (ret (.int 0)))))))))) (asB (mC1 fAny (mV (mLc (mIs (mVar 8)) [10, 11] (gT 2 (gCons' (gN 10) (gCons' (gN 11) gNil'))) (ret true) (mB fLt (mSl 11) (mV (ret (.int 1)))))))))) (sRet (ret (.bl false))) nop)
  (sq (sPar [12, 13] (xV (ret (.int 0)) (xV (ret (.int 0)) (ret []))))
  (sq (sFor (mZip (mVar 4) (mVar 7)) (gT 2 (gCons' (gN 10) (gCons' (gN 14) gNil'))) (sq (sSet 13 (mIf (asB (mB fNe (mSl 10) (mSl 14))) (mB fAdd (mSl 13) (mV (ret (.int 1)))) (ret (.int 0)))) (sSet 12 (mB fMax (mSl 12) (mSl 13)))))
  (sq (sIf (mOr (asB (mB fNe (mV (mCall ps_longest_noise.length f_longest_noise (agV (mVar 4) (agV (mVar 6) (ret []))))) (mSl 12))) (mAnd (asB (mB fGe (mSl 12) (mSl 6))) (asB (mB fGt (mSl 12) (mV (ret (.int 0))))))) (sRet (ret (.bl false))) nop)
  (sq (sFor (mIs (mTup (mCons (ret (.int 0)) (mCons (ret (.int 1)) (mCons (ret (.int 2)) (mCons (ret (.int 4)) (ret []))))))) (gN 11) (sq (sOwn 15 (mLc (mR2 (ret (.int 1)) (ret (.int 10))) [10] (gN 10) (asB (mB fLe (mV (mC1 fLen (mV (mCall ps_u_law_changes.length f_u_law_changes (agV (mVar 4) (agV (mVar 10) (ret []))))))) (mSl 11))) (mVar 10))) (sIf (asB (mB fNe (mV (mCall ps_least_hold.length f_least_hold (agV (mVar 4) (agV (mVar 11) (ret []))))) (mV (mIf (asB (mB fNe (mSl 15) (mV (mLst (ret []))))) (mB fIx (mSl 15) (mV (ret (.int 0)))) (ret .non))))) (sRet (ret (.bl false))) nop)))
  (sq (sSet 16 (mB fEq (mV (mLc (mIs (mCall ps_u_law_changes.length f_u_law_changes (agV (mVar 4) (agV (mVar 6) (ret []))))) [21, 22] (gT 2 (gCons' (gN 21) (gCons' (gN 22) gNil'))) (ret true) (mVar 22))) (mV (mLc (mIs (mCall ps_u_law_changes.length f_u_law_changes (agV (mVar 2) (agV (ret (.int 1)) (ret []))))) [21, 22] (gT 2 (gCons' (gN 21) (gCons' (gN 22) gNil'))) (ret true) (mVar 22)))))
  (sq (sSet 17 (mCall ps_delays.length f_delays (agV (mVar 4) (agV (mVar 2) (agV (mVar 6) (ret []))))))
  (sq (sIf (mOr (asB (mB fEq (mV (mB fIsN (mSl 17) (mV (ret .non)))) (mSl 16))) (mAnd (mTru (mSl 16)) (asB (mB fNe (mSl 17) (mV (mLc (mZip (mCall ps_u_law_changes.length f_u_law_changes (agV (mVar 2) (agV (ret (.int 1)) (ret [])))) (mCall ps_u_law_changes.length f_u_law_changes (agV (mVar 4) (agV (mVar 6) (ret []))))) [10, 20] (gT 2 (gCons' (gN 10) (gCons' (gN 20) gNil'))) (ret true) (mB fSub (mV (mB fIx (mSl 20) (mV (ret (.int 0))))) (mV (mB fIx (mSl 10) (mV (ret (.int 0)))))))))))) (sRet (ret (.bl false))) nop)
  (sq (sSet 18 (mCall ps_cleaned.length f_cleaned (agV (mVar 4) (agV (mVar 6) (ret [])))))
  (sq (sIf (mOr (asB (mB fNe (mV (mCall ps_same_events.length f_same_events (agV (mVar 4) (agV (mVar 2) (agV (mVar 6) (ret [])))))) (mV (mB fEq (mV (mLc (mIs (mCall ps_u_law_changes.length f_u_law_changes (agV (mVar 4) (agV (mVar 6) (ret []))))) [21, 22] (gT 2 (gCons' (gN 21) (gCons' (gN 22) gNil'))) (ret true) (mVar 22))) (mV (mLc (mIs (mCall ps_u_law_changes.length f_u_law_changes (agV (mVar 2) (agV (mVar 6) (ret []))))) [21, 22] (gT 2 (gCons' (gN 21) (gCons' (gN 22) gNil'))) (ret true) (mVar 22))))))) (mOr (mAnd (asB (mB fLe (mSl 6) (mV (ret (.int 4))))) (asB (mB fNe (mV (mCall ps_delays.length f_delays (agV (mVar 2) (agV (mVar 2) (agV (mVar 6) (ret [])))))) (mV (mLc (mIs (mCall ps_u_law_changes.length f_u_law_changes (agV (mVar 2) (agV (ret (.int 1)) (ret []))))) [23] (gN 23) (ret true) (mB fSub (mSl 6) (mV (ret (.int 1))))))))) (asB (mB fNe (mV (mCall ps_cleaned.length f_cleaned (agV (mVar 18) (agV (ret (.int 1)) (ret []))))) (mSl 18))))) (sRet (ret (.bl false))) nop)
  (sq (sIf (mNot (asB (mCall ps_u_law_repeats_right.length f_u_law_repeats_right (agO 1 (agV (mVar 4) (ret [])))))) (sRet (ret (.bl false))) nop)
  (sq (sWr 19 wrongD) (sRet (mC1 fAll (mV (mLc (mIs (mVar 19)) [24, 25] (gT 2 (gCons' (gN 24) (gCons' (gN 25) gNil'))) (ret true) (mB fEq (mV (mCall ps_u_law_refused.length (f_u_law_refused P w K mg base) (agV (mVar 24) (ret [])))) (mSl 25)))))))))))))))))))))))))))))
theorem ok_law (T : Fx K mg) {f cA Pt : Addr} {od an : Option Addr} {sl : Array (Option Value)} {oc kV dc pm ct : Value}
    (lk : K.lookup f = some ⟨oc, od, .func (PySem.W.fnOf "law" "law" (defArgs s_law) (defBody s_law) (defScope s_law) .none kV dc pm an (.ref cA) ct), sl⟩) (hcd : PySem.W.codeIn K (.ref cA) "law" = true) (TB : LamX.TabB base mg cA Pt) :
    FnOk P w K mg base (L2.CX P w) 10 f (PySem.W.fnOf "law" "law" (defArgs s_law) (defBody s_law) (defScope s_law) .none kV dc pm an (.ref cA) ct) ps_law (spL K mg Pt ps_law.length (fnOf N_law.length (m_law P w K mg base))) :=
  law_ok (m := m_law P w K mg base) lk hcd sc_law (by decide) fun A outer s H E c W hr hK hM hi hlf h0 g0 tk hp => by
    have nd := sc_law.nd
    exact (ds2_cons hi h0 (ds_own (i := 1) nd rfl (.inl rfl) (dn_lst (da_cons (de_var 0) (da_cons de_int da_nil))))
      (ds2_cons hi h0 (ds_own (i := 2) nd rfl (.inl rfl) (dn_lst da_nil))
      (ds2_cons hi h0 (ds_for hp rfl (di_r1 (by rfl) T.z_range (de_call hK hM (ok_u_law_take T) (hr.mono (by decide)) tk (by rfl) T.g_u_law_take T.F_u_law_take.kp (b_u_law_take T) (dag_o 1 (dag_v de_int dag_nil)))) (dg_name (i := 3) nd rfl (.inl rfl)) (dss_one (ds_own (i := 2) nd rfl (.inl rfl) (dn_op op_cat opn_cat (dh_sl 2) (dh_de (DN.de (dn_op op_rep opn_rep (dh_de (DN.de (dn_lst (da_cons (de_cmp (op_eqD hr.units) (opsK_eq hK) (dh_de (de_op op_mod ops_mod (dh_sl 3) (dh_de de_int))) (dh_de de_int) (nomark _)) da_nil)))) (dh_de (de_op op_add ops_add (dh_de de_int) (dh_de (de_call hK hM (ok_u_law_take T) (hr.mono (by decide)) tk (by rfl) T.g_u_law_take T.F_u_law_take.kp (b_u_law_take T) (dag_o 1 (dag_v de_int dag_nil)))))))))))))
      (ds2_cons hi h0 (ds_own (i := 4) nd rfl (.inr rfl) (dn_callTy call_list_of (calnK_list hK) (by rfl) T.z_list boot_list (dh_sl 2)))
      (ds2_cons hi h0 (ds_for hp rfl (di_r1 (by rfl) T.z_range (de_call hK hM (ok_u_law_take T) (hr.mono (by decide)) tk (by rfl) T.g_u_law_take T.F_u_law_take.kp (b_u_law_take T) (dag_o 1 (dag_v de_int dag_nil)))) (dg_name (i := 3) nd rfl (.inl rfl)) (dss_one (ds_if (dt_cmp (op_neD hr.units) (opsK_ne hK) (dh_sl 4) (dh_de (DN.de (dn_lst da_nil))) (nomark _)) (dss_cons (ds_set (i := 5) nd rfl (.inl rfl) (de_call hK hM (ok_u_law_take T) (hr.mono (by decide)) tk (by rfl) T.g_u_law_take T.F_u_law_take.kp (b_u_law_take T) (dag_o 1 (dag_v (de_callB call_len' (calsK_len hK) (by rfl) T.z_len PySem.boot_len (dh_sl 4)) dag_nil)))) (dss_one (ds_put 4 (de_var 5) (de_not (de_ix hK (dh_sl 4) (dh_sl 5)))))) dss_nil)))
      (ds2_cons hi h0 (ds_set (i := 6) nd rfl (.inr rfl) (de_op op_add ops_add (dh_de de_int) (dh_de (de_call hK hM (ok_u_law_take T) (hr.mono (by decide)) tk (by rfl) T.g_u_law_take T.F_u_law_take.kp (b_u_law_take T) (dag_o 1 (dag_v de_int dag_nil))))))
      (ds2_cons hi h0 (ds_set (i := 7) nd rfl (.inl rfl) (de_call hK hM (ok_u_law_cleaned T) (hr.mono (by decide)) tk (by rfl) T.g_u_law_cleaned T.F_u_law_cleaned.kp (b_u_law_cleaned T) (dag_v (de_var 4) (dag_v (de_var 6) dag_nil))))
      (ds2_cons hi h0 (ds_if (dt_bool (dw_or (dt_cmp (op_neD hr.units) (opsK_ne hK) (dh_de (de_call hK hM (ok_cleaned T) (hr.mono (by decide)) tk (by rfl) T.g_cleaned T.F_cleaned.kp (b_cleaned T) (dag_v (dt_callTy call_tuple_of (caltK_tuple hK) (by rfl) T.z_tuple boot_tuple (dh_sl 4)) (dag_v (de_var 6) dag_nil)))) (dh_sl 7) (nomark _)) (dw_or (dt_cmp (op_neD hr.units) (opsK_ne hK) (dh_de (de_call hK hM (ok_changes T) (hr.mono (by decide)) tk (by rfl) T.g_changes T.F_changes.kp (b_changes T) (dag_v (de_var 4) (dag_v (de_var 6) dag_nil)))) (dh_de (de_call hK hM (ok_u_law_changes T) (hr.mono (by decide)) tk (by rfl) T.g_u_law_changes T.F_u_law_changes.kp (b_u_law_changes T) (dag_v (de_var 4) (dag_v (de_var 6) dag_nil)))) (nomark _)) (dw_or1 (dt_cmp (op_neD hr.units) (opsK_ne hK) (dh_de (de_call hK hM (ok_cleaned T) (hr.mono (by decide)) tk (by rfl) T.g_cleaned T.F_cleaned.kp (b_cleaned T) (dag_v (de_var 4) (dag_v de_int dag_nil)))) (dh_sl 4) (nomark _)))))) (dss_one (ds_ret de_bl)) dss_nil)
      (ds2_cons hi h0 (ds_set (i := 8) nd rfl (.inl rfl) (de_call hK hM (ok_runs_of T) (hr.mono (by decide)) tk (by rfl) T.g_runs_of T.F_runs_of.kp (b_runs_of T) (dag_v (de_var 4) dag_nil)))
      (ds2_cons hi h0 (ds_own (i := 9) nd rfl (.inl rfl) (dn_lst da_nil))
      (ds2_cons hi h0 (ds_for hp rfl (di_seq hK (de_var 8)) (dg_tup hK rfl (dgs_cons (dg_name (i := 10) nd rfl (.inl rfl)) (dgs_cons (dg_name (i := 11) nd rfl (.inr rfl)) dgs_nil))) (dss_one (ds_own (i := 9) nd rfl (.inl rfl) (dn_op op_cat opn_cat (dh_sl 9) (dh_de (DN.de (dn_op op_rep opn_rep (dh_de (DN.de (dn_lst (da_cons (de_var 10) da_nil)))) (dh_sl 11))))))))
      (ds2_cons hi h0 (ds_if (dt_bool (dw_or (dt_cmp (op_neD hr.units) (opsK_ne hK) (dh_sl 9) (dh_sl 4) (nomark _)) (dw_or (dt_val (de_callB (cr_any rfl) (calsK_any hK) (by rfl) T.z_any (by decide +kernel) (dh_de (DN.de (dn_lcj [(("one" : Str), 10), (("late" : Str), 20)] rfl nd (di_zip hK (by rfl) T.z_zip (de_var 8) (DN.de (dn_slice hK (dh_sl 8) (do_some de_int) do_none))) (blkOk_by (N := N_law) (sc := defScope s_law) (by decide +kernel)) (fun _ _ _ _ _ _ => (dg_tup hK rfl (dgs_cons (dg_name (i := 10) nd rfl (.inl rfl)) (dgs_cons (dg_name (i := 20) nd rfl (.inl rfl)) dgs_nil)))) (fun _ _ _ _ _ _ => dts_nil) (fun _ _ _ _ _ _ => (de_cmp (op_eqD hr.units) (opsK_eq hK) (dh_de (de_ix hK (dh_sl 10) (dh_de de_int))) (dh_de (de_ix hK (dh_sl 20) (dh_de de_int))) (nomark _)))))))) (dw_or1 (dt_val (de_callB (cr_any rfl) (calsK_any hK) (by rfl) T.z_any (by decide +kernel) (dh_de (DN.de (dn_lcj [(("one" : Str), 10), (("many" : Str), 11)] rfl nd (di_seq hK (de_var 8)) (blkOk_by (N := N_law) (sc := defScope s_law) (by decide +kernel)) (fun _ _ _ _ _ _ => (dg_tup hK rfl (dgs_cons (dg_name (i := 10) nd rfl (.inl rfl)) (dgs_cons (dg_name (i := 11) nd rfl (.inl rfl)) dgs_nil)))) (fun _ _ _ _ _ _ => dts_nil) (fun _ _ _ _ _ _ => (de_cmp op_lt ops_lt (dh_sl 11) (dh_de de_int) (nomark _)))))))))))) (dss_one (ds_ret de_bl)) dss_nil)
      (ds2_cons hi h0 (ds_parT (is := [12, 13]) hK rfl (dx_v de_int (dx_v de_int dx_nil)) (pgs_cons (pg_name (i := 12) nd rfl (.inl rfl)) (pgs_cons (pg_name (i := 13) nd rfl (.inl rfl)) pgs_nil)))
      (ds2_cons hi h0 (ds_for hp rfl (di_zip hK (by rfl) T.z_zip (de_var 4) (de_var 7)) (dg_tup hK rfl (dgs_cons (dg_name (i := 10) nd rfl (.inl rfl)) (dgs_cons (dg_name (i := 14) nd rfl (.inl rfl)) dgs_nil))) (dss_cons (ds_set (i := 13) nd rfl (.inl rfl) (de_if (dt_cmp (op_neD hr.units) (opsK_ne hK) (dh_sl 10) (dh_sl 14) (nomark _)) (de_op op_add ops_add (dh_sl 13) (dh_de de_int)) de_int)) (dss_one (ds_set (i := 12) nd rfl (.inl rfl) (de_callB2 (call_max2 rfl) cal2_max (by rfl) T.z_max (by decide +kernel) (dh_sl 12) (dh_sl 13))))))
      (ds2_cons hi h0 (ds_if (dt_bool (dw_or (dt_cmp (op_neD hr.units) (opsK_ne hK) (dh_de (de_call hK hM (ok_longest_noise T) (hr.mono (by decide)) tk (by rfl) T.g_longest_noise T.F_longest_noise.kp (b_longest_noise T) (dag_v (de_var 4) (dag_v (de_var 6) dag_nil)))) (dh_sl 12) (nomark _)) (dw_or1 (dt_bool (dw_and (dt_cmp op_ge ops_ge (dh_sl 12) (dh_sl 6) (nomark _)) (dw_and1 (dt_cmp op_gt ops_gt (dh_sl 12) (dh_de de_int) (nomark _)))))))) (dss_one (ds_ret de_bl)) dss_nil)
      (ds2_cons hi h0 (ds_for hp rfl (di_seq hK (de_tup (da_cons de_int (da_cons de_int (da_cons de_int (da_cons de_int da_nil)))))) (dg_name (i := 11) nd rfl (.inr rfl)) (dss_cons (ds_setLcj (i := 15) [(("one" : Str), 10)] rfl nd rfl rfl (sw_true rfl rfl rfl (by decide +kernel)) (di_r2 (by rfl) T.z_range de_int de_int) (blkOk_by (N := N_law) (sc := defScope s_law) (by decide +kernel)) (fun _ _ _ _ _ _ => (dg_name (i := 10) nd rfl (.inl rfl))) (fun _ _ _ _ _ _ => (dts_one (dt_cmp op_le ops_le (dh_de (de_callB call_len' (calsK_len hK) (by rfl) T.z_len PySem.boot_len (dh_de (de_call hK hM (ok_u_law_changes T) (hr.mono (by decide)) Dn.takes0 (by rfl) T.g_u_law_changes T.F_u_law_changes.kp (b_u_law_changes T) (dag_v (de_var 4) (dag_v (de_var 10) dag_nil)))))) (dh_sl 11) (nomark _)))) (fun _ _ _ _ _ _ => (de_var 10))) (dss_one (ds_if (dt_cmp (op_neD hr.units) (opsK_ne hK) (dh_de (de_call hK hM (ok_least_hold T) (hr.mono (by decide)) tk (by rfl) T.g_least_hold T.F_least_hold.kp (b_least_hold T) (dag_v (de_var 4) (dag_v (de_var 11) dag_nil)))) (dh_de (de_if (dt_cmp (op_neD hr.units) (opsK_ne hK) (dh_sl 15) (dh_de (DN.de (dn_lst da_nil))) (nomark _)) (de_ix hK (dh_sl 15) (dh_de de_int)) de_non)) (nomark _)) (dss_one (ds_ret de_bl)) dss_nil))))
      (ds2_cons hi h0 (ds_set (i := 16) nd rfl (.inl rfl) (de_cmp (op_eqD hr.units) (opsK_eq hK) (dh_de (DN.de (dn_lcj [(("tick" : Str), 21), (("word" : Str), 22)] rfl nd (di_seq hK (de_call hK hM (ok_u_law_changes T) (hr.mono (by decide)) tk (by rfl) T.g_u_law_changes T.F_u_law_changes.kp (b_u_law_changes T) (dag_v (de_var 4) (dag_v (de_var 6) dag_nil)))) (blkOk_by (N := N_law) (sc := defScope s_law) (by decide +kernel)) (fun _ _ _ _ _ _ => (dg_tup hK rfl (dgs_cons (dg_name (i := 21) nd rfl (.inl rfl)) (dgs_cons (dg_name (i := 22) nd rfl (.inl rfl)) dgs_nil)))) (fun _ _ _ _ _ _ => dts_nil) (fun _ _ _ _ _ _ => (de_var 22))))) (dh_de (DN.de (dn_lcj [(("tick" : Str), 21), (("word" : Str), 22)] rfl nd (di_seq hK (de_call hK hM (ok_u_law_changes T) (hr.mono (by decide)) tk (by rfl) T.g_u_law_changes T.F_u_law_changes.kp (b_u_law_changes T) (dag_v (de_var 2) (dag_v de_int dag_nil)))) (blkOk_by (N := N_law) (sc := defScope s_law) (by decide +kernel)) (fun _ _ _ _ _ _ => (dg_tup hK rfl (dgs_cons (dg_name (i := 21) nd rfl (.inl rfl)) (dgs_cons (dg_name (i := 22) nd rfl (.inl rfl)) dgs_nil)))) (fun _ _ _ _ _ _ => dts_nil) (fun _ _ _ _ _ _ => (de_var 22))))) (nomark _)))
      (ds2_cons hi h0 (ds_set (i := 17) nd rfl (.inl rfl) (de_call hK hM (ok_delays T) (hr.mono (by decide)) tk (by rfl) T.g_delays T.F_delays.kp (b_delays T) (dag_v (de_var 4) (dag_v (de_var 2) (dag_v (de_var 6) dag_nil)))))
      (ds2_cons hi h0 (ds_if (dt_bool (dw_or (dt_cmp (op_eqD hr.units) (opsK_eq hK) (dh_de (de_cmp op_isN ops_isN (dh_sl 17) (dh_de de_non) (nomark _))) (dh_sl 16) (nomark _)) (dw_or1 (dt_bool (dw_and (dt_tru hK (dh_sl 16)) (dw_and1 (dt_cmp (op_neD hr.units) (opsK_ne hK) (dh_sl 17) (dh_de (DN.de (dn_lcj [(("one" : Str), 10), (("late" : Str), 20)] rfl nd (di_zip hK (by rfl) T.z_zip (de_call hK hM (ok_u_law_changes T) (hr.mono (by decide)) tk (by rfl) T.g_u_law_changes T.F_u_law_changes.kp (b_u_law_changes T) (dag_v (de_var 2) (dag_v de_int dag_nil))) (de_call hK hM (ok_u_law_changes T) (hr.mono (by decide)) tk (by rfl) T.g_u_law_changes T.F_u_law_changes.kp (b_u_law_changes T) (dag_v (de_var 4) (dag_v (de_var 6) dag_nil)))) (blkOk_by (N := N_law) (sc := defScope s_law) (by decide +kernel)) (fun _ _ _ _ _ _ => (dg_tup hK rfl (dgs_cons (dg_name (i := 10) nd rfl (.inl rfl)) (dgs_cons (dg_name (i := 20) nd rfl (.inl rfl)) dgs_nil)))) (fun _ _ _ _ _ _ => dts_nil) (fun _ _ _ _ _ _ => (de_op op_sub ops_sub (dh_de (de_ix hK (dh_sl 20) (dh_de de_int))) (dh_de (de_ix hK (dh_sl 10) (dh_de de_int)))))))) (nomark _)))))))) (dss_one (ds_ret de_bl)) dss_nil)
      (ds2_cons hi h0 (ds_set (i := 18) nd rfl (.inl rfl) (de_call hK hM (ok_cleaned T) (hr.mono (by decide)) tk (by rfl) T.g_cleaned T.F_cleaned.kp (b_cleaned T) (dag_v (de_var 4) (dag_v (de_var 6) dag_nil))))
      (ds2_cons hi h0 (ds_if (dt_bool (dw_or (dt_cmp (op_neD hr.units) (opsK_ne hK) (dh_de (de_call hK hM (ok_same_events T) (hr.mono (by decide)) tk (by rfl) T.g_same_events T.F_same_events.kp (b_same_events T) (dag_v (de_var 4) (dag_v (de_var 2) (dag_v (de_var 6) dag_nil))))) (dh_de (de_cmp (op_eqD hr.units) (opsK_eq hK) (dh_de (DN.de (dn_lcj [(("tick" : Str), 21), (("word" : Str), 22)] rfl nd (di_seq hK (de_call hK hM (ok_u_law_changes T) (hr.mono (by decide)) tk (by rfl) T.g_u_law_changes T.F_u_law_changes.kp (b_u_law_changes T) (dag_v (de_var 4) (dag_v (de_var 6) dag_nil)))) (blkOk_by (N := N_law) (sc := defScope s_law) (by decide +kernel)) (fun _ _ _ _ _ _ => (dg_tup hK rfl (dgs_cons (dg_name (i := 21) nd rfl (.inl rfl)) (dgs_cons (dg_name (i := 22) nd rfl (.inl rfl)) dgs_nil)))) (fun _ _ _ _ _ _ => dts_nil) (fun _ _ _ _ _ _ => (de_var 22))))) (dh_de (DN.de (dn_lcj [(("tick" : Str), 21), (("word" : Str), 22)] rfl nd (di_seq hK (de_call hK hM (ok_u_law_changes T) (hr.mono (by decide)) tk (by rfl) T.g_u_law_changes T.F_u_law_changes.kp (b_u_law_changes T) (dag_v (de_var 2) (dag_v (de_var 6) dag_nil)))) (blkOk_by (N := N_law) (sc := defScope s_law) (by decide +kernel)) (fun _ _ _ _ _ _ => (dg_tup hK rfl (dgs_cons (dg_name (i := 21) nd rfl (.inl rfl)) (dgs_cons (dg_name (i := 22) nd rfl (.inl rfl)) dgs_nil)))) (fun _ _ _ _ _ _ => dts_nil) (fun _ _ _ _ _ _ => (de_var 22))))) (nomark _))) (nomark _)) (dw_or (dt_bool (dw_and (dt_cmp op_le ops_le (dh_sl 6) (dh_de de_int) (nomark _)) (dw_and1 (dt_cmp (op_neD hr.units) (opsK_ne hK) (dh_de (de_call hK hM (ok_delays T) (hr.mono (by decide)) tk (by rfl) T.g_delays T.F_delays.kp (b_delays T) (dag_v (de_var 2) (dag_v (de_var 2) (dag_v (de_var 6) dag_nil))))) (dh_de (DN.de (dn_lcj [(("change" : Str), 23)] rfl nd (di_seq hK (de_call hK hM (ok_u_law_changes T) (hr.mono (by decide)) tk (by rfl) T.g_u_law_changes T.F_u_law_changes.kp (b_u_law_changes T) (dag_v (de_var 2) (dag_v de_int dag_nil)))) (blkOk_by (N := N_law) (sc := defScope s_law) (by decide +kernel)) (fun _ _ _ _ _ _ => (dg_name (i := 23) nd rfl (.inl rfl))) (fun _ _ _ _ _ _ => dts_nil) (fun _ _ _ _ _ _ => (de_op op_sub ops_sub (dh_sl 6) (dh_de de_int)))))) (nomark _))))) (dw_or1 (dt_cmp (op_neD hr.units) (opsK_ne hK) (dh_de (de_call hK hM (ok_cleaned T) (hr.mono (by decide)) tk (by rfl) T.g_cleaned T.F_cleaned.kp (b_cleaned T) (dag_v (de_var 18) (dag_v de_int dag_nil)))) (dh_sl 18) (nomark _)))))) (dss_one (ds_ret de_bl)) dss_nil)
      (ds2_cons hi h0 (ds_if (dt_not (dt_val (de_call hK hM (ok_u_law_repeats_right T) (hr.mono (by decide)) tk (by rfl) T.g_u_law_repeats_right T.F_u_law_repeats_right.kp (b_u_law_repeats_right T) (dag_o 1 (dag_v (de_var 4) dag_nil))))) (dss_one (ds_ret de_bl)) dss_nil)
      (ds2_wrong (i := 19) (ds := wrongD) hi h0 g0 hlf nd rfl (.inl rfl) (dzs_cons (dz_tup (dzs_cons (dz_lam TB rfl rfl rfl (noNm_of (by decide +kernel))) (dzs_cons (dz_tup (dzs_cons dz_str (dzs_cons dz_non dzs_nil))) dzs_nil))) (dzs_cons (dz_tup (dzs_cons (dz_lam TB rfl rfl rfl (noNm_of (by decide +kernel))) (dzs_cons (dz_tup (dzs_cons dz_str (dzs_cons dz_int dzs_nil))) dzs_nil))) (dzs_cons (dz_tup (dzs_cons (dz_lam TB rfl rfl rfl (noNm_of (by decide +kernel))) (dzs_cons dz_str dzs_nil))) (dzs_cons (dz_tup (dzs_cons (dz_lam TB rfl rfl rfl (noNm_of (by decide +kernel))) (dzs_cons dz_str dzs_nil))) (dzs_cons (dz_tup (dzs_cons (dz_lam TB rfl rfl rfl (noNm_of (by decide +kernel))) (dzs_cons dz_str dzs_nil))) (dzs_cons (dz_tup (dzs_cons (dz_lam TB rfl rfl rfl (noNm_of (by decide +kernel))) (dzs_cons dz_str dzs_nil))) (dzs_cons (dz_tup (dzs_cons (dz_lam TB rfl rfl rfl (noNm_of (by decide +kernel))) (dzs_cons (dz_tup (dzs_cons dz_str (dzs_cons dz_int dzs_nil))) dzs_nil))) (dzs_cons (dz_tup (dzs_cons (dz_lam TB rfl rfl rfl (noNm_of (by decide +kernel))) (dzs_cons (dz_tup (dzs_cons dz_str (dzs_cons dz_non dzs_nil))) dzs_nil))) (dzs_cons (dz_tup (dzs_cons (dz_lam TB rfl rfl rfl (noNm_of (by decide +kernel))) (dzs_cons dz_str dzs_nil))) (dzs_cons (dz_tup (dzs_cons (dz_lam TB rfl rfl rfl (noNm_of (by decide +kernel))) (dzs_cons dz_str dzs_nil))) (dzs_cons (dz_tup (dzs_cons (dz_lam TB rfl rfl rfl (noNm_of (by decide +kernel))) (dzs_cons dz_str dzs_nil))) (dzs_cons (dz_tup (dzs_cons (dz_lam TB rfl rfl rfl (noNm_of (by decide +kernel))) (dzs_cons dz_str dzs_nil))) (dzs_cons (dz_tup (dzs_cons (dz_lam TB rfl rfl rfl (noNm_of (by decide +kernel))) (dzs_cons (dz_tup (dzs_cons dz_str (dzs_cons dz_non dzs_nil))) dzs_nil))) dzs_nil))))))))))))) (dss_one (ds_ret (de_callB (cr_all rfl) (calsK_all hK) (by rfl) T.z_all (by decide +kernel) (dh_de (DN.de (dn_lcj [(("deed" : Str), 24), (("part" : Str), 25)] rfl nd (di_seq hK (de_var 19)) (blkOk_by (N := N_law) (sc := defScope s_law) (by decide +kernel)) (fun _ _ _ _ _ _ => (dg_tup hK rfl (dgs_cons (dg_name (i := 24) nd rfl (.inl rfl)) (dgs_cons (dg_name (i := 25) nd rfl (.inl rfl)) dgs_nil)))) (fun _ _ _ _ _ _ => dts_nil) (fun _ _ _ _ _ _ => (de_cmp (op_eqD hr.units) (opsK_eq hK) (dh_de (de_call hK hM (ok_u_law_refused T) (hr.mono (by decide)) Dn.takes0 (by rfl) T.g_u_law_refused T.F_u_law_refused.kp (b_u_law_refused T) (dag_v (de_var 24) dag_nil))) (dh_sl 25) (nomark _))))))))))))))))))))))))))))))))
end
end W23

set_option Elab.async false
set_option linter.all false
set_option maxRecDepth 100000
set_option maxHeartbeats 4000000
namespace W23
open Dn
theorem isint (v : Int) : f_is_integer [.va (.int v)] = .ok (.bl true) none := by rfl
theorem isnum (v lo hi : Int) : f_is_number [.va (.int v), .va (.int lo), .va (.int hi)] = .ok (.bl (decide (lo ≤ v) && decide (v ≤ hi))) none := by
  unfold f_is_number
  refine fn_rt (st := [.va (.int v), .va (.int lo), .va (.int hi)]) ?_ rfl
  unfold m_is_number
  simp [isint]
  cases decide (lo ≤ v) <;> simp
def Smp (d : D) (bs : List Bool) : Prop := d = .lst (bs.map D.bl) ∨ d = .tup (bs.map D.bl)
theorem isrow {d : D} {bs : List Bool} (h : Smp d bs) : f_is_row [.va d] = .ok (.bl true) none := by
  rcases h with rfl | rfl <;> rfl
theorem enS {d : D} {bs : List Bool} (h : Smp d bs) {i : Nat} {st : S} (hs : st[i]? = some (.va d)) : mEnS (mVar i) st = .ok (enumD 0 (bs.map D.bl)) st := by
  rcases h with rfl | rfl <;> simp [hs]
theorem isS {d : D} {bs : List Bool} (h : Smp d bs) {i : Nat} {st : S} (hs : st[i]? = some (.va d)) : mIs (mVar i) st = .ok (bs.map D.bl) st := by
  rcases h with rfl | rfl <;> simp [hs]
theorem chk {d : D} {bs : List Bool} (hd : Smp d bs) {h : Int} (h1 : 1 ≤ h) (h9 : h ≤ 9) : f_check_samples [.va d, .va (.int h)] = .ok .non none := by
  unfold f_check_samples
  let o := (bs.zipIdx 0).foldl (fun (_ : SV × SV) (a : Bool × Nat) => (SV.va (.int (a.2 : Nat)), SV.va (.bl a.1))) (.un, .un)
  refine fn_nx (st := [.va d, .va (.int h), o.1, o.2]) ?_ rfl
  unfold m_check_samples
  refine sq_of (s1 := [.va d, .va (.int h), .un, .un]) (by simp [isrow hd]) (sq_of (s1 := [.va d, .va (.int h), o.1, o.2]) (for_of (enS hd rfl) ?_) ?_)
  · rw [enumD_map]
    refine for_fold0 (fun o : SV × SV => [.va d, .va (.int h), o.1, o.2]) (fun p => .tup [.int (p.2 : Nat), .bl p.1]) (fun _ a => (.va (.int (a.2 : Nat)), .va (.bl a.1))) (bs.zipIdx 0) (.un, .un) ?_
    exact fun a s _ => ⟨_, rfl, .inl rfl⟩
  · rw [v_sIf]
    simp [isnum, h1, h9]
/-! ### cleaned -/
abbrev CT := List Bool × Bool × Int
def clStep (h : Int) (s : CT) (b : Bool) : CT :=
  let r := if b = s.2.1 then 0 else s.2.2 + 1
  if r = h then (s.1 ++ [b], b, 0) else (s.1 ++ [s.2.1], s.2.1, r)
def clean (h : Int) (bs : List Bool) : List Bool := (bs.foldl (clStep h) ([], false, 0)).1
theorem clStep_len (h : Int) (s : CT) (b : Bool) : (clStep h s b).1.length = s.1.length + 1 := by
  unfold clStep
  simp only
  split <;> split <;> simp
theorem cl_len (h : Int) : ∀ (bs : List Bool) (s : CT), (bs.foldl (clStep h) s).1.length = s.1.length + bs.length
  | [], s => rfl
  | b :: bs, s => by
    rw [List.foldl_cons, cl_len h bs, clStep_len, List.length_cons]
    omega
theorem clean_len (h : Int) (bs : List Bool) : (clean h bs).length = bs.length := by
  unfold clean
  rw [cl_len]
  simp
theorem cleaned_ok {d : D} {bs : List Bool} (hd : Smp d bs) {h : Int} (h1 : 1 ≤ h) (h9 : h ≤ 9) (hl : bs.length < 1000) : f_cleaned [.va d, .va (.int h)] = .ok (.lst ((clean h bs).map D.bl)) none := by
  unfold f_cleaned
  let emb : CT × SV → S := fun p => [.va d, .va (.int h), .ow (.lst (p.1.1.map D.bl)), .va (.bl p.1.2.1), .va (.int p.1.2.2), p.2]
  let step : CT × SV → Bool → CT × SV := fun p b => (clStep h p.1 b, .va (.bl b))
  have hf : ∀ (bs : List Bool) (c : CT) (o : SV), (bs.foldl step (c, o)).1 = bs.foldl (clStep h) c := fun bs => by
    induction bs with
    | nil => exact fun c o => rfl
    | cons b r ih => exact fun c o => ih _ _
  let fin := bs.foldl step (([], false, 0), .un)
  have e1 : fin.1 = bs.foldl (clStep h) ([], false, 0) := hf bs _ _
  rw [show clean h bs = fin.1.1 from by rw [e1]; rfl]
  refine fn_rt (st := [.va d, .va (.int h), .va (.lst (fin.1.1.map D.bl)), .va (.bl fin.1.2.1), .va (.int fin.1.2.2), fin.2]) ?_ rfl
  unfold m_cleaned
  refine sq_of (s1 := [.va d, .va (.int h), .un, .un, .un, .un]) (by simp [chk hd h1 h9]) (sq_of (s1 := emb (([], false, 0), .un)) (by simp [emb]) (sq_of (s1 := emb fin) (for_of (isS hd rfl) ?_) ?_))
  · refine (for_fold emb D.bl step (fun i p => p.1.1.length = i) bs 0 (([], false, 0), .un) rfl fun i a s e q => ⟨⟨_, rfl, .inl ?_⟩, ?_⟩).1
    · obtain ⟨⟨f, n, r⟩, o⟩ := s
      have hi : i < bs.length := (List.getElem?_eq_some_iff.mp e).1
      have q : f.length = 0 + i := q
      have hlen : f.length < 16777216 := by omega
      by_cases c1 : a = n
      · subst c1
        by_cases c2 : (0 : Int) = h
        · exfalso; omega
        · simp [emb, step, clStep, c2, hlen]
      · by_cases c2 : r + 1 = h
        · simp [emb, step, clStep, c1, c2, hlen]
        · simp [emb, step, clStep, c1, c2, hlen]
    · show (clStep h s.1 a).1.length = _
      rw [clStep_len]
      have q : s.1.1.length = 0 + i := q
      omega
  · simp [emb]
end W23

set_option Elab.async false
set_option linter.all false
set_option maxRecDepth 100000
set_option maxHeartbeats 4000000
namespace W23
open Dn
/-! ### changes -/
def wd (b : Bool) : PySem.Str := if b then "down" else "up"
abbrev cgD (p : Nat × Bool) : D := .tup [.int (p.1 : Nat), .str (wd p.2)]
def chL : Bool → Nat → List Bool → List (Nat × Bool)
  | _, _, [] => []
  | bf, t, b :: r => if b = bf then chL b (t + 1) r else (t, b) :: chL b (t + 1) r
theorem chL_len : ∀ (bs : List Bool) (bf : Bool) (t : Nat), (chL bf t bs).length ≤ bs.length
  | [], _, _ => Nat.le_refl _
  | b :: r, bf, t => by
    have := chL_len r b (t + 1)
    unfold chL
    split <;> simp <;> omega
abbrev GT := List (Nat × Bool) × Bool
def chStep (s : GT) (p : Bool × Nat) : GT := (if p.1 = s.2 then s.1 else s.1 ++ [(p.2, p.1)], p.1)
theorem ch_fold : ∀ (bs : List Bool) (f : List (Nat × Bool)) (bf : Bool) (t : Nat), ((bs.zipIdx t).foldl chStep (f, bf)).1 = f ++ chL bf t bs
  | [], f, bf, t => by simp [chL]
  | b :: r, f, bf, t => by
    rw [List.zipIdx_cons, List.foldl_cons]
    unfold chStep chL
    by_cases c : b = bf
    · simp only [c, if_true]
      exact ch_fold r f bf (t + 1)
    · simp only [c, if_false]
      rw [show (f ++ (t, b) :: chL b (t + 1) r) = (f ++ [(t, b)]) ++ chL b (t + 1) r by simp]
      exact ch_fold r (f ++ [(t, b)]) b (t + 1)
def chg (h : Int) (bs : List Bool) : List (Nat × Bool) := chL false 0 (clean h bs)
theorem changes_ok {d : D} {bs : List Bool} (hd : Smp d bs) {h : Int} (h1 : 1 ≤ h) (h9 : h ≤ 9) (hl : bs.length < 1000) : f_changes [.va d, .va (.int h)] = .ok (.lst ((chg h bs).map cgD)) none := by
  unfold f_changes
  let emb : GT × (SV × SV) → S := fun p => [.va d, .va (.int h), .ow (.lst (p.1.1.map cgD)), .va (.bl p.1.2), p.2.1, p.2.2]
  let step : GT × (SV × SV) → Bool × Nat → GT × (SV × SV) := fun p b => (chStep p.1 b, (.va (.int (b.2 : Nat)), .va (.bl b.1)))
  have hf : ∀ (l : List (Bool × Nat)) (c : GT) (o : SV × SV), (l.foldl step (c, o)).1 = l.foldl chStep c := fun l => by
    induction l with
    | nil => exact fun c o => rfl
    | cons b r ih => exact fun c o => ih _ _
  let fin := ((clean h bs).zipIdx 0).foldl step (([], false), (.un, .un))
  have e1 : fin.1.1 = chg h bs := by
    show (((clean h bs).zipIdx 0).foldl step (([], false), (.un, .un))).1.1 = _
    rw [hf, ch_fold]
    rfl
  rw [← e1]
  refine fn_rt (st := [.va d, .va (.int h), .va (.lst (fin.1.1.map cgD)), .va (.bl fin.1.2), fin.2.1, fin.2.2]) ?_ rfl
  unfold m_changes
  refine sq_of (s1 := emb (([], false), (.un, .un))) (by simp [emb]) (sq_of (s1 := emb fin) (for_of (ds := enumD 0 ((clean h bs).map D.bl)) (s1 := emb (([], false), (.un, .un))) ?_ ?_) ?_)
  · simp [emb, cleaned_ok hd h1 h9 hl]
  · rw [enumD_map]
    refine (for_fold emb (fun p : Bool × Nat => .tup [.int (p.2 : Nat), .bl p.1]) step (fun i p => p.1.1.length ≤ i) ((clean h bs).zipIdx 0) 0 (([], false), (.un, .un)) (Nat.le_refl _) ?_).1
    intro i a s e q
    obtain ⟨⟨f, n⟩, o1, o2⟩ := s
    obtain ⟨b, t⟩ := a
    have hi : i < ((clean h bs).zipIdx 0).length := (List.getElem?_eq_some_iff.mp e).1
    rw [List.length_zipIdx, clean_len] at hi
    have q : f.length ≤ 0 + i := q
    have hlen : f.length < 16777216 := by omega
    refine ⟨⟨_, rfl, .inl ?_⟩, ?_⟩
    · by_cases c1 : b = n
      · simp [emb, step, chStep, c1]
      · cases b <;> simp [emb, step, chStep, c1, hlen, wd, truD]
    · show (chStep (f, n) (b, t)).1.length ≤ _
      unfold chStep
      simp only
      split
      · omega
      · simp; omega
  · simp [emb]
/-! ### the law's own cleaning -/
theorem tw_len (now : Bool) : ∀ (q : List Bool) (k : Nat), k ≤ (q.takeWhile (· != now)).length ↔ (k ≤ q.length ∧ ∀ y ∈ q.take k, y ≠ now)
  | [], k => by
    cases k with
    | zero => simp
    | succ k => simp
  | b :: q, 0 => by simp
  | b :: q, k + 1 => by
    have ih := tw_len now q k
    by_cases c : b = now
    · subst c
      simp
    · rw [List.takeWhile_cons_of_pos (by simpa using c)]
      simp only [List.length_cons, Nat.add_le_add_iff_right, ih, List.take_succ_cons, List.mem_cons]
      constructor
      · rintro ⟨h1, h2⟩
        refine ⟨h1, fun y hy => ?_⟩
        rcases hy with rfl | hy
        · exact c
        · exact h2 y hy
      · rintro ⟨h1, h2⟩
        exact ⟨h1, fun y hy => h2 y (.inr hy)⟩
def ClInv (h : Nat) (p : List Bool) (s : CT) : Prop := ∃ run : Nat, s.2.2 = (run : Int) ∧ run < h ∧ run = (p.reverse.takeWhile (· != s.2.1)).length ∧ s.2.1 = s.1.getLastD false
theorem clInv_step {h : Nat} (h1 : 1 ≤ h) {p : List Bool} {s : CT} (I : ClInv h p s) (b : Bool) : ClInv h (p ++ [b]) (clStep h s b) := by
  obtain ⟨f, n, r⟩ := s
  obtain ⟨run, e1, e2, e3, e4⟩ := I
  simp only at e1 e2 e3 e4
  unfold clStep
  simp only
  by_cases c : b = n
  · subst c
    rw [if_pos rfl, if_neg (by omega)]
    exact ⟨0, rfl, by omega, by simp, by simp⟩
  · rw [if_neg c]
    by_cases c2 : r + 1 = h
    · rw [if_pos c2]
      exact ⟨0, rfl, by omega, by simp, by simp⟩
    · rw [if_neg c2]
      refine ⟨run + 1, by simp [e1], by omega, ?_, by simp⟩
      simp only [List.reverse_append, List.reverse_cons, List.reverse_nil, List.nil_append, List.singleton_append]
      rw [List.takeWhile_cons_of_pos (by simpa using c), List.length_cons, ← e3]
theorem clInv_all {h : Nat} (h1 : 1 ≤ h) : ∀ (bs p : List Bool) (s : CT), ClInv h p s → ClInv h (p ++ bs) (bs.foldl (clStep h) s)
  | [], p, s, I => by simpa using I
  | b :: bs, p, s, I => by
    rw [List.foldl_cons, show p ++ b :: bs = (p ++ [b]) ++ bs by simp]
    exact clInv_all h1 bs _ _ (clInv_step h1 I b)
theorem clInv_of {h : Nat} (h1 : 1 ≤ h) (bs : List Bool) : ClInv h bs (bs.foldl (clStep h) ([], false, 0)) := by
  have := clInv_all h1 bs [] ([], false, 0) ⟨0, rfl, by omega, rfl, rfl⟩
  simpa using this
theorem bool3 : ∀ y b n : Bool, y ≠ n → ¬ b = n → y = b := by decide
/-- what the law's own step picks -/
theorem win {h : Nat} (h1 : 1 ≤ h) {p : List Bool} {s : CT} (I : ClInv h p s) (b : Bool) : ∃ (x : Bool) (r : List Bool), (p ++ [b]).drop (p.length + 1 - h) = x :: r ∧
    (if (x :: r).length = h ∧ x :: r = List.replicate h x then x else s.2.1) = (if b = s.2.1 then s.2.1 else if s.2.2 + 1 = (h : Int) then b else s.2.1) := by
  obtain ⟨f, n, r0⟩ := s
  obtain ⟨run, e1, e2, e3, e4⟩ := I
  simp only at e1 e2 e3 e4 ⊢
  subst e1
  have hW : (p ++ [b]).drop (p.length + 1 - h) = (p.drop (p.length + 1 - h)) ++ [b] := by
    rw [List.drop_append_of_le_length (by omega)]
  have hrev : (p.drop (p.length + 1 - h)).reverse = p.reverse.take (h - 1) := by
    rw [List.take_reverse]
    congr 2
    omega
  generalize hV : p.drop (p.length + 1 - h) = V at hW hrev
  obtain ⟨x, r, hx⟩ : ∃ x r, V ++ [b] = x :: r := by
    cases V with
    | nil => exact ⟨b, [], rfl⟩
    | cons y r => exact ⟨y, r ++ [b], rfl⟩
  refine ⟨x, r, by rw [hW, hx], ?_⟩
  rw [← hx]
  have hb : V ++ [b] = List.replicate h x → x = b := fun e => by
    have : b ∈ List.replicate h x := by rw [← e]; simp
    exact (List.eq_of_mem_replicate this).symm
  by_cases c : b = n
  · rw [if_pos c]
    split
    · rename_i hc
      rw [hb hc.2, c]
    · rfl
  · rw [if_neg c]
    have key : ((V ++ [b]).length = h ∧ V ++ [b] = List.replicate h x) ↔ ((run : Int) + 1 = (h : Int)) := by
      have tl := tw_len n p.reverse (h - 1)
      rw [← e3, ← hrev] at tl
      simp only [List.length_reverse, List.mem_reverse] at tl
      constructor
      · rintro ⟨a1, a2⟩
        have : h - 1 ≤ run := tl.mpr ⟨by
          have : V.length = h - 1 := by simp at a1; omega
          rw [← hV, List.length_drop] at this
          omega, fun y hy z => by
            have m : y ∈ List.replicate h x := by rw [← a2]; simp [hy]
            have := List.eq_of_mem_replicate m
            rw [hb a2] at this
            exact c (by rw [← this, z])⟩
        omega
      · intro hr
        obtain ⟨a1, a2⟩ := tl.mp (by omega)
        have hlen : V.length = h - 1 := by
          rw [← hV, List.length_drop]
          omega
        have all : ∀ y ∈ V, y = b := fun y hy => bool3 y b n (a2 y hy) c
        have eV : V ++ [b] = List.replicate h b := by
          rw [List.eq_replicate_iff]
          refine ⟨by simp; omega, fun y hy => ?_⟩
          rcases List.mem_append.mp hy with hy | hy
          · exact all y hy
          · simpa using hy
        have xb : x = b := by
          have : x ∈ V ++ [b] := by rw [hx]; simp
          rw [eV] at this
          exact List.eq_of_mem_replicate this
        exact ⟨by simp; omega, by rw [xb]; exact eV⟩
    by_cases c2 : (run : Int) + 1 = (h : Int)
    · rw [if_pos c2, if_pos (key.mpr c2)]
      exact hb (key.mpr c2).2
    · rw [if_neg c2, if_neg (fun z => c2 (key.mp z))]
end W23

set_option Elab.async false
set_option linter.all false
set_option maxRecDepth 4000
set_option maxHeartbeats 4000000
namespace W23
open Dn
/-! ### the law's own cleaning, changes -/
theorem ix_last {f : List Bool} (h : f ≠ []) : fIx (.lst (f.map D.bl)) (.int (-1)) = some (.bl (f.getLastD false)) := by
  rcases List.eq_nil_or_concat f with e | ⟨g, v, e⟩
  · exact absurd e h
  · subst e
    show L2.atI ((g.concat v).map D.bl) (-1) = _
    rw [List.concat_eq_append, List.map_append]
    simpa using L2.atI_last (g.map D.bl) (.bl v)
theorem ix_at {α : Type} {f : α → D} {l : List α} {j : Nat} {a : α} (h : l[j]? = some a) : fIx (.lst (l.map f)) (.int (j : Nat)) = some (f a) := by
  show L2.atI (l.map f) (j : Nat) = _
  exact L2.atI_nat (by rw [List.getElem?_map, h]; rfl)
theorem max_nat (i h : Nat) : (if ((i : Int) + 1 - (h : Int)) > (0 : Int) then ((i : Int) + 1 - (h : Int)) else 0) = ((i + 1 - h : Nat) : Int) := by
  split <;> omega
theorem cut_win {bs : List Bool} {i h : Nat} (hi : i < bs.length) : cutL (bs.map D.bl) (some ((i + 1 - h : Nat) : Int)) (some ((i : Int) + 1)) = ((bs.take (i + 1)).drop (i + 1 - h)).map D.bl := by
  unfold cutL
  rw [show ((i : Int) + 1) = ((i + 1 : Nat) : Int) by omega, HT.sIx_nat, HT.sIx_nat, List.length_map, List.drop_take, List.map_take, List.map_drop]
  rw [Nat.min_eq_left (by omega), Nat.min_eq_left (by omega)]
theorem eq_lstb (a b : List Bool) : fEq (.lst (a.map D.bl)) (.lst (b.map D.bl)) = some (.bl (decide (a = b))) := em_fEq (em_lst em_bl) a b
theorem ne_lstb (a b : List Bool) : fNe (.lst (a.map D.bl)) (.lst (b.map D.bl)) = some (.bl (!decide (a = b))) := em_fNe (em_lst em_bl) a b
theorem clean_succ {bs : List Bool} {i h : Nat} {b : Bool} (hb : bs[i]? = some b) : (bs.take (i + 1)).foldl (clStep h) ([], false, 0) = clStep h ((bs.take i).foldl (clStep h) ([], false, 0)) b := by
  rw [List.take_add_one, hb, List.foldl_append]
  rfl
theorem clStep_val {h : Int} (h0 : 0 ≠ h) (s : CT) (b : Bool) : (clStep h s b).1 = s.1 ++ [if b = s.2.1 then s.2.1 else if s.2.2 + 1 = h then b else s.2.1] := by
  unfold clStep
  simp only
  by_cases c : b = s.2.1
  · rw [if_pos c, if_pos c, if_neg h0]
  · rw [if_neg c, if_neg c]
    split <;> rfl
theorem lc_a {S0 H0 t n l : SV} (f : List Bool) : sSet 4 (mIf (asB (mB fNe (mSl 2) (mV (mLst (Dn.ret []))))) (mB fIx (mSl 2) (mV (mNeg (Dn.ret (.int 1))))) (Dn.ret (.bl false))) [S0, H0, .ow (.lst (f.map D.bl)), t, n, l] = .nx [S0, H0, .ow (.lst (f.map D.bl)), t, .va (.bl (f.getLastD false)), l] := by
  have n0 := ne_lstb f []
  rw [List.map_nil] at n0
  by_cases c : f = []
  · subst c
    rw [List.map_nil] at n0 ⊢
    simp [n0]
  · have il := ix_last c
    simp [n0, c, il]
theorem lc_b {bs : List Bool} {f t n l : SV} {a h : Nat} (hi : a < bs.length) : sOwn 5 (mSlice fSlL (mSl 0) (mPart (mB fMax (mV (Dn.ret (.int 0))) (mV (mB fSub (mV (mB fAdd (mSl 3) (mV (Dn.ret (.int 1))))) (mSl 1))))) (mPart (mB fAdd (mSl 3) (mV (Dn.ret (.int 1)))))) [.va (.lst (bs.map D.bl)), .va (.int (h : Nat)), f, .va (.int (a : Nat)), n, l] =
    .nx [.va (.lst (bs.map D.bl)), .va (.int (h : Nat)), f, .va (.int (a : Nat)), n, .ow (.lst (((bs.take (a + 1)).drop (a + 1 - h)).map D.bl))] := by
  simp only [v_sOwn, v_mSlice, v_mSl, v_bnd', v_mPart, v_mB, v_mV, v_ret, v_lookS, v_lookV, v_ofO, v_fI, List.getElem?_cons_zero, List.getElem?_cons_succ, Option.bind_some, v_svD1, v_svD2]
  rw [max_nat]
  simp only [fSlL]
  rw [cut_win hi]
  simp
theorem lc_c0 {S0 t : SV} {F L R : List D} {x n k2 : Bool} {h : Nat} (hfl : F.length < 16777216) (i0 : fIx (.lst L) (.int 0) = some (.bl x)) (rp : fRep (.lst [.bl x]) (.int (h : Nat)) = some (.lst R)) (el : fEq (.lst L) (.lst R) = some (.bl k2)) :
    sApp 2 (mIf (mAnd (asB (mB fEq (mV (mC1 fLen (mSl 5))) (mSl 1))) (asB (mB fEq (mSl 5) (mV (mB fRep (mV (mLst (mCons (mB fIx (mSl 5) (mV (Dn.ret (.int 0)))) (Dn.ret [])))) (mSl 1)))))) (mB fIx (mSl 5) (mV (Dn.ret (.int 0)))) (mVar 4))
    [S0, .va (.int (h : Nat)), .ow (.lst F), t, .va (.bl n), .ow (.lst L)] =
    .nx [S0, .va (.int (h : Nat)), .ow (.lst (F ++ [.bl (if L.length = h ∧ k2 = true then x else n)])), t, .va (.bl n), .ow (.lst L)] := by
  have e5 : ([S0, .va (.int (h : Nat)), .ow (.lst F), t, .va (.bl n), .ow (.lst L)] : S)[5]?.bind svD = some (.lst L) := rfl
  have e1 : ([S0, .va (.int (h : Nat)), .ow (.lst F), t, .va (.bl n), .ow (.lst L)] : S)[1]?.bind svD = some (.int (h : Nat)) := rfl
  have d1 : mB fIx (mSl 5) (mV (Dn.ret (.int 0))) [S0, .va (.int (h : Nat)), .ow (.lst F), t, .va (.bl n), .ow (.lst L)] = .ok (.bl x) [S0, .va (.int (h : Nat)), .ow (.lst F), t, .va (.bl n), .ow (.lst L)] := mB_of (mSl_of e5) (mV_of rfl) (lkS_of e5) rfl i0
  have d2 : mLst (mCons (mB fIx (mSl 5) (mV (Dn.ret (.int 0)))) (Dn.ret [])) [S0, .va (.int (h : Nat)), .ow (.lst F), t, .va (.bl n), .ow (.lst L)] = .ok (.lst [.bl x]) [S0, .va (.int (h : Nat)), .ow (.lst F), t, .va (.bl n), .ow (.lst L)] := by
    rw [v_mLst, v_bnd', v_mCons, v_bnd', d1]
    rfl
  have d3 := asB_of (mB_of (mSl_of e5) (mV_of (mB_of (mV_of d2) (mSl_of e1) rfl (lkS_of e1) rp)) (lkS_of e5) rfl el)
  have d4 : asB (mB fEq (mV (mC1 fLen (mSl 5))) (mSl 1)) [S0, .va (.int (h : Nat)), .ow (.lst F), t, .va (.bl n), .ow (.lst L)] = .ok (decide ((L.length : Int) = h)) [S0, .va (.int (h : Nat)), .ow (.lst F), t, .va (.bl n), .ow (.lst L)] :=
    asB_of (mB_of (mV_of (mC1_of (mSl_of e5) (lkS_of e5) rfl)) (mSl_of e1) rfl (lkS_of e1) (eq_int _ _))
  have d5 := mAnd_of d4 fun _ => d3
  refine (app_of rfl (mIf_of d5 ?_) hfl).trans rfl
  by_cases c1 : L.length = h
  · have c1' : ((L.length : Int) = (h : Int)) := by omega
    rw [decide_eq_true c1', Bool.true_and]
    cases k2 with
    | true => rw [if_pos rfl, if_pos ⟨c1, rfl⟩]; exact d1
    | false => rw [if_neg (by simp), if_neg (by simp)]; rfl
  · have c1' : ¬ ((L.length : Int) = (h : Int)) := by omega
    rw [decide_eq_false c1', Bool.false_and, if_neg (by simp), if_neg fun z => c1 z.1]
    rfl
theorem lc_c {S0 t : SV} {f : List Bool} {x n : Bool} {r : List Bool} {h : Nat} (h9 : h ≤ 9) (hfl : f.length < 16777216) : sApp 2 (mIf (mAnd (asB (mB fEq (mV (mC1 fLen (mSl 5))) (mSl 1))) (asB (mB fEq (mSl 5) (mV (mB fRep (mV (mLst (mCons (mB fIx (mSl 5) (mV (Dn.ret (.int 0)))) (Dn.ret [])))) (mSl 1)))))) (mB fIx (mSl 5) (mV (Dn.ret (.int 0)))) (mVar 4))
    [S0, .va (.int (h : Nat)), .ow (.lst (f.map D.bl)), t, .va (.bl n), .ow (.lst ((x :: r).map D.bl))] =
    .nx [S0, .va (.int (h : Nat)), .ow (.lst ((f ++ [if (x :: r).length = h ∧ x :: r = List.replicate h x then x else n]).map D.bl)), t, .va (.bl n), .ow (.lst ((x :: r).map D.bl))] := by
  have el := eq_lstb (x :: r) (List.replicate h x)
  have i0 : fIx (.lst ((x :: r).map D.bl)) (.int 0) = some (.bl x) := ix_at (l := x :: r) (j := 0) rfl
  have rp : fRep (.lst [.bl x]) (.int (h : Nat)) = some (.lst ((List.replicate h x).map D.bl)) := by
    unfold fRep
    simp only [List.length_cons, List.length_nil, Int.toNat_natCast]
    rw [if_pos ⟨by omega, by omega, by omega⟩, List.map_replicate, List.flatten_replicate_singleton]
  rw [lc_c0 (by simpa using hfl) i0 rp el, List.map_append, List.length_map]
  simp only [decide_eq_true_eq]
  rfl
abbrev lcB : SM := (sq (sSet 4 (mIf (asB (mB fNe (mSl 2) (mV (mLst (Dn.ret []))))) (mB fIx (mSl 2) (mV (mNeg (Dn.ret (.int 1))))) (Dn.ret (.bl false)))) (sq (sOwn 5 (mSlice fSlL (mSl 0) (mPart (mB fMax (mV (Dn.ret (.int 0))) (mV (mB fSub (mV (mB fAdd (mSl 3) (mV (Dn.ret (.int 1))))) (mSl 1))))) (mPart (mB fAdd (mSl 3) (mV (Dn.ret (.int 1))))))) (sApp 2 (mIf (mAnd (asB (mB fEq (mV (mC1 fLen (mSl 5))) (mSl 1))) (asB (mB fEq (mSl 5) (mV (mB fRep (mV (mLst (mCons (mB fIx (mSl 5) (mV (Dn.ret (.int 0)))) (Dn.ret [])))) (mSl 1)))))) (mB fIx (mSl 5) (mV (Dn.ret (.int 0)))) (mVar 4)))))
abbrev LT := List Bool × (SV × SV × SV)
abbrev lcE (bs : List Bool) (h : Nat) (p : LT) : S := [.va (.lst (bs.map D.bl)), .va (.int (h : Nat)), .ow (.lst (p.1.map D.bl)), p.2.1, p.2.2.1, p.2.2.2]
def lcS (bs : List Bool) (h : Nat) (p : LT) (i : Nat) : LT := (clean h (bs.take (i + 1)), (.va (.int (i : Nat)), .va (.bl (p.1.getLastD false)), .ow (.lst (((bs.take (i + 1)).drop (i + 1 - h)).map D.bl))))
theorem lc_turn {bs : List Bool} {h : Nat} (h1 : 1 ≤ h) (h9 : h ≤ 9) (hl : bs.length < 1000) {a : Nat} (hi : a < bs.length) {f : List Bool} {o1 o2 o3 : SV} (q : f = clean h (bs.take a)) :
    lcB [.va (.lst (bs.map D.bl)), .va (.int (h : Nat)), .ow (.lst (f.map D.bl)), .va (.int (a : Nat)), o2, o3] = .nx (lcE bs h (lcS bs h (f, (o1, o2, o3)) a)) := by
  obtain ⟨b, hb⟩ : ∃ b, bs[a]? = some b := ⟨_, List.getElem?_eq_getElem hi⟩
  have I := clInv_of h1 (bs.take a)
  have ht : (bs.take a).length = a := by simp; omega
  have hp : bs.take a ++ [b] = bs.take (a + 1) := by rw [List.take_add_one, hb]; rfl
  obtain ⟨x, r, hx, hv⟩ := win h1 I b
  rw [hp, ht] at hx
  have hnow : ((bs.take a).foldl (clStep h) ([], false, 0)).2.1 = f.getLastD false := by
    obtain ⟨_, _, _, _, e4⟩ := I
    rw [e4, q]
    rfl
  have hstep : clean h (bs.take (a + 1)) = f ++ [if (x :: r).length = h ∧ x :: r = List.replicate h x then x else f.getLastD false] := by
    rw [← hnow, hv, q]
    unfold clean
    rw [clean_succ hb]
    exact clStep_val (by omega) _ b
  have hfl : f.length < 16777216 := by
    rw [q, clean_len]
    omega
  refine sq_of (s1 := [.va (.lst (bs.map D.bl)), .va (.int (h : Nat)), .ow (.lst (f.map D.bl)), .va (.int (a : Nat)), .va (.bl (f.getLastD false)), o3]) ?_ (sq_of (s1 := [.va (.lst (bs.map D.bl)), .va (.int (h : Nat)), .ow (.lst (f.map D.bl)), .va (.int (a : Nat)), .va (.bl (f.getLastD false)), .ow (.lst ((x :: r).map D.bl))]) ?_ ?_)
  · exact lc_a f
  · have := lc_b (bs := bs) (f := .ow (.lst (f.map D.bl))) (t := .un) (n := .va (.bl (f.getLastD false))) (l := o3) (h := h) hi
    rw [hx] at this
    exact this
  · rw [lc_c h9 hfl, ← hstep]
    show _ = SRes.nx [_, _, _, _, _, .ow (.lst (((bs.take (a + 1)).drop (a + 1 - h)).map D.bl))]
    rw [hx]
    rfl
theorem lc_loop {bs : List Bool} {h : Nat} (h1 : 1 ≤ h) (h9 : h ≤ 9) (hl : bs.length < 1000) : forL (gN 3) lcB ((List.range bs.length).map fun i : Nat => D.int (i : Nat)) (lcE bs h ([], (.un, .un, .un))) = .nx (lcE bs h ((List.range bs.length).foldl (lcS bs h) ([], (.un, .un, .un)))) ∧
    ((List.range bs.length).foldl (lcS bs h) ([], (.un, .un, .un))).1 = clean h bs := by
  have := for_fold (g := gN 3) (body := lcB) (lcE bs h) (fun i : Nat => D.int (i : Nat)) (lcS bs h) (fun i p => p.1 = clean h (bs.take i)) (List.range bs.length) 0 ([], (.un, .un, .un)) (by simp [clean]) (by
    intro i a s e q
    have hi : i < bs.length := by simpa using (List.getElem?_eq_some_iff.mp e).1
    have ea : a = i := by
      rw [List.getElem?_range hi] at e
      exact (Option.some.inj e).symm
    subst ea
    obtain ⟨f, o1, o2, o3⟩ := s
    have q : f = clean h (bs.take (0 + a)) := q
    rw [Nat.zero_add] at q ⊢
    exact ⟨⟨_, rfl, .inl (lc_turn h1 h9 hl hi q)⟩, rfl⟩)
  refine ⟨this.1, ?_⟩
  have e2 := this.2
  simpa using e2
theorem lclean_ok {bs : List Bool} {h : Nat} (h1 : 1 ≤ h) (h9 : h ≤ 9) (hl : bs.length < 1000) : f_u_law_cleaned [.va (.lst (bs.map D.bl)), .va (.int (h : Nat))] = .ok (.lst ((clean h bs).map D.bl)) none := by
  unfold f_u_law_cleaned
  obtain ⟨l1, l2⟩ := lc_loop (h := h) h1 h9 hl
  generalize (List.range bs.length).foldl (lcS bs h) ([], (.un, .un, .un)) = fin at l1 l2
  rw [← l2]
  refine fn_rt (st := [.va (.lst (bs.map D.bl)), .va (.int (h : Nat)), .va (.lst (fin.1.map D.bl)), fin.2.1, fin.2.2.1, fin.2.2.2]) ?_ rfl
  unfold m_u_law_cleaned
  refine sq_of (s1 := lcE bs h ([], (.un, .un, .un))) rfl (sq_of (s1 := lcE bs h fin) (for_of (ds := (List.range bs.length).map fun i : Nat => D.int (i : Nat)) (s1 := lcE bs h ([], (.un, .un, .un))) ?_ l1) rfl)
  rw [← rngD_map]
  have b1 : (-4611686018427387904 : Int) ≤ (bs.length : Int) := by omega
  have b2 : (bs.length : Int) < 4611686018427387904 := by omega
  have e0 : mC1 fLen (mSl 0) (lcE bs h ([], SV.un, SV.un, SV.un)) = .ok (.int ((bs.map D.bl).length : Nat)) (lcE bs h ([], SV.un, SV.un, SV.un)) := mC1_of (mSl_of rfl) (lkS_of rfl) rfl
  rw [v_mR1, v_bnd', e0]
  simp only [List.length_map]
  rw [if_pos ⟨b1, b2⟩]
  rfl
end W23

set_option Elab.async false
set_option linter.all false
set_option maxRecDepth 4000
set_option maxHeartbeats 4000000
namespace W23
open Dn
theorem mLc_of {mi : M (List D)} {own : List Nat} {g : GM} {t : M Bool} {te : M D} {st s1 s2 : S} {ds ys : List D} (hi : mi st = .ok ds s1) (h : lcL own g t te ds (unset own s1) = .ok ys s2) : mLc mi own g t te st = .ok (.lst ys) (restore s1 own s2) := by
  unfold mLc
  rw [v_bnd', hi]
  simp only
  rw [h]
theorem cons_of {m : M D} {r : M (List D)} {st s1 s2 : S} {d : D} {ds : List D} (h : m st = .ok d s1) (k : r s1 = .ok ds s2) : mCons m r st = .ok (d :: ds) s2 := by
  rw [v_mCons, v_bnd', h]
  simp only
  rw [v_bnd', k]
  rfl
theorem tup_of {m : M (List D)} {st s1 : S} {ds : List D} (h : m st = .ok ds s1) (hl : ds.length ≤ 1000) : mTup m st = .ok (.tup ds) s1 := by
  rw [v_mTup, v_bnd', h]
  simp only
  rw [if_pos (by omega)]
  rfl
theorem r1_of {m : M D} {st s1 : S} {n : Nat} (h : m st = .ok (.int (n : Nat)) s1) (hn : n < 1000000) : mR1 m st = .ok ((List.range n).map fun i : Nat => D.int (i : Nat)) s1 := by
  rw [v_mR1, v_bnd', h]
  simp only
  rw [if_pos ⟨by omega, by omega⟩, rngD_map]
  rfl
theorem getD_ix {l : List Bool} {j : Nat} (h : j < l.length) : fIx (.lst (l.map D.bl)) (.int (j : Nat)) = some (.bl (l.getD j false)) := by
  refine ix_at ?_
  rw [List.getElem?_eq_getElem h, List.getD_eq_getElem?_getD, List.getElem?_eq_getElem h]
  rfl
theorem chL_flt : ∀ (c : List Bool) (bf : Bool) (t : Nat), ((List.range c.length).filter fun i => !decide ((bf :: c).getD i false = (bf :: c).getD (i + 1) false)).map (fun i => (t + i, (bf :: c).getD (i + 1) false)) = chL bf t c
  | [], bf, t => rfl
  | b :: r, bf, t => by
    have ih := chL_flt r b (t + 1)
    rw [List.length_cons, List.range_succ_eq_map, List.filter_cons, List.filter_map]
    unfold chL
    have e : (fun i => !decide ((bf :: b :: r).getD i false = (bf :: b :: r).getD (i + 1) false)) ∘ Nat.succ = fun i => !decide ((b :: r).getD i false = (b :: r).getD (i + 1) false) := by
      funext i
      rfl
    rw [e]
    have e2 : ((fun i => (t + i, (bf :: b :: r).getD (i + 1) false)) ∘ Nat.succ) = fun i => (t + 1 + i, (b :: r).getD (i + 1) false) := by
      funext i
      show (t + (i + 1), _) = _
      rw [show t + (i + 1) = t + 1 + i by omega]
      rfl
    by_cases c : b = bf
    · have : (!decide ((bf :: b :: r).getD 0 false = (bf :: b :: r).getD (0 + 1) false)) = false := by
        show (!decide (bf = b)) = false
        simp [c]
      rw [if_neg (by rw [this]; simp), if_pos c, List.map_map, e2, ih]
    · have : (!decide ((bf :: b :: r).getD 0 false = (bf :: b :: r).getD (0 + 1) false)) = true := by
        show (!decide (bf = b)) = true
        simp [Ne.symm c]
      rw [if_pos this, if_neg c, List.map_cons, List.map_map, e2, ih]
      rfl
abbrev lgS (bs : List Bool) (h : Nat) (v : SV) : S := [.va (.lst (bs.map D.bl)), .va (.int (h : Nat)), .ow (.lst ((false :: clean h bs).map D.bl)), v]
theorem lst1 {d : D} {st : S} : mLst (mCons (Dn.ret d) (Dn.ret [])) st = .ok (.lst [d]) st := by simp
theorem lst0 {st : S} : mLst (Dn.ret []) st = .ok (.lst []) st := by simp
theorem lchg_ok {bs : List Bool} {h : Nat} (h1 : 1 ≤ h) (h9 : h ≤ 9) (hl : bs.length < 1000) : f_u_law_changes [.va (.lst (bs.map D.bl)), .va (.int (h : Nat))] = .ok (.lst ((chg h bs).map cgD)) none := by
  unfold f_u_law_changes
  have hc := clean_len h bs
  have hcat : fCat (.lst [D.bl false]) (.lst ((clean h bs).map D.bl)) = some (.lst ((false :: clean h bs).map D.bl)) := by
    show (if ([D.bl false] : List D).length + ((clean h bs).map D.bl).length ≤ 16777216 then _ else none) = _
    rw [if_pos (by simp only [List.length_cons, List.length_nil, List.length_map]; omega)]
    rfl
  have e2 : (lgS bs h .un)[2]?.bind svD = some (.lst ((false :: clean h bs).map D.bl)) := rfl
  refine fn_rt (st := (lgS bs h .un)) ?_ rfl
  unfold m_u_law_changes
  refine sq_of (s1 := (lgS bs h .un)) (own_of (s1 := [.va (.lst (bs.map D.bl)), .va (.int (h : Nat)), .un, .un]) (d := .lst ((false :: clean h bs).map D.bl)) (mB_of (h := .v (.lst [.bl false])) (s1 := [.va (.lst (bs.map D.bl)), .va (.int (h : Nat)), .un, .un]) (mV_of lst1) (mV_of (call_of (ds := [.lst (bs.map D.bl), .int (h : Nat)]) rfl rfl (lclean_ok h1 h9 hl))) rfl rfl hcat)) ?_
  refine ret_of (s1 := restore (lgS bs h .un) [3] (lgS bs h .un)) (d := .lst ((chg h bs).map cgD)) ?_
  rw [show (chg h bs).map cgD = ((List.range bs.length).filter fun i => !decide ((false :: clean h bs).getD i false = (false :: clean h bs).getD (i + 1) false)).map (fun i => cgD (i, (false :: clean h bs).getD (i + 1) false)) from by
    unfold chg
    rw [← chL_flt, List.map_map, hc]
    simp only [Nat.zero_add]
    rfl]
  refine mLc_of (s1 := (lgS bs h .un)) (r1_of (n := bs.length) (mC1_of (mSl_of rfl) (lkS_of rfl) (by show some _ = _; rw [List.length_map])) (by omega)) (lc_flt _ _ _ (by simp; omega) fun i hi => ?_)
  have hi : i < bs.length := by simpa using hi
  have g0 := getD_ix (l := false :: clean h bs) (j := i) (by simp; omega)
  have g1 := getD_ix (l := false :: clean h bs) (j := i + 1) (by simp; omega)
  have ad : fAdd (.int (i : Nat)) (.int 1) = some (.int ((i + 1 : Nat) : Int)) := by
    show some _ = some _
    rw [Int.natCast_add] <;> rfl
  have f2 : (lgS bs h (.va (.int (i : Nat))))[2]?.bind svD = some (.lst ((false :: clean h bs).map D.bl)) := rfl
  have f3 : (lgS bs h (.va (.int (i : Nat))))[3]?.bind svD = some (.int (i : Nat)) := rfl
  have x1 := mB_of (f := fIx) (mSl_of f2) (mSl_of f3) (lkS_of f2) (lkS_of f3) g0
  have x2 := mB_of (f := fIx) (mSl_of f2) (mV_of (mB_of (f := fAdd) (mSl_of f3) (mV_of (v_ret (D.int 1))) (lkS_of f3) rfl ad)) (lkS_of f2) rfl g1
  refine ⟨_, _, rfl, asB_of (mB_of (mV_of x1) (mV_of x2) rfl rfl (ne_bl _ _)), fun _ => ⟨lgS bs h (.va (.int (i : Nat))), ?_, rfl⟩, fun _ => rfl⟩
  have x3 := asB_of x2
  have x4 : mIf (asB (mB fIx (mSl 2) (mV (mB fAdd (mSl 3) (mV (Dn.ret (.int 1))))))) (Dn.ret (.str "down")) (Dn.ret (.str "up")) (lgS bs h (.va (.int (i : Nat)))) = .ok (.str (wd ((false :: clean h bs).getD (i + 1) false))) (lgS bs h (.va (.int (i : Nat)))) := by
    refine mIf_of x3 ?_
    cases (false :: clean h bs).getD (i + 1) false <;> rfl
  exact tup_of (cons_of (m := mVar 3) rfl (cons_of x4 (v_ret []))) (by show 2 ≤ 1000; decide)
end W23

set_option Elab.async false
set_option linter.all false
set_option maxRecDepth 4000
set_option maxHeartbeats 4000000
namespace W23
open Dn
/-! ### noise -/
def clR (h : Int) : Bool → Int → List Bool → List Bool
  | _, _, [] => []
  | n, r, b :: bs => if (if b = n then 0 else r + 1) = h then b :: clR h b 0 bs else n :: clR h n (if b = n then 0 else r + 1) bs
theorem clR_cons {h : Int} {n : Bool} {r : Int} {b : Bool} {bs : List Bool} : clR h n r (b :: bs) = if (if b = n then 0 else r + 1) = h then b :: clR h b 0 bs else n :: clR h n (if b = n then 0 else r + 1) bs := rfl
theorem clR_fold (h : Int) : ∀ (bs : List Bool) (s : CT), (bs.foldl (clStep h) s).1 = s.1 ++ clR h s.2.1 s.2.2 bs
  | [], s => by simp [clR]
  | b :: bs, s => by
    rw [List.foldl_cons, clR_fold h bs, clR_cons]
    unfold clStep
    simp only
    by_cases c : (if b = s.2.1 then 0 else s.2.2 + 1) = h
    · simp [c]
    · simp [c]
theorem clean_eq (h : Int) (bs : List Bool) : clean h bs = clR h false 0 bs := by
  unfold clean
  rw [clR_fold]
  rfl
abbrev NT := Int × Int
def nzStep (s : NT) (p : Bool × Bool) : NT :=
  let r := if p.1 = p.2 then 0 else s.2 + 1
  (if r > s.1 then r else s.1, r)
def noise (l : List (Bool × Bool)) : NT := l.foldl nzStep (0, 0)
theorem noise_lt {h : Int} (h1 : 1 ≤ h) : ∀ (bs : List Bool) (n : Bool) (r b : Int), 0 ≤ r → r < h → b < h → ((bs.zip (clR h n r bs)).foldl nzStep (b, r)).1 < h
  | [], n, r, b, _, _, hb => hb
  | x :: bs, n, r, b, h0, hr, hb => by
    unfold clR
    by_cases c : (if x = n then 0 else r + 1) = h
    · rw [if_pos c, List.zip_cons_cons, List.foldl_cons]
      unfold nzStep
      simp only [if_true]
      exact noise_lt h1 bs x 0 _ (by omega) (by omega) (by split <;> omega)
    · rw [if_neg c, List.zip_cons_cons, List.foldl_cons]
      unfold nzStep
      simp only
      by_cases d : x = n
      · rw [if_pos d] at c ⊢
        exact noise_lt h1 bs n 0 _ (by omega) (by omega) (by split <;> omega)
      · rw [if_neg d] at c ⊢
        exact noise_lt h1 bs n (r + 1) _ (by omega) (by omega) (by split <;> omega)
/-- the loop, as it stands in the program and in the law: slots b (best), r (run), o (one), n (now) -/
abbrev pairD (p : Bool × Bool) : D := .tup [.bl p.1, .bl p.2]
theorem zip_bl (a b : List Bool) : zipD (a.map D.bl) (b.map D.bl) = (a.zip b).map pairD := zipD_map D.bl D.bl a b
theorem lnoise_ok {bs : List Bool} {h : Nat} (h1 : 1 ≤ h) (h9 : h ≤ 9) (hl : bs.length < 1000) : f_longest_noise [.va (.lst (bs.map D.bl)), .va (.int (h : Nat))] = .ok (.int (noise (bs.zip (clean h bs))).1) none := by
  unfold f_longest_noise
  let emb : NT × (SV × SV) → S := fun p => [.va (.lst (bs.map D.bl)), .va (.int (h : Nat)), .va (.int p.1.1), .va (.int p.1.2), p.2.1, p.2.2]
  let step : NT × (SV × SV) → Bool × Bool → NT × (SV × SV) := fun p a => (nzStep p.1 a, (.va (.bl a.1), .va (.bl a.2)))
  have hf : ∀ (l : List (Bool × Bool)) (c : NT) (o : SV × SV), (l.foldl step (c, o)).1 = l.foldl nzStep c := fun l => by
    induction l with
    | nil => exact fun c o => rfl
    | cons b r ih => exact fun c o => ih _ _
  have e1 : ((bs.zip (clean h bs)).foldl step ((0, 0), (.un, .un))).1 = noise (bs.zip (clean h bs)) := hf _ _ _
  have hb1 : (1 : Int) ≤ (h : Nat) := by omega
  have hb9 : ((h : Nat) : Int) ≤ 9 := by omega
  have loop := fun g body hh => for_fold0 (g := g) (body := body) emb pairD step (bs.zip (clean h bs)) ((0, 0), (.un, .un)) hh
  generalize (bs.zip (clean h bs)).foldl step ((0, 0), (.un, .un)) = fin at e1 loop
  rw [← e1]
  refine fn_rt (st := emb fin) ?_ rfl
  unfold m_longest_noise
  refine sq_of (s1 := emb ((0, 0), (.un, .un))) rfl (sq_of (s1 := emb fin) (for_of (ds := (bs.zip (clean h bs)).map pairD) (s1 := emb ((0, 0), (.un, .un))) ?_ (loop _ _ ?_)) rfl)
  · rw [v_mZip, v_bnd', show mVar 0 (emb ((0, 0), (.un, .un))) = .ok (.lst (bs.map D.bl)) (emb ((0, 0), (.un, .un))) from rfl]
    simp only
    have e0 : mCall ps_cleaned.length f_cleaned (agV (mVar 0) (agV (mVar 1) (Dn.ret []))) (emb ((0, 0), (.un, .un))) = .ok (.lst ((clean h bs).map D.bl)) (emb ((0, 0), (.un, .un))) := call_of (ds := [.lst (bs.map D.bl), .int (h : Nat)]) rfl rfl (cleaned_ok (.inl rfl) hb1 hb9 hl)
    rw [v_bnd', e0]
    simp only
    rw [zip_bl]
    rfl
  · rintro ⟨x, y⟩ ⟨⟨b, r⟩, o1, o2⟩ _
    refine ⟨_, rfl, .inl ?_⟩
    by_cases c : x = y
    · simp [emb, step, nzStep, c]
    · simp [emb, step, nzStep, c]
end W23

set_option Elab.async false
set_option linter.all false
set_option maxRecDepth 100000
set_option maxHeartbeats 4000000
namespace W23
open Dn
local macro_rules | `(tactic| walk_at "st") => `(tactic| first | ((simp only [List.set_cons_zero, List.set_cons_succ, v_putOwn, v_os0, v_osV, v_osO, v_put0, v_put1, List.getElem?_cons_zero, List.getElem?_cons_succ]) <;> exact rfl) | exact rfl)
local macro_rules | `(tactic| walk_at "lk") => `(tactic| first | (with_reducible exact l_v) | ((with_reducible apply l_sV); exact rfl) | ((with_reducible apply l_sO); exact rfl) | ((with_reducible apply l_sI); exact rfl))
local macro_rules | `(tactic| walk_at "fn") => `(tactic| with_reducible assumption)
local macro_rules | `(tactic| walk_at "op") => `(tactic| first
  | (with_reducible exact o_add) | (with_reducible exact o_sub) | (with_reducible exact o_lt) | (with_reducible exact o_le) | (with_reducible exact o_gt) | (with_reducible exact o_ge) | (with_reducible exact o_max) | (with_reducible exact o_min)
  | (with_reducible exact o_isN) | (with_reducible exact o_notN) | (with_reducible exact eq_int _ _) | (with_reducible exact ne_int _ _) | (with_reducible exact eq_bl _ _) | (with_reducible exact ne_bl _ _)
  | (with_reducible exact c_lenL) | (with_reducible exact c_lenT) | (with_reducible exact c_lenF) | (with_reducible exact c_int) | (with_reducible exact c_intB) | (with_reducible exact k_bl) | (with_reducible exact c_any) | (with_reducible exact c_all) | (with_reducible exact o_from1) | (with_reducible exact c_listL) | (with_reducible exact c_tupL) | (with_reducible exact o_pow18) | (with_reducible exact o_ix0) | (with_reducible exact o_ix1) | (with_reducible exact o_ixl0) | (with_reducible exact o_ixl1) | (with_reducible exact o_ixL)
  | ((with_reducible apply o_mod); omega) | ((with_reducible apply o_div) <;> omega) | ((with_reducible apply o_mulL) <;> omega) | ((with_reducible apply o_mulR) <;> omega)
  | (with_reducible assumption) | (walk_at "op2"))
local macro_rules | `(tactic| walk_at "op2") => `(tactic| with_reducible assumption)
local macro_rules | `(tactic| walk_at "ag") => `(tactic| first | (with_reducible exact a_nil) | ((with_reducible apply a_v); (walk_at "ev"); (walk_at "ag")) | ((with_reducible apply a_o); exact rfl; (walk_at "ag")))
local macro_rules | `(tactic| walk_at "sv") => `(tactic| first | (with_reducible exact sv_nil) | ((with_reducible apply sv_v); (walk_at "sv")) | ((with_reducible apply sv_i); exact rfl; (walk_at "sv")) | ((with_reducible apply sv_o); exact rfl; (walk_at "sv")))
local macro_rules | `(tactic| walk_at "hd") => `(tactic| first | ((with_reducible apply e_slV); exact rfl) | ((with_reducible apply e_slO); exact rfl) | ((with_reducible apply e_slI); exact rfl) | ((with_reducible apply h_v); (walk_at "ev")))
local macro_rules | `(tactic| walk_at "ls") => `(tactic| first | (with_reducible exact d_nil) | ((with_reducible apply e_cons); (walk_at "ev"); (walk_at "ls")))
local macro_rules | `(tactic| walk_at "pt") => `(tactic| first | (with_reducible exact e_ret _) | ((with_reducible apply e_part); (walk_at "ev")))
local macro_rules | `(tactic| walk_at "ev") => `(tactic| first
  | (with_reducible exact e_ret _)
  | ((with_reducible apply e_va); exact rfl)
  | ((with_reducible apply e_ow); exact rfl; (walk_at "st"))
  | ((with_reducible apply mB_of); (walk_at "hd"); (walk_at "hd"); (walk_at "lk"); (walk_at "lk"); (walk_at "op"))
  | ((with_reducible apply mC1_of); (walk_at "hd"); (walk_at "lk"); (walk_at "op"))
  | ((with_reducible apply e_neg); (walk_at "ev"))
  | ((with_reducible apply e_notV); (walk_at "ev"))
  | ((with_reducible apply e_andV); (walk_at "ev"); ((intro _hx); (walk_at "ev")))
  | ((with_reducible apply e_orV); (walk_at "ev"); ((intro _hx); (walk_at "ev")))
  | ((with_reducible apply e_ifI); (walk_at "ts"); ((intro _hx); (walk_at "ev")); ((intro _hx); (walk_at "ev")))
  | ((with_reducible apply e_ifB); (walk_at "ts"); ((intro _hx); (walk_at "ev")); ((intro _hx); (walk_at "ev")))
  | ((with_reducible apply e_ifS); (walk_at "ts"); ((intro _hx); (walk_at "ev")); ((intro _hx); (walk_at "ev")))
  | ((with_reducible apply e_if); (walk_at "ts"); ((intro _hx); (walk_at "ev")); ((intro _hx); (walk_at "ev")))
  | ((with_reducible apply e_lst); (walk_at "ls"); exact rfl)
  | ((with_reducible apply e_tup); (walk_at "ls"); exact rfl)
  | ((with_reducible apply e_slice); (walk_at "hd"); (walk_at "pt"); (walk_at "pt"); (walk_at "lk"); (walk_at "op"))
  | ((with_reducible apply e_chain); (walk_at "hd"); (walk_at "hd"); (walk_at "lk"); (walk_at "lk"); (walk_at "op"); ((intro _hx); (walk_at "hd")); ((intro _hx); (walk_at "lk")); ((intro _hx); (walk_at "op")))
  | ((with_reducible apply e_call); (walk_at "ag"); exact rfl; exact rfl; (walk_at "sv"); (walk_at "fn"); (walk_at "st"))
  | ((with_reducible apply e_lc); (walk_at "it"); (walk_at "lm"); (walk_at "rs"))
  | (walk_at "ev2"))
local macro_rules | `(tactic| walk_at "ev2") => `(tactic| with_reducible assumption)
local macro_rules | `(tactic| walk_at "ts") => `(tactic| first
  | ((with_reducible apply t_asB); (walk_at "ev"))
  | ((with_reducible apply t_not); (walk_at "ts"))
  | ((with_reducible apply t_and); (walk_at "ts"); ((intro _hx); (walk_at "ts")))
  | ((with_reducible apply t_or); (walk_at "ts"); ((intro _hx); (walk_at "ts")))
  | ((with_reducible apply t_tru); (walk_at "hd"); (walk_at "lk"); (walk_at "op")))
local macro_rules | `(tactic| walk_at "xs") => `(tactic| first | (with_reducible exact x_nil) | ((with_reducible apply x_v); (walk_at "ev"); (walk_at "xs")) | ((with_reducible apply x_n); (walk_at "ev"); (walk_at "xs")))
local macro_rules | `(tactic| walk_at "len") => `(tactic| first | assumption | omega | ((simp only [List.length_map, List.length_cons, List.length_nil, List.length_append, List.length_zip, List.length_zipIdx, List.length_range]); omega))
local macro_rules | `(tactic| walk_at "sx") => `(tactic| first
  | (with_reducible exact s_nop)
  | ((with_reducible apply sq_of); (walk_at "sx"); (walk_at "sx"))
  | ((with_reducible apply s_set); (walk_at "ev"); (walk_at "st"))
  | ((with_reducible apply s_own); (walk_at "ev"); (walk_at "st"))
  | ((with_reducible apply s_app); exact rfl; (walk_at "ev"); exact rfl; (walk_at "len"); (walk_at "st"))
  | ((with_reducible apply s_aug); exact rfl; (walk_at "ev"); (walk_at "op"); (walk_at "st"))
  | ((with_reducible apply s_asg); (walk_at "ev"); (walk_at "gs"))
  | ((with_reducible apply s_par); (walk_at "xs"); (walk_at "gs"))
  | ((with_reducible apply expr_of); (walk_at "ev"))
  | ((with_reducible apply ret_of); (walk_at "ev"))
  | ((with_reducible apply s_ifF); (walk_at "ts"); exact rfl; (walk_at "sx"))
  | (walk_at "sx2"))
local macro_rules | `(tactic| walk_at "sx2") => `(tactic| with_reducible assumption)
local macro_rules | `(tactic| walk_at "in") => `(tactic| ((simp only [v_init, List.length_cons, List.length_nil, List.cons_append, List.nil_append, List.replicate_succ, List.replicate_zero, Nat.reduceAdd, Nat.reduceSub, Nat.zero_add]) <;> exact rfl))
local macro_rules | `(tactic| walk_at "rs") => `(tactic| ((simp only [restore, unset, keep_idem, keep_va, keep_ow, keep_un, List.set_cons_zero, List.set_cons_succ, List.getElem?_cons_zero, List.getElem?_cons_succ]) <;> exact rfl))
local macro_rules | `(tactic| walk_at "go") => `(tactic| repeat ((with_reducible apply q_sq); (focus (walk_at "sx"))))
local macro_rules | `(tactic| walk_at "it") => `(tactic| first
  | ((with_reducible apply i_lst); (walk_at "ev"))
  | ((with_reducible apply i_tup); (walk_at "ev"))
  | ((with_reducible apply i_zipM); (walk_at "ev"); (walk_at "ev"))
  | ((with_reducible apply i_enLM); (walk_at "ev"))
  | ((with_reducible apply i_enTM); (walk_at "ev"))
  | ((with_reducible apply i_r1M); (walk_at "ev"); (walk_at "len")))
local macro_rules | `(tactic| walk_at "lm") => `(tactic| ((with_reducible apply lc_map); (walk_at "len"); (intro _p _hp; exact ⟨_, _, rfl, by walk_at "ev", by exact rfl⟩)))
local macro_rules | `(tactic| walk_at "gs") => `(tactic| first | ((simp only [v_gT, v_gCons, v_gN, v_gNil, List.length_cons, List.length_nil, Nat.reduceAdd, Nat.zero_add, if_true, Option.bind_some, List.set_cons_zero, List.set_cons_succ, v_setX0, v_setX1, Bool.false_eq_true, if_false]) <;> exact rfl) | exact rfl)
theorem is_num {v lo hi : Int} (h1 : lo ≤ v) (h2 : v ≤ hi) : f_is_number [.va (.int v), .va (.int lo), .va (.int hi)] = .ok (.bl true) none := by
  rw [isnum]
  simp [h1, h2]
theorem chkL {bs : List Bool} {h : Int} (h1 : 1 ≤ h) (h9 : h ≤ 9) : f_check_samples [.va (.lst (bs.map D.bl)), .va (.int h)] = .ok .non none := chk (.inl rfl) h1 h9
theorem changesL {bs : List Bool} {h : Int} (h1 : 1 ≤ h) (h9 : h ≤ 9) (hl : bs.length < 1000) : f_changes [.va (.lst (bs.map D.bl)), .va (.int h)] = .ok (.lst ((chg h bs).map cgD)) none := changes_ok (.inl rfl) h1 h9 hl
local macro_rules | `(tactic| walk_at "fn") => `(tactic| first | (with_reducible assumption) | ((with_reducible apply is_num) <;> omega) | ((with_reducible apply isnum)) | ((with_reducible apply chkL) <;> omega) | ((with_reducible apply changesL) <;> omega))
/-! ### count_repeats, lengths_for -/
def crep (n d e : Int) : Int := if n = 0 then 0 else 1 + (if n ≤ d then 0 else 1 + (n - 1 - d) / e)
theorem cr_ok {n d e : Int} (h1 : 0 ≤ n) (h2 : n ≤ 9999) (hd : 1 ≤ d) (hd2 : d ≤ 99) (he : 1 ≤ e) (he2 : e ≤ 99) :
    f_count_repeats [.va (.int n), .va (.int d), .va (.int e)] = .ok (.int (crep n d e)) none := by
  unfold f_count_repeats crep
  refine' f_z (by walk_at "in") rfl ?_
  unfold m_count_repeats
  walk_at "go"
  by_cases c : n = 0
  · rw [if_pos c]
    exact q_seqR (q_ifT (by walk_at "ts") (by simp [c]) (q_ret (by walk_at "ev") rfl))
  · rw [if_neg c]
    refine' q_sq (s_ifF (by walk_at "ts") (by simp [c]) s_nop) (q_ret (by walk_at "ev") (by simp))
theorem lf_ok {n d e : Int} (h1 : 1 ≤ n) (h2 : n ≤ 99) (hd : 1 ≤ d) (hd2 : d ≤ 99) (he : 1 ≤ e) (he2 : e ≤ 99) :
    f_lengths_for [.va (.int n), .va (.int d), .va (.int e)] = .ok (if n = 1 then .tup [.int 1, .int d] else .tup [.int (d + 1 + (n - 2) * e), .int (d + 1 + (n - 2) * e + e - 1)]) none := by
  unfold f_lengths_for
  refine' f_z (by walk_at "in") rfl ?_
  unfold m_lengths_for
  walk_at "go"
  by_cases c : n = 1
  · rw [if_pos c]
    exact q_seqR (q_ifT (by walk_at "ts") (by simp [c]) (q_ret (by walk_at "ev") rfl))
  · rw [if_neg c]
    refine' q_sq (s_ifF (by walk_at "ts") (by simp [c]) s_nop) ?_
    walk_at "go"
    exact q_ret (by walk_at "ev") rfl
/-! ### runs -/
abbrev rnD (p : Bool × Nat) : D := .tup [.bl p.1, .int (p.2 : Nat)]
def rnS (f : List (Bool × Nat)) (b : Bool) : List (Bool × Nat) := match f.getLast? with
  | none => f ++ [(b, 1)]
  | some (x, k) => if x = b then f.dropLast ++ [(b, k + 1)] else f ++ [(b, 1)]
theorem rnS_nil (b : Bool) : rnS [] b = [(b, 1)] := rfl
theorem rnS_snoc (g : List (Bool × Nat)) (x b : Bool) (k : Nat) : rnS (g ++ [(x, k)]) b = if x = b then g ++ [(b, k + 1)] else g ++ [(x, k)] ++ [(b, 1)] := by
  unfold rnS
  simp
def runs (bs : List Bool) : List (Bool × Nat) := bs.foldl rnS []
theorem rnS_len (f : List (Bool × Nat)) (b : Bool) : (rnS f b).length ≤ f.length + 1 := by
  rcases List.eq_nil_or_concat f with e | ⟨g, ⟨x, k⟩, e⟩
  · subst e; simp [rnS_nil]
  · rw [List.concat_eq_append] at e
    subst e
    rw [rnS_snoc]
    split <;> simp
theorem em_rn : Em rnD 1 := em_pair em_bl em_nat
theorem runs_ok {bs : List Bool} (hl : bs.length < 1000) : f_runs_of [.va (.lst (bs.map D.bl))] = .ok (.lst ((runs bs).map rnD)) none := by
  unfold f_runs_of
  refine' f_z (by walk_at "in") rfl ?_
  unfold m_runs_of
  walk_at "go"
  refine' q_for D.bl rnS (fun i f st => f.length ≤ i ∧ ∃ o, st = [.va (.lst (bs.map D.bl)), .ow (.lst (f.map rnD)), o]) bs [] (i_lst (by walk_at "ev")) ?_ ?_ ?_
  · exact ⟨Nat.le_refl _, .un, rfl⟩
  · rintro i b f st e ⟨q, o, rfl⟩
    have hi : i < bs.length := (List.getElem?_eq_some_iff.mp e).1
    have n0 := em_fNe (em_lst em_rn) f []
    rw [List.map_nil] at n0
    refine ⟨_, _, rfl, .inl ?_, Nat.le_trans (rnS_len f b) (by omega), .va (.bl b), rfl⟩
    show sIf _ _ _ [.va (.lst (bs.map D.bl)), .ow (.lst (f.map rnD)), .va (.bl b)] = _
    rcases List.eq_nil_or_concat f with ef | ⟨g, ⟨x, k⟩, ef⟩
    · subst ef
      rw [List.map_nil] at n0 ⊢
      apply s_ifF (p := !decide (([] : List (Bool × Nat)) = []) && true)
      · apply t_and
        · walk_at "ts"
        · intro h; simp at h
      · rfl
      · walk_at "sx"
    · rw [List.concat_eq_append] at ef
      subst ef
      rw [rnS_snoc]
      have hlen : ((g ++ [(x, k)]).map rnD).length < 16777216 := by
        simp only [List.length_map]
        omega
      have pl : L2.ixN ((g ++ [(x, k)]).map rnD).length (-1) = some g.length := by
        rw [List.length_map, List.length_append]
        exact ixN_last
      by_cases c : x = b
      · subst c
        rw [if_pos rfl]
        refine s_ifT (by walk_at "ts") (by simp) ?_
        apply s_put
        · walk_at "ev"
        · rfl
        · walk_at "ev"
        · rfl
        · exact pl
        · simp [putOwn, rnD]
      · rw [if_neg c]
        refine s_ifF (by walk_at "ts") (by simp [c]) ?_
        refine s_app rfl (by walk_at "ev") rfl hlen ?_
        simp [putOwn, rnD]
  · rintro st' ⟨_, o, rfl⟩
    exact q_ret (by walk_at "ev") rfl
/-! ### least_hold -/
def holds9 : List Nat := [1, 2, 3, 4, 5, 6, 7, 8, 9]
def lhold (many : Nat) (bs : List Bool) : Option Nat := holds9.find? fun h => decide ((chg (h : Nat) bs).length ≤ many)
def optD : Option Nat → D
  | none => .non
  | some k => .int (k : Nat)
theorem lh_ok {bs : List Bool} {many : Nat} (hl : bs.length < 1000) (hm : many ≤ 999) : f_least_hold [.va (.lst (bs.map D.bl)), .va (.int (many : Nat))] = .ok (optD (lhold many bs)) none := by
  unfold f_least_hold
  refine' f_z (by walk_at "in") rfl ?_
  unfold m_least_hold
  walk_at "go"
  refine' q_find (fun i : Nat => D.int (i : Nat)) (fun h => decide ((chg (h : Nat) bs).length ≤ many)) (fun st => ∃ o, st = [.va (.lst (bs.map D.bl)), .va (.int (many : Nat)), o]) holds9 rfl ⟨_, rfl⟩ ?_ ?_
  · rintro h st hm ⟨o, rfl⟩
    have hh : 1 ≤ h ∧ h ≤ 9 := (by decide : ∀ h ∈ holds9, 1 ≤ h ∧ h ≤ 9) h hm
    refine ⟨_, rfl, fun ok hf => ?_, fun ok => ⟨_, .inl ?_, .va (.int (h : Nat)), rfl⟩⟩
    · have e := s_ifT (m1 := sRet (mVar 2)) (n1 := nop) (t := (asB (mB fLe (mV (mC1 fLen (mV (mCall ps_changes.length f_changes (agV (mVar 0) (agV (mVar 2) (ret []))))))) (mSl 1)))) (st := [.va (.lst (bs.map D.bl)), .va (.int (many : Nat)), .va (.int (h : Nat))]) (by walk_at "ts") (by simpa using ok) (ret_of (by walk_at "ev"))
      exact ⟨⟨_, e.trans (by rw [show optD (lhold many bs) = D.int (h : Nat) from by unfold lhold; rw [hf] <;> rfl] <;> rfl)⟩, _, _, e⟩
    · exact s_ifF (by walk_at "ts") (by simpa using ok) s_nop
  · rintro hf st ⟨o, rfl⟩
    refine q_ret (by walk_at "ev") ?_
    unfold lhold
    rw [hf] <;> rfl
/-! ### words -/
abbrev wdD (b : Bool) : D := .str (wd b)
theorem em_wd : Em wdD 0 := em_strs (fun b => by cases b <;> decide +kernel) (fun a b h => by revert h; cases a <;> cases b <;> decide)
abbrev words (h : Int) (bs : List Bool) : List Bool := (chg h bs).map (·.2)
theorem chg_len {h : Int} {bs : List Bool} : (chg h bs).length ≤ bs.length := by
  unfold chg
  have := chL_len (clean h bs) false 0
  rw [clean_len] at this
  exact this
theorem eq_words (a b : List (Nat × Bool)) : fEq (.lst (a.map fun p => .str (wd p.2))) (.lst (b.map fun p => .str (wd p.2))) = some (.bl (decide (a.map (·.2) = b.map (·.2)))) := by
  have := em_fEq (em_lst em_wd) (a.map (·.2)) (b.map (·.2))
  rw [List.map_map, List.map_map] at this
  exact this
theorem sw_ok {bs cs : List Bool} {h : Int} (h1 : 1 ≤ h) (h9 : h ≤ 9) (hl : bs.length < 1000) (hc : cs.length < 1000) : f_same_words [.va (.lst (bs.map D.bl)), .va (.lst (cs.map D.bl)), .va (.int h)] = .ok (.bl (decide (words h bs = words 1 cs))) none := by
  unfold f_same_words
  refine' f_z (by walk_at "in") rfl ?_
  unfold m_same_words
  have l1 := chg_len (h := h) (bs := bs)
  have l2 := chg_len (h := 1) (bs := cs)
  have ew := eq_words (chg h bs) (chg 1 cs)
  exact q_ret (by walk_at "ev") rfl
theorem se_ok {bs cs : List Bool} {h : Int} (h1 : 1 ≤ h) (h9 : h ≤ 9) (hl : bs.length < 1000) (hc : cs.length < 1000) : f_same_events [.va (.lst (bs.map D.bl)), .va (.lst (cs.map D.bl)), .va (.int h)] = .ok (.bl (decide (words h bs = words h cs))) none := by
  unfold f_same_events
  refine' f_z (by walk_at "in") rfl ?_
  unfold m_same_events
  have l1 := chg_len (h := h) (bs := bs)
  have l2 := chg_len (h := h) (bs := cs)
  have ew := eq_words (chg h bs) (chg h cs)
  walk_at "go"
  exact q_ret (by walk_at "ev") rfl
local macro_rules | `(tactic| walk_at "fn") => `(tactic| first | (with_reducible assumption) | ((with_reducible apply is_num) <;> omega) | ((with_reducible apply isnum)) | ((with_reducible apply chkL) <;> omega) | ((with_reducible apply changesL) <;> omega) | ((with_reducible apply sw_ok) <;> omega))
def dly (h : Int) (bs cs : List Bool) : List Int := ((chg 1 cs).zip (chg h bs)).map fun p => (p.2.1 : Int) - (p.1.1 : Int)
theorem dl_ok {bs cs : List Bool} {h : Int} (h1 : 1 ≤ h) (h9 : h ≤ 9) (hl : bs.length < 1000) (hc : cs.length < 1000) : f_delays [.va (.lst (bs.map D.bl)), .va (.lst (cs.map D.bl)), .va (.int h)] = .ok (if words h bs = words 1 cs then .lst ((dly h bs cs).map D.int) else .non) none := by
  unfold f_delays
  refine' f_z (by walk_at "in") rfl ?_
  unfold m_delays
  have l1 := chg_len (h := h) (bs := bs)
  have l2 := chg_len (h := 1) (bs := cs)
  walk_at "go"
  by_cases c : words h bs = words 1 cs
  · rw [if_pos c]
    refine' q_sq (s_ifF (by walk_at "ts") (by simp [c]) s_nop) ?_
    walk_at "go"
    refine' q_ret (by walk_at "ev") ?_
    unfold dly
    rw [List.map_map]
    rfl
  · rw [if_neg c]
    exact q_seqR (q_ifT (by walk_at "ts") (by simp [c]) (q_ret (by walk_at "ev") rfl))
end W23

set_option Elab.async false
set_option linter.all false
set_option maxRecDepth 100000
set_option maxHeartbeats 4000000
namespace W23
open Dn
local macro_rules | `(tactic| walk_at "st") => `(tactic| first | ((simp only [List.set_cons_zero, List.set_cons_succ, v_putOwn, v_os0, v_osV, v_osO, v_put0, v_put1, List.getElem?_cons_zero, List.getElem?_cons_succ]) <;> exact rfl) | exact rfl)
local macro_rules | `(tactic| walk_at "lk") => `(tactic| first | (with_reducible exact l_v) | ((with_reducible apply l_sV); exact rfl) | ((with_reducible apply l_sO); exact rfl) | ((with_reducible apply l_sI); exact rfl))
local macro_rules | `(tactic| walk_at "fn") => `(tactic| with_reducible assumption)
local macro_rules | `(tactic| walk_at "op") => `(tactic| first
  | (with_reducible exact o_add) | (with_reducible exact o_sub) | (with_reducible exact o_lt) | (with_reducible exact o_le) | (with_reducible exact o_gt) | (with_reducible exact o_ge) | (with_reducible exact o_max) | (with_reducible exact o_min)
  | (with_reducible exact o_isN) | (with_reducible exact o_notN) | (with_reducible exact eq_int _ _) | (with_reducible exact ne_int _ _) | (with_reducible exact eq_bl _ _) | (with_reducible exact ne_bl _ _)
  | (with_reducible exact c_lenL) | (with_reducible exact c_lenT) | (with_reducible exact c_lenF) | (with_reducible exact c_int) | (with_reducible exact c_intB) | (with_reducible exact k_bl) | (with_reducible exact c_any) | (with_reducible exact c_all) | (with_reducible exact o_from1) | (with_reducible exact c_listL) | (with_reducible exact c_tupL) | (with_reducible exact o_pow18) | (with_reducible exact o_ix0) | (with_reducible exact o_ix1) | (with_reducible exact o_ixl0) | (with_reducible exact o_ixl1) | (with_reducible exact o_ixL)
  | ((with_reducible apply o_mod); omega) | ((with_reducible apply o_div) <;> omega) | ((with_reducible apply o_mulL) <;> omega) | ((with_reducible apply o_mulR) <;> omega)
  | (with_reducible assumption) | (walk_at "op2"))
local macro_rules | `(tactic| walk_at "op2") => `(tactic| with_reducible assumption)
local macro_rules | `(tactic| walk_at "ag") => `(tactic| first | (with_reducible exact a_nil) | ((with_reducible apply a_v); (walk_at "ev"); (walk_at "ag")) | ((with_reducible apply a_o); exact rfl; (walk_at "ag")))
local macro_rules | `(tactic| walk_at "sv") => `(tactic| first | (with_reducible exact sv_nil) | ((with_reducible apply sv_v); (walk_at "sv")) | ((with_reducible apply sv_i); exact rfl; (walk_at "sv")) | ((with_reducible apply sv_o); exact rfl; (walk_at "sv")))
local macro_rules | `(tactic| walk_at "hd") => `(tactic| first | ((with_reducible apply e_slV); exact rfl) | ((with_reducible apply e_slO); exact rfl) | ((with_reducible apply e_slI); exact rfl) | ((with_reducible apply h_v); (walk_at "ev")))
local macro_rules | `(tactic| walk_at "ls") => `(tactic| first | (with_reducible exact d_nil) | ((with_reducible apply e_cons); (walk_at "ev"); (walk_at "ls")))
local macro_rules | `(tactic| walk_at "pt") => `(tactic| first | (with_reducible exact e_ret _) | ((with_reducible apply e_part); (walk_at "ev")))
local macro_rules | `(tactic| walk_at "ev") => `(tactic| first
  | (with_reducible exact e_ret _)
  | ((with_reducible apply e_va); exact rfl)
  | ((with_reducible apply e_ow); exact rfl; (walk_at "st"))
  | ((with_reducible apply mB_of); (walk_at "hd"); (walk_at "hd"); (walk_at "lk"); (walk_at "lk"); (walk_at "op"))
  | ((with_reducible apply mC1_of); (walk_at "hd"); (walk_at "lk"); (walk_at "op"))
  | ((with_reducible apply e_neg); (walk_at "ev"))
  | ((with_reducible apply e_notV); (walk_at "ev"))
  | ((with_reducible apply e_andV); (walk_at "ev"); ((intro _hx); (walk_at "ev")))
  | ((with_reducible apply e_orV); (walk_at "ev"); ((intro _hx); (walk_at "ev")))
  | ((with_reducible apply e_ifI); (walk_at "ts"); ((intro _hx); (walk_at "ev")); ((intro _hx); (walk_at "ev")))
  | ((with_reducible apply e_ifB); (walk_at "ts"); ((intro _hx); (walk_at "ev")); ((intro _hx); (walk_at "ev")))
  | ((with_reducible apply e_ifS); (walk_at "ts"); ((intro _hx); (walk_at "ev")); ((intro _hx); (walk_at "ev")))
  | ((with_reducible apply e_if); (walk_at "ts"); ((intro _hx); (walk_at "ev")); ((intro _hx); (walk_at "ev")))
  | ((with_reducible apply e_lst); (walk_at "ls"); exact rfl)
  | ((with_reducible apply e_tup); (walk_at "ls"); exact rfl)
  | ((with_reducible apply e_slice); (walk_at "hd"); (walk_at "pt"); (walk_at "pt"); (walk_at "lk"); (walk_at "op"))
  | ((with_reducible apply e_chain); (walk_at "hd"); (walk_at "hd"); (walk_at "lk"); (walk_at "lk"); (walk_at "op"); ((intro _hx); (walk_at "hd")); ((intro _hx); (walk_at "lk")); ((intro _hx); (walk_at "op")))
  | ((with_reducible apply e_call); (walk_at "ag"); exact rfl; exact rfl; (walk_at "sv"); (walk_at "fn"); (walk_at "st"))
  | ((with_reducible apply e_lc); (walk_at "it"); (walk_at "lm"); (walk_at "rs"))
  | (walk_at "ev2"))
local macro_rules | `(tactic| walk_at "ev2") => `(tactic| with_reducible assumption)
local macro_rules | `(tactic| walk_at "ts") => `(tactic| first
  | ((with_reducible apply t_asB); (walk_at "ev"))
  | ((with_reducible apply t_not); (walk_at "ts"))
  | ((with_reducible apply t_and); (walk_at "ts"); ((intro _hx); (walk_at "ts")))
  | ((with_reducible apply t_or); (walk_at "ts"); ((intro _hx); (walk_at "ts")))
  | ((with_reducible apply t_tru); (walk_at "hd"); (walk_at "lk"); (walk_at "op")))
local macro_rules | `(tactic| walk_at "xs") => `(tactic| first | (with_reducible exact x_nil) | ((with_reducible apply x_v); (walk_at "ev"); (walk_at "xs")) | ((with_reducible apply x_n); (walk_at "ev"); (walk_at "xs")))
local macro_rules | `(tactic| walk_at "len") => `(tactic| first | assumption | omega | ((simp only [List.length_map, List.length_cons, List.length_nil, List.length_append, List.length_zip, List.length_zipIdx, List.length_range]); omega))
local macro_rules | `(tactic| walk_at "sx") => `(tactic| first
  | (with_reducible exact s_nop)
  | ((with_reducible apply sq_of); (walk_at "sx"); (walk_at "sx"))
  | ((with_reducible apply s_set); (walk_at "ev"); (walk_at "st"))
  | ((with_reducible apply s_own); (walk_at "ev"); (walk_at "st"))
  | ((with_reducible apply s_app); exact rfl; (walk_at "ev"); exact rfl; (walk_at "len"); (walk_at "st"))
  | ((with_reducible apply s_aug); exact rfl; (walk_at "ev"); (walk_at "op"); (walk_at "st"))
  | ((with_reducible apply s_asg); (walk_at "ev"); (walk_at "gs"))
  | ((with_reducible apply s_par); (walk_at "xs"); (walk_at "gs"))
  | ((with_reducible apply expr_of); (walk_at "ev"))
  | ((with_reducible apply ret_of); (walk_at "ev"))
  | ((with_reducible apply s_ifF); (walk_at "ts"); exact rfl; (walk_at "sx"))
  | (walk_at "sx2"))
local macro_rules | `(tactic| walk_at "sx2") => `(tactic| with_reducible assumption)
local macro_rules | `(tactic| walk_at "in") => `(tactic| ((simp only [v_init, List.length_cons, List.length_nil, List.cons_append, List.nil_append, List.replicate_succ, List.replicate_zero, Nat.reduceAdd, Nat.reduceSub, Nat.zero_add]) <;> exact rfl))
local macro_rules | `(tactic| walk_at "rs") => `(tactic| ((simp only [restore, unset, keep_idem, keep_va, keep_ow, keep_un, List.set_cons_zero, List.set_cons_succ, List.getElem?_cons_zero, List.getElem?_cons_succ]) <;> exact rfl))
local macro_rules | `(tactic| walk_at "go") => `(tactic| repeat ((with_reducible apply q_sq); (focus (walk_at "sx"))))
local macro_rules | `(tactic| walk_at "it") => `(tactic| first
  | ((with_reducible apply i_lst); (walk_at "ev"))
  | ((with_reducible apply i_tup); (walk_at "ev"))
  | ((with_reducible apply i_zipM); (walk_at "ev"); (walk_at "ev"))
  | ((with_reducible apply i_enLM); (walk_at "ev"))
  | ((with_reducible apply i_enTM); (walk_at "ev"))
  | ((with_reducible apply i_r1M); (walk_at "ev"); (walk_at "len")))
local macro_rules | `(tactic| walk_at "lm") => `(tactic| ((with_reducible apply lc_map); (walk_at "len"); (intro _p _hp; exact ⟨_, _, rfl, by walk_at "ev", by exact rfl⟩)))
local macro_rules | `(tactic| walk_at "gs") => `(tactic| first | ((simp only [v_gT, v_gCons, v_gN, v_gNil, List.length_cons, List.length_nil, Nat.reduceAdd, Nat.zero_add, if_true, Option.bind_some, List.set_cons_zero, List.set_cons_succ, v_setX0, v_setX1, Bool.false_eq_true, if_false]) <;> exact rfl) | exact rfl)
local macro_rules | `(tactic| walk_at "fn") => `(tactic| first | (with_reducible assumption) | ((with_reducible apply is_num) <;> omega) | ((with_reducible apply isnum)) | ((with_reducible apply chkL) <;> omega))
/-! ### repeats -/
abbrev RpT := List Nat × Option Nat
def nxt : Option Nat → Nat
  | none => 0
  | some k => k + 1
def rpS (d e : Nat) (s : RpT) (p : Bool × Nat) : RpT :=
  if p.1 = true then
    (if nxt s.2 = 0 ∨ (d ≤ nxt s.2 ∧ (nxt s.2 - d) % e = 0) then s.1 ++ [p.2] else s.1, some (nxt s.2))
  else (s.1, none)
abbrev natD (k : Nat) : D := .int (k : Nat)
def rep (d e : Nat) (bs : List Bool) : List Nat := ((bs.zipIdx 0).foldl (rpS d e) ([], none)).1
theorem rpS_len (d e : Nat) (s : RpT) (p : Bool × Nat) : (rpS d e s p).1.length ≤ s.1.length + 1 := by
  unfold rpS
  split
  · simp only
    split <;> simp
  · simp
theorem nextk (o : Option Nat) (st : S) (h : st[4]? = some (.va (optD o))) : mIf (asB (mB fIsN (mSl 4) (mV (ret .non)))) (ret (.int 0)) (mB fAdd (mSl 4) (mV (ret (.int 1)))) st = .ok (.int ((nxt o : Nat) : Int)) st := by
  have e1 : mSl 4 st = .ok (.s 4) st := e_slV h
  have e2 : look (.s 4) st = .ok (optD o) st := l_sV h
  refine mIf_of (x := isNon (optD o)) (asB_of (mB_of e1 (h_v rfl) e2 l_v o_isN)) ?_
  cases o with
  | none => rfl
  | some k => exact mB_of e1 (h_v rfl) e2 l_v rfl
theorem mod_nat {k d e : Nat} (h : d ≤ k) : ((k : Int) - d) % e = (((k - d) % e : Nat) : Int) := by
  rw [show (k : Int) - d = ((k - d : Nat) : Int) by omega, Int.natCast_emod]
theorem rp_ok {bs : List Bool} {d e : Nat} (hl : bs.length < 1000) (hd : 1 ≤ d) (hd2 : d ≤ 99) (he : 1 ≤ e) (he2 : e ≤ 99) : f_repeats [.va (.lst (bs.map D.bl)), .va (.int (d : Nat)), .va (.int (e : Nat))] = .ok (.lst ((rep d e bs).map natD)) none := by
  unfold f_repeats
  refine' f_z (by walk_at "in") rfl ?_
  unfold m_repeats
  walk_at "go"
  refine' q_for (fun p : Bool × Nat => .tup [.int (p.2 : Nat), .bl p.1]) (rpS d e) (fun i s st => s.1.length ≤ i ∧ ∃ o1 o2, st = [.va (.lst (bs.map D.bl)), .va (.int (d : Nat)), .va (.int (e : Nat)), .ow (.lst (s.1.map natD)), .va (optD s.2), o1, o2]) (bs.zipIdx 0) ([], none) (by walk_at "it") ?_ ?_ ?_
  · exact ⟨Nat.le_refl _, _, _, rfl⟩
  · rintro i ⟨b, t⟩ ⟨f, o⟩ st ez ⟨q, o1, o2, rfl⟩
    have hi : i < (bs.zipIdx 0).length := (List.getElem?_eq_some_iff.mp ez).1
    rw [List.length_zipIdx] at hi
    simp only at q
    have hlen : (f.map natD).length < 16777216 := by simp only [List.length_map]; omega
    cases b with
    | false => exact ⟨_, _, rfl, .inr rfl, by unfold rpS; simpa using Nat.le_succ_of_le q, _, _, rfl⟩
    | true =>
      generalize hk : nxt o = k
      have nk := nextk o [.va (.lst (bs.map D.bl)), .va (.int (d : Nat)), .va (.int (e : Nat)), .ow (.lst (f.map natD)), .va (optD o), .va (.int (t : Nat)), .va (.bl true)] rfl
      rw [hk] at nk
      refine ⟨_, [.va (.lst (bs.map D.bl)), .va (.int (d : Nat)), .va (.int (e : Nat)), .ow (.lst ((rpS d e (f, o) (true, t)).1.map natD)), .va (.int (k : Nat)), .va (.int (t : Nat)), .va (.bl true)], rfl, .inl ?_, Nat.le_trans (rpS_len d e _ _) (by simpa using q), .va (.int (t : Nat)), .va (.bl true), ?_⟩
      · refine sq_of (s1 := [.va (.lst (bs.map D.bl)), .va (.int (d : Nat)), .va (.int (e : Nat)), .ow (.lst (f.map natD)), .va (optD o), .va (.int (t : Nat)), .va (.bl true)]) rfl ?_
        refine sq_of (s_set nk rfl) ?_
        show sIf _ _ _ [.va (.lst (bs.map D.bl)), .va (.int (d : Nat)), .va (.int (e : Nat)), .ow (.lst (f.map natD)), .va (.int (k : Nat)), .va (.int (t : Nat)), .va (.bl true)] = _
        unfold rpS
        simp only [hk, if_true]
        by_cases c : k = 0 ∨ (d ≤ k ∧ (k - d) % e = 0)
        · rw [if_pos c]
          refine s_ifT (by walk_at "ts") ?_ ?_
          · rcases c with c | ⟨c1, c2⟩
            · simp [c]
            · have : ((k : Int) - d) % e = 0 := by rw [mod_nat c1, c2] <;> rfl
              simp [c1, this]
          · refine s_app rfl (by walk_at "ev") rfl hlen ?_
            simp [putOwn]
        · rw [if_neg c]
          refine s_ifF (by walk_at "ts") ?_ s_nop
          have c1 : ¬ k = 0 := fun z => c (.inl z)
          by_cases c2 : d ≤ k
          · have : ¬ ((k : Int) - d) % e = 0 := fun z => by
              rw [mod_nat c2] at z
              exact c (.inr ⟨c2, by omega⟩)
            simp [c1, this]
          · simp [c1, c2]
      · unfold rpS
        simp only [hk, if_true]
        rfl
  · rintro st' ⟨_, o1, o2, rfl⟩
    exact q_ret (by walk_at "ev") rfl
/-! ### draws -/
abbrev zsD (zs : List Int) : D := .fl (zs.map D.int)
theorem num_ok (zs : List Int) (k : Nat) (hz : zs.length ≤ 63) (hk : k < 100000) : ∃ v, f_u_law_number [.va (zsD zs), .va (.int (k : Nat))] = .ok (.int v) none := by
  have main : ∀ (c t : Int), 0 ≤ t → (mIf (asB (mB fNe (mSl 0) (mV (mLst (ret []))))) (mTup (mCons (mB fIx (mSl 0) (mV (mB fMod (mSl 1) (mV (mC1 fLen (mSl 0)))))) (mCons (mB fDiv (mSl 1) (mV (mC1 fLen (mSl 0)))) (ret [])))) (mTup (mCons (ret (.int 12345)) (mCons (ret (.int 0)) (ret [])))))
      [.va (zsD zs), .va (.int (k : Nat)), .un, .un, .un, .un, .un] = .ok (.tup [.int c, .int t]) [.va (zsD zs), .va (.int (k : Nat)), .un, .un, .un, .un, .un] → ∃ v, f_u_law_number [.va (zsD zs), .va (.int (k : Nat))] = .ok (.int v) none := by
    intro c t ht h
    unfold f_u_law_number
    suffices H : ∃ v, Rt (.int v) (m_u_law_number [.va (zsD zs), .va (.int (k : Nat)), .un, .un, .un, .un, .un]) by
      obtain ⟨v, H⟩ := H
      exact ⟨v, f_z (by walk_at "in") rfl H⟩
    unfold m_u_law_number
    refine q_sq (Z := fun r => ∃ v, Rt (.int v) r) (s_asg h rfl) ?_
    refine q_sq (Z := fun r => ∃ v, Rt (.int v) r) (s1 := [.va (zsD zs), .va (.int (k : Nat)), .va (.int c), .va (.int t), .va (.int (if decide (t < 60) = true then c - 1000000000000000000 else 0)), .un, .un]) (by walk_at "sx") ?_
    generalize (if decide (t < 60) = true then c - 1000000000000000000 else 0) = r0
    have hr : mR1 (mB fMod (mV (mC1 fInt (mSl 3))) (mV (ret (.int 60)))) [.va (zsD zs), .va (.int (k : Nat)), .va (.int c), .va (.int t), .va (.int r0), .un, .un] = .ok (rngD 0 (t % 60)) [.va (zsD zs), .va (.int (k : Nat)), .va (.int c), .va (.int t), .va (.int r0), .un, .un] := i_r1 (by walk_at "ev") (by omega) (by omega)
    unfold rngD at hr
    refine q_for (Z := fun r => ∃ v, Rt (.int v) r) (fun i : Nat => D.int (0 + (i : Nat))) (fun (r : Int) _ => r / 1009) (fun _ r st => ∃ o, st = [.va (zsD zs), .va (.int (k : Nat)), .va (.int c), .va (.int t), .va (.int r), o, .un]) _ r0 hr ⟨_, rfl⟩ ?_ ?_
    · rintro i a r st _ ⟨o, rfl⟩
      exact ⟨_, _, rfl, .inl (by walk_at "sx"), .va (.int (0 + (a : Nat))), rfl⟩
    · rintro st ⟨o, rfl⟩
      generalize (List.range (t % 60 - 0).toNat).foldl (fun (r : Int) _ => r / 1009) r0 = r
      by_cases cr : 0 < r
      · exact ⟨_, q_seqR (q_ifT (by walk_at "ts") (by simp [cr]) (q_ret (by walk_at "ev") rfl))⟩
      · refine q_sq (Z := fun r => ∃ v, Rt (.int v) r) (s_ifF (by walk_at "ts") (by simp [cr]) s_nop) ?_
        refine q_sq (Z := fun r => ∃ v, Rt (.int v) r) (s_set (by walk_at "ev") rfl) ?_
        generalize hb : ((c + 977 * (k : Int)) * 48271 + 31 * (zs.length : Int)) % 2147483647 = b
        have hb1 : 0 ≤ b := by omega
        have hb2 : b < 2147483647 := by omega
        show ∃ v, Rt (.int v) (sq _ _ [.va (zsD zs), .va (.int (k : Nat)), .va (.int c), .va (.int t), .va (.int r), o, .va (.int b)])
        refine q_sq (Z := fun r => ∃ v, Rt (.int v) r) (s_set (by walk_at "ev") rfl) ?_
        generalize hb : (b * b + 40503 * (k : Int)) % 2147483629 = b'
        show ∃ v, Rt (.int v) (sRet _ [.va (zsD zs), .va (.int (k : Nat)), .va (.int c), .va (.int t), .va (.int r), o, .va (.int b')])
        exact ⟨_, q_ret (by walk_at "ev") rfl⟩
  have ne := em_fNe (em_fl em_int) zs []
  rcases zs with _ | ⟨z, zs⟩
  · refine main 12345 0 (by omega) ?_
    exact mIf_of (x := false) (asB_of (mB_of (e_slV rfl) (h_v rfl) (l_sV rfl) l_v rfl)) rfl
  · have hn : 0 < (z :: zs).length := by simp
    generalize (z :: zs) = l at hn hz main
    obtain ⟨c, hc⟩ : ∃ c, l[k % l.length]? = some c := ⟨_, List.getElem?_eq_getElem (Nat.mod_lt _ hn)⟩
    have hix : fIx (.fl (l.map D.int)) (.int ((k : Int) % (l.length : Int))) = some (.int c) := by
      rw [← Int.natCast_emod]
      exact o_ixF hc
    have nl : fNe (.fl (l.map D.int)) (.lst []) = some (.bl true) := by
      rw [fl_ne]
      have := em_fNe (em_lst em_int) l []
      rw [List.map_nil] at this
      rw [this, decide_eq_false (by intro z; rw [z] at hn; simp at hn)] <;> rfl
    refine main c ((k : Int) / (l.length : Int)) (Int.ediv_nonneg (by omega) (by omega)) ?_
    exact mIf_of (x := true) (asB_of (mB_of (e_slV rfl) (h_v rfl) (l_sV rfl) l_v nl)) (by
      show mTup _ _ = _
      walk_at "ev")
abbrev drw (zs : List Int) (k : Nat) : D := .lst [zsD zs, .int (k : Nat)]
theorem take_ok (zs : List Int) (k : Nat) (m : Int) (hz : zs.length ≤ 63) (hk : k < 10000) (hm : 0 < m) : ∃ v, 0 ≤ v ∧ v < m ∧ f_u_law_take [.io (drw zs k), .va (.int m)] = .ok (.int v) (some (drw zs (k + 1))) := by
  obtain ⟨w, hw⟩ := num_ok zs (k + 1) hz (by omega)
  refine ⟨w % m, Int.emod_nonneg _ (by omega), Int.emod_lt_of_pos _ hm, ?_⟩
  unfold f_u_law_take
  refine' f_zI (by walk_at "in") rfl ?_
  unfold m_u_law_take
  refine q_sq (s1 := [.io (drw zs (k + 1)), .va (.int m)]) (s_augIx (zz := 1) (j := 1) rfl (by walk_at "ev") rfl (by decide) rfl (by walk_at "ev") o_add rfl rfl ?_) ?_
  · simp [drw, putOwn]
  · exact q_retI (by walk_at "ev") rfl rfl
end W23

set_option Elab.async false
set_option linter.all false
set_option maxRecDepth 100000
set_option maxHeartbeats 4000000
namespace W23
open Dn
local macro_rules | `(tactic| walk_at "st") => `(tactic| first | ((simp only [List.set_cons_zero, List.set_cons_succ, v_putOwn, v_os0, v_osV, v_osO, v_put0, v_put1, List.getElem?_cons_zero, List.getElem?_cons_succ]) <;> exact rfl) | exact rfl)
local macro_rules | `(tactic| walk_at "lk") => `(tactic| first | (with_reducible exact l_v) | ((with_reducible apply l_sV); exact rfl) | ((with_reducible apply l_sO); exact rfl) | ((with_reducible apply l_sI); exact rfl))
local macro_rules | `(tactic| walk_at "fn") => `(tactic| with_reducible assumption)
local macro_rules | `(tactic| walk_at "op") => `(tactic| first
  | (with_reducible exact o_add) | (with_reducible exact o_sub) | (with_reducible exact o_lt) | (with_reducible exact o_le) | (with_reducible exact o_gt) | (with_reducible exact o_ge) | (with_reducible exact o_max) | (with_reducible exact o_min)
  | (with_reducible exact o_isN) | (with_reducible exact o_notN) | (with_reducible exact eq_int _ _) | (with_reducible exact ne_int _ _) | (with_reducible exact eq_bl _ _) | (with_reducible exact ne_bl _ _)
  | (with_reducible exact c_lenL) | (with_reducible exact c_lenT) | (with_reducible exact c_lenF) | (with_reducible exact c_int) | (with_reducible exact c_intB) | (with_reducible exact k_bl) | (with_reducible exact c_any) | (with_reducible exact c_all) | (with_reducible exact o_from1) | (with_reducible exact c_listL) | (with_reducible exact c_tupL) | (with_reducible exact o_pow18) | (with_reducible exact o_ix0) | (with_reducible exact o_ix1) | (with_reducible exact o_ixl0) | (with_reducible exact o_ixl1) | (with_reducible exact o_ixL)
  | ((with_reducible apply o_mod); omega) | ((with_reducible apply o_div) <;> omega) | ((with_reducible apply o_mulL) <;> omega) | ((with_reducible apply o_mulR) <;> omega)
  | (with_reducible assumption) | (walk_at "op2"))
local macro_rules | `(tactic| walk_at "op2") => `(tactic| with_reducible assumption)
local macro_rules | `(tactic| walk_at "ag") => `(tactic| first | (with_reducible exact a_nil) | ((with_reducible apply a_v); (walk_at "ev"); (walk_at "ag")) | ((with_reducible apply a_o); exact rfl; (walk_at "ag")))
local macro_rules | `(tactic| walk_at "sv") => `(tactic| first | (with_reducible exact sv_nil) | ((with_reducible apply sv_v); (walk_at "sv")) | ((with_reducible apply sv_i); exact rfl; (walk_at "sv")) | ((with_reducible apply sv_o); exact rfl; (walk_at "sv")))
local macro_rules | `(tactic| walk_at "hd") => `(tactic| first | ((with_reducible apply e_slV); exact rfl) | ((with_reducible apply e_slO); exact rfl) | ((with_reducible apply e_slI); exact rfl) | ((with_reducible apply h_v); (walk_at "ev")))
local macro_rules | `(tactic| walk_at "ls") => `(tactic| first | (with_reducible exact d_nil) | ((with_reducible apply e_cons); (walk_at "ev"); (walk_at "ls")))
local macro_rules | `(tactic| walk_at "pt") => `(tactic| first | (with_reducible exact e_ret _) | ((with_reducible apply e_part); (walk_at "ev")))
local macro_rules | `(tactic| walk_at "ev") => `(tactic| first
  | (with_reducible exact e_ret _)
  | ((with_reducible apply e_va); exact rfl)
  | ((with_reducible apply e_ow); exact rfl; (walk_at "st"))
  | ((with_reducible apply mB_of); (walk_at "hd"); (walk_at "hd"); (walk_at "lk"); (walk_at "lk"); (walk_at "op"))
  | ((with_reducible apply mC1_of); (walk_at "hd"); (walk_at "lk"); (walk_at "op"))
  | ((with_reducible apply e_neg); (walk_at "ev"))
  | ((with_reducible apply e_notV); (walk_at "ev"))
  | ((with_reducible apply e_andV); (walk_at "ev"); ((intro _hx); (walk_at "ev")))
  | ((with_reducible apply e_orV); (walk_at "ev"); ((intro _hx); (walk_at "ev")))
  | ((with_reducible apply e_ifI); (walk_at "ts"); ((intro _hx); (walk_at "ev")); ((intro _hx); (walk_at "ev")))
  | ((with_reducible apply e_ifB); (walk_at "ts"); ((intro _hx); (walk_at "ev")); ((intro _hx); (walk_at "ev")))
  | ((with_reducible apply e_ifS); (walk_at "ts"); ((intro _hx); (walk_at "ev")); ((intro _hx); (walk_at "ev")))
  | ((with_reducible apply e_if); (walk_at "ts"); ((intro _hx); (walk_at "ev")); ((intro _hx); (walk_at "ev")))
  | ((with_reducible apply e_lst); (walk_at "ls"); exact rfl)
  | ((with_reducible apply e_tup); (walk_at "ls"); exact rfl)
  | ((with_reducible apply e_slice); (walk_at "hd"); (walk_at "pt"); (walk_at "pt"); (walk_at "lk"); (walk_at "op"))
  | ((with_reducible apply e_chain); (walk_at "hd"); (walk_at "hd"); (walk_at "lk"); (walk_at "lk"); (walk_at "op"); ((intro _hx); (walk_at "hd")); ((intro _hx); (walk_at "lk")); ((intro _hx); (walk_at "op")))
  | ((with_reducible apply e_call); (walk_at "ag"); exact rfl; exact rfl; (walk_at "sv"); (walk_at "fn"); (walk_at "st"))
  | ((with_reducible apply e_lc); (walk_at "it"); (walk_at "lm"); (walk_at "rs"))
  | (walk_at "ev2"))
local macro_rules | `(tactic| walk_at "ev2") => `(tactic| with_reducible assumption)
local macro_rules | `(tactic| walk_at "ts") => `(tactic| first
  | ((with_reducible apply t_asB); (walk_at "ev"))
  | ((with_reducible apply t_not); (walk_at "ts"))
  | ((with_reducible apply t_and); (walk_at "ts"); ((intro _hx); (walk_at "ts")))
  | ((with_reducible apply t_or); (walk_at "ts"); ((intro _hx); (walk_at "ts")))
  | ((with_reducible apply t_tru); (walk_at "hd"); (walk_at "lk"); (walk_at "op")))
local macro_rules | `(tactic| walk_at "xs") => `(tactic| first | (with_reducible exact x_nil) | ((with_reducible apply x_v); (walk_at "ev"); (walk_at "xs")) | ((with_reducible apply x_n); (walk_at "ev"); (walk_at "xs")))
local macro_rules | `(tactic| walk_at "len") => `(tactic| first | assumption | omega | ((simp only [List.length_map, List.length_cons, List.length_nil, List.length_append, List.length_zip, List.length_zipIdx, List.length_range]); omega))
local macro_rules | `(tactic| walk_at "sx") => `(tactic| first
  | (with_reducible exact s_nop)
  | ((with_reducible apply sq_of); (walk_at "sx"); (walk_at "sx"))
  | ((with_reducible apply s_set); (walk_at "ev"); (walk_at "st"))
  | ((with_reducible apply s_own); (walk_at "ev"); (walk_at "st"))
  | ((with_reducible apply s_app); exact rfl; (walk_at "ev"); exact rfl; (walk_at "len"); (walk_at "st"))
  | ((with_reducible apply s_aug); exact rfl; (walk_at "ev"); (walk_at "op"); (walk_at "st"))
  | ((with_reducible apply s_asg); (walk_at "ev"); (walk_at "gs"))
  | ((with_reducible apply s_par); (walk_at "xs"); (walk_at "gs"))
  | ((with_reducible apply expr_of); (walk_at "ev"))
  | ((with_reducible apply ret_of); (walk_at "ev"))
  | ((with_reducible apply s_ifF); (walk_at "ts"); exact rfl; (walk_at "sx"))
  | (walk_at "sx2"))
local macro_rules | `(tactic| walk_at "sx2") => `(tactic| with_reducible assumption)
local macro_rules | `(tactic| walk_at "in") => `(tactic| ((simp only [v_init, List.length_cons, List.length_nil, List.cons_append, List.nil_append, List.replicate_succ, List.replicate_zero, Nat.reduceAdd, Nat.reduceSub, Nat.zero_add]) <;> exact rfl))
local macro_rules | `(tactic| walk_at "rs") => `(tactic| ((simp only [restore, unset, keep_idem, keep_va, keep_ow, keep_un, List.set_cons_zero, List.set_cons_succ, List.getElem?_cons_zero, List.getElem?_cons_succ]) <;> exact rfl))
local macro_rules | `(tactic| walk_at "go") => `(tactic| repeat ((with_reducible apply q_sq); (focus (walk_at "sx"))))
local macro_rules | `(tactic| walk_at "it") => `(tactic| first
  | ((with_reducible apply i_lst); (walk_at "ev"))
  | ((with_reducible apply i_tup); (walk_at "ev"))
  | ((with_reducible apply i_zipM); (walk_at "ev"); (walk_at "ev"))
  | ((with_reducible apply i_enLM); (walk_at "ev"))
  | ((with_reducible apply i_enTM); (walk_at "ev"))
  | ((with_reducible apply i_r1M); (walk_at "ev"); (walk_at "len")))
local macro_rules | `(tactic| walk_at "lm") => `(tactic| ((with_reducible apply lc_map); (walk_at "len"); (intro _p _hp; exact ⟨_, _, rfl, by walk_at "ev", by exact rfl⟩)))
local macro_rules | `(tactic| walk_at "gs") => `(tactic| first | ((simp only [v_gT, v_gCons, v_gN, v_gNil, List.length_cons, List.length_nil, Nat.reduceAdd, Nat.zero_add, if_true, Option.bind_some, List.set_cons_zero, List.set_cons_succ, v_setX0, v_setX1, Bool.false_eq_true, if_false]) <;> exact rfl) | exact rfl)
def lst' (n d e : Int) : Int := if n = 1 then 1 else d + 1 + (n - 2) * e
def mst' (n d e : Int) : Int := if n = 1 then d else d + 1 + (n - 2) * e + e - 1
theorem lf_ok' {n d e : Int} (h1 : 1 ≤ n) (h2 : n ≤ 99) (hd : 1 ≤ d) (hd2 : d ≤ 99) (he : 1 ≤ e) (he2 : e ≤ 99) :
    f_lengths_for [.va (.int n), .va (.int d), .va (.int e)] = .ok (.tup [.int (lst' n d e), .int (mst' n d e)]) none := by
  rw [lf_ok h1 h2 hd hd2 he he2]
  unfold lst' mst'
  by_cases c : n = 1
  · rw [if_pos c, if_pos c, if_pos c]
  · rw [if_neg c, if_neg c, if_neg c]
def Fact (d e L : Nat) : Prop := let c := (rep d e (List.replicate L true)).length
  crep L d e = c ∧ c ≤ 99 ∧ (0 < c → lst' c d e ≤ L ∧ L ≤ mst' c d e ∧ crep (lst' c d e) d e = c ∧ crep (mst' c d e) d e = c ∧ crep (mst' c d e + 1) d e = c + 1 ∧ crep (lst' c d e - 1) d e = c - 1 ∧ 1 ≤ lst' c d e ∧ lst' c d e ≤ 999 ∧ 1 ≤ mst' c d e ∧ mst' c d e ≤ 999)
instance (d e L : Nat) : Decidable (Fact d e L) := by
  unfold Fact
  exact inferInstance
theorem facts : ∀ d : _root_.Fin 7, ∀ e : _root_.Fin 5, ∀ L : _root_.Fin 25, 1 ≤ d.val → 1 ≤ e.val → Fact d.val e.val L.val := by decide +kernel
theorem fact {d e L : Nat} (h1 : 1 ≤ d) (h2 : d ≤ 6) (h3 : 1 ≤ e) (h4 : e ≤ 4) (h5 : L < 25) : Fact d e L := facts ⟨d, by omega⟩ ⟨e, by omega⟩ ⟨L, h5⟩ h1 h3
theorem lrs : ∀ d : _root_.Fin 7, ∀ e : _root_.Fin 5, 1 ≤ d.val → 1 ≤ e.val → lrOk (d.val : Nat) 200 (e.val : Nat) = true ∧ (PySem.Builtin.Range.rangeSize (d.val : Nat) 200 (e.val : Nat)).toNat = (199 - d.val + e.val) / e.val := by decide +kernel
theorem lr {d e : Nat} (h1 : 1 ≤ d) (h2 : d ≤ 6) (h3 : 1 ≤ e) (h4 : e ≤ 4) : lrOk (d : Nat) 200 (e : Nat) = true ∧ (PySem.Builtin.Range.rangeSize (d : Nat) 200 (e : Nat)).toNat = (199 - d + e) / e := lrs ⟨d, by omega⟩ ⟨e, by omega⟩ h1 h3
def inL (d e : Nat) : List Int := 0 :: (List.range ((199 - d + e) / e)).map fun x : Nat => ((d : Int) + (x : Int) * (e : Int))
theorem inL_mem {d e k : Nat} (h1 : 1 ≤ d) (h2 : d ≤ 6) (h3 : 1 ≤ e) (h4 : e ≤ 4) (hk : k < 200) : ((k : Int) ∈ inL d e) ↔ (k = 0 ∨ (d ≤ k ∧ (k - d) % e = 0)) := by
  unfold inL
  rw [List.mem_cons, List.mem_map]
  simp only [List.mem_range]
  rcases (by omega : e = 1 ∨ e = 2 ∨ e = 3 ∨ e = 4) with rfl | rfl | rfl | rfl
  all_goals
    constructor
    · rintro (h | ⟨x, hx, h⟩)
      · left; omega
      · right; omega
    · rintro (h | ⟨h, h'⟩)
      · left; omega
      · right
        first
          | exact ⟨(k - d) / 1, by omega, by omega⟩
          | exact ⟨(k - d) / 2, by omega, by omega⟩
          | exact ⟨(k - d) / 3, by omega, by omega⟩
          | exact ⟨(k - d) / 4, by omega, by omega⟩
theorem inL_D {d e : Nat} (h1 : 1 ≤ d) (h2 : d ≤ 6) (h3 : 1 ≤ e) (h4 : e ≤ 4) : fCat (.lst [.int 0]) (.lst (rng3D (d : Nat) 200 (e : Nat))) = some (.lst ((inL d e).map D.int)) := by
  have hl := (lr h1 h2 h3 h4).2
  have e1 : (D.int 0 :: rng3D (d : Nat) 200 (e : Nat)) = (inL d e).map D.int := by
    unfold rng3D inL
    rw [hl, List.map_cons, List.map_map]
    rfl
  have hb : (199 - d + e) / e ≤ 199 - d + e := Nat.div_le_self _ _
  show (if _ then _ else _) = _
  rw [if_pos, ← e1]
  · rfl
  · unfold rng3D
    rw [hl]
    simp
    omega
/-! ### the law's repeats -/
theorem rp_okU {bs : List Bool} {d e : Nat} (hl : bs.length < 1000) (hd : 1 ≤ d) (hd2 : d ≤ 99) (he : 1 ≤ e) (he2 : e ≤ 99) : f_repeats [.va (.lst (bs.map D.bl)), .va (.int (d : Nat)), .va (.int (e : Nat))] = .ok (.lst ((rep d e bs).map natD)) none := rp_ok hl hd hd2 he he2
theorem rpL_len (d e : Nat) : ∀ (l : List (Bool × Nat)) (s : RpT), (l.foldl (rpS d e) s).1.length ≤ s.1.length + l.length
  | [], s => Nat.le_refl _
  | p :: l, s => by
    rw [List.foldl_cons, List.length_cons]
    have := rpL_len d e l (rpS d e s p)
    have := rpS_len d e s p
    omega
theorem rep_len {d e : Nat} {bs : List Bool} : (rep d e bs).length ≤ bs.length := by
  have := rpL_len d e (bs.zipIdx 0) ([], none)
  unfold rep
  simpa using this
theorem em_natL : Em (fun xs : List Nat => D.lst (xs.map natD)) 1 := em_lst em_nat
local macro_rules | `(tactic| walk_at "fn") => `(tactic| first | (with_reducible assumption) | ((with_reducible apply rp_okU) <;> (walk_at "len")) | ((with_reducible apply cr_ok) <;> omega) | ((with_reducible apply lf_ok') <;> omega))
local macro_rules | `(tactic| walk_at "ev2") => `(tactic| first | ((with_reducible apply e_lr3); (walk_at "ls"); (with_reducible assumption)) | (with_reducible assumption))
theorem nxt_len (d e : Nat) : ∀ (l : List (Bool × Nat)) (s : RpT) (m : Nat), (∀ k, s.2 = some k → k < m) → ∀ k, (l.foldl (rpS d e) s).2 = some k → k < m + l.length
  | [], s, m, h, k, hk => h k hk
  | p :: l, s, m, h, k, hk => by
    rw [List.foldl_cons] at hk
    rw [List.length_cons, show m + (l.length + 1) = (m + 1) + l.length by omega]
    refine nxt_len d e l _ (m + 1) ?_ k hk
    intro j hj
    unfold rpS at hj
    split at hj
    · simp only [Option.some.injEq] at hj
      cases h2 : s.2 with
      | none => rw [h2] at hj; unfold nxt at hj; simp at hj; omega
      | some q => rw [h2] at hj; unfold nxt at hj; simp at hj; have := h q h2; omega
    · cases hj
theorem nextk' (i : Nat) (o : Option Nat) (st : S) (h : st[i]? = some (.va (optD o))) : mIf (asB (mB fIsN (mSl i) (mV (ret .non)))) (ret (.int 0)) (mB fAdd (mSl i) (mV (ret (.int 1)))) st = .ok (.int ((nxt o : Nat) : Int)) st := by
  have e1 : mSl i st = .ok (.s i) st := e_slV h
  have e2 : look (.s i) st = .ok (optD o) st := l_sV h
  refine mIf_of (x := isNon (optD o)) (asB_of (mB_of e1 (h_v rfl) e2 l_v o_isN)) ?_
  cases o with
  | none => rfl
  | some k => exact mB_of e1 (h_v rfl) e2 l_v rfl
theorem repR_ok {zs : List Int} {k : Nat} {bs : List Bool} (hz : zs.length ≤ 63) (hk : k < 1000) (hl : bs.length < 190) : ∃ d', f_u_law_repeats_right [.io (drw zs k), .va (.lst (bs.map D.bl))] = .ok (.bl true) (some d') := by
  obtain ⟨v1, a1, a2, t1⟩ := take_ok zs k 6 hz (by omega) (by omega)
  obtain ⟨v2, b1, b2, t2⟩ := take_ok zs (k + 1) 4 hz (by omega) (by omega)
  obtain ⟨d, hd, d1, d2⟩ : ∃ d : Nat, (d : Int) = 1 + v1 ∧ 1 ≤ d ∧ d ≤ 6 := ⟨(1 + v1).toNat, by omega, by omega, by omega⟩
  obtain ⟨e, he, e1, e2⟩ : ∃ e : Nat, (e : Int) = 1 + v2 ∧ 1 ≤ e ∧ e ≤ 4 := ⟨(1 + v2).toNat, by omega, by omega, by omega⟩
  refine ⟨drw zs (k + 1 + 1), ?_⟩
  unfold f_u_law_repeats_right
  refine' f_zI (by walk_at "in") rfl ?_
  unfold m_u_law_repeats_right
  walk_at "go"
  rw [← hd, ← he]
  have lrd := (lr d1 d2 e1 e2).1
  have hcat := inL_D d1 d2 e1 e2
  refine' q_for (fun p : Bool × Nat => .tup [.int (p.2 : Nat), .bl p.1]) (rpS d e) (fun i s st => s.1.length ≤ i ∧ (∀ k, s.2 = some k → k < i) ∧ ∃ o1 o2, st = [.io (drw zs (k + 1 + 1)), .va (.lst (bs.map D.bl)), .va (.int (d : Nat)), .va (.int (e : Nat)), .ow (.lst (s.1.map natD)), .va (optD s.2), o1, o2, .un, .un, .un, .un]) (bs.zipIdx 0) ([], none) (by walk_at "it") ?_ ?_ ?_
  · exact ⟨Nat.le_refl _, (fun _ h => by cases h), _, _, rfl⟩
  · rintro i ⟨b, t⟩ ⟨f, o⟩ st ez ⟨q, qk, o1, o2, rfl⟩
    have hi : i < (bs.zipIdx 0).length := (List.getElem?_eq_some_iff.mp ez).1
    rw [List.length_zipIdx] at hi
    simp only at q qk
    have hlen : (f.map natD).length < 16777216 := by simp only [List.length_map]; omega
    have nn : ∀ k', (rpS d e (f, o) (b, t)).2 = some k' → k' < i + 1 := fun k' h' => nxt_len d e [(b, t)] (f, o) i qk k' h'
    cases b with
    | false => exact ⟨_, _, rfl, .inl rfl, by unfold rpS; simpa using Nat.le_succ_of_le q, nn, .va (.int (t : Nat)), .va (.bl false), rfl⟩
    | true =>
      generalize hk' : nxt o = m
      have hm : m < 200 := by
        rw [← hk']
        cases o with
        | none => decide
        | some x => have := qk x rfl; unfold nxt; simp only; omega
      have nk := nextk' 5 o [.io (drw zs (k + 1 + 1)), .va (.lst (bs.map D.bl)), .va (.int (d : Nat)), .va (.int (e : Nat)), .ow (.lst (f.map natD)), .va (optD o), .va (.int (t : Nat)), .va (.bl true), .un, .un, .un, .un] rfl
      rw [hk'] at nk
      refine ⟨_, [.io (drw zs (k + 1 + 1)), .va (.lst (bs.map D.bl)), .va (.int (d : Nat)), .va (.int (e : Nat)), .ow (.lst ((rpS d e (f, o) (true, t)).1.map natD)), .va (.int (m : Nat)), .va (.int (t : Nat)), .va (.bl true), .un, .un, .un, .un], rfl, .inl ?_, Nat.le_trans (rpS_len d e _ _) (by simpa using q), nn, .va (.int (t : Nat)), .va (.bl true), ?_⟩
      · refine sq_of (s_set (mIf_of (x := true) rfl nk) rfl) ?_
        show sIf _ _ _ [.io (drw zs (k + 1 + 1)), .va (.lst (bs.map D.bl)), .va (.int (d : Nat)), .va (.int (e : Nat)), .ow (.lst (f.map natD)), .va (.int (m : Nat)), .va (.int (t : Nat)), .va (.bl true), .un, .un, .un, .un] = _
        have hin := em_fIn em_int false (m : Int) (inL d e)
        have hmem := inL_mem d1 d2 e1 e2 hm
        unfold rpS
        simp only [hk', if_true]
        by_cases c : m = 0 ∨ (d ≤ m ∧ (m - d) % e = 0)
        · rw [if_pos c]
          refine s_ifT (by walk_at "ts") ?_ ?_
          · rw [decide_eq_true (hmem.mpr c)] <;> rfl
          · refine s_app rfl (by walk_at "ev") rfl hlen ?_
            simp [putOwn]
        · rw [if_neg c]
          refine s_ifF (by walk_at "ts") ?_ s_nop
          rw [decide_eq_false fun z => c (hmem.mp z)] <;> rfl
      · unfold rpS
        simp only [hk', if_true]
        rfl
  · rintro st' ⟨_, _, o1, o2, rfl⟩
    have ne1 := em_fNe em_natL (rep d e bs) (rep d e bs)
    show RtI 0 (.bl true) (drw zs (k + 1 + 1)) (sq _ _ [.io (drw zs (k + 1 + 1)), .va (.lst (bs.map D.bl)), .va (.int (d : Nat)), .va (.int (e : Nat)), .ow (.lst ((rep d e bs).map natD)), .va (optD ((bs.zipIdx 0).foldl (rpS d e) ([], none)).2), o1, o2, .un, .un, .un, .un])
    generalize optD ((bs.zipIdx 0).foldl (rpS d e) ([], none)).2 = od
    refine q_sq (s_ifF (by walk_at "ts") (by simp) s_nop) ?_
    refine' q_for (fun i : Nat => D.int (i : Nat)) (fun (_ : Unit) _ => ()) (fun i s st => ∃ o3 o4 o5 o6, st = [.io (drw zs (k + 1 + 1)), .va (.lst (bs.map D.bl)), .va (.int (d : Nat)), .va (.int (e : Nat)), .ow (.lst ((rep d e bs).map natD)), .va od, o1, o2, o3, o4, o5, o6]) (List.range 25) () rfl ?_ ?_ ?_
    · exact ⟨_, _, _, _, rfl⟩
    · rintro i L _ st ez ⟨o3, o4, o5, o6, rfl⟩
      have hL : L < 25 := List.mem_range.mp (List.mem_of_getElem? ez)
      obtain ⟨f1, f2, f3⟩ := fact d1 d2 e1 e2 hL
      have hrep : fRep (.lst [.bl true]) (.int (L : Nat)) = some (.lst ((List.replicate L true).map D.bl)) := by
        unfold fRep
        simp only [List.length_cons, List.length_nil, Int.toNat_natCast]
        rw [if_pos ⟨by omega, by omega, by omega⟩, List.map_replicate, List.flatten_replicate_singleton]
      have hLl : (List.replicate L true).length < 1000 := by rw [List.length_replicate]; omega
      have ev9 : sSet 9 (mC1 fLen (mV (mCall ps_repeats.length f_repeats (agV (mB fRep (mV (mLst (mCons (ret (.bl true)) (ret [])))) (mSl 8)) (agV (mVar 2) (agV (mVar 3) (ret [])))))))
          [.io (drw zs (k + 1 + 1)), .va (.lst (bs.map D.bl)), .va (.int (d : Nat)), .va (.int (e : Nat)), .ow (.lst ((rep d e bs).map natD)), .va od, o1, o2, .va (.int (L : Nat)), o4, o5, o6] =
          .nx [.io (drw zs (k + 1 + 1)), .va (.lst (bs.map D.bl)), .va (.int (d : Nat)), .va (.int (e : Nat)), .ow (.lst ((rep d e bs).map natD)), .va od, o1, o2, .va (.int (L : Nat)), .va (.int ((rep d e (List.replicate L true)).length : Nat)), o5, o6] := by walk_at "sx"
      generalize hc : (rep d e (List.replicate L true)).length = c at f1 f2 f3 ev9
      have crL := cr_ok (n := L) (d := d) (e := e) (by omega) (by omega) (by omega) (by omega) (by omega) (by omega)
      rw [f1] at crL
      by_cases c0 : 0 < c
      · obtain ⟨g1, g2, g3, g4, g5, g6, g7, g8, g9, g10⟩ := f3 c0
        have lfc := lf_ok' (n := c) (d := d) (e := e) (by omega) (by omega) (by omega) (by omega) (by omega) (by omega)
        generalize lst' c d e = lo at g1 g3 g6 g7 g8 lfc
        generalize mst' c d e = hi at g2 g4 g5 g9 g10 lfc
        have c1 := cr_ok (n := lo) (d := d) (e := e) (by omega) (by omega) (by omega) (by omega) (by omega) (by omega)
        have c2 := cr_ok (n := hi) (d := d) (e := e) (by omega) (by omega) (by omega) (by omega) (by omega) (by omega)
        have c3 := cr_ok (n := hi + 1) (d := d) (e := e) (by omega) (by omega) (by omega) (by omega) (by omega) (by omega)
        have c4 := cr_ok (n := lo - 1) (d := d) (e := e) (by omega) (by omega) (by omega) (by omega) (by omega) (by omega)
        rw [g3] at c1
        rw [g4] at c2
        rw [g5] at c3
        rw [g6] at c4
        refine ⟨_, [.io (drw zs (k + 1 + 1)), .va (.lst (bs.map D.bl)), .va (.int (d : Nat)), .va (.int (e : Nat)), .ow (.lst ((rep d e bs).map natD)), .va od, o1, o2, .va (.int (L : Nat)), .va (.int (c : Nat)), .va (.int lo), .va (.int hi)], rfl, .inl (sq_of ev9 (sq_of (s_ifF (by walk_at "ts") (by simp) s_nop) (s_ifT (by walk_at "ts") (by simpa using c0) (sq_of (s_asg (by walk_at "ev") (by walk_at "gs")) (s_ifF (by walk_at "ts") (by simp [g1, g2]) s_nop))))), .va (.int (L : Nat)), .va (.int (c : Nat)), .va (.int lo), .va (.int hi), rfl⟩
      · exact ⟨_, _, rfl, .inl (sq_of ev9 (sq_of (s_ifF (by walk_at "ts") (by simp) s_nop) (s_ifF (by walk_at "ts") (by simpa using c0) s_nop))), .va (.int (L : Nat)), .va (.int (c : Nat)), _, _, rfl⟩
    · rintro st' ⟨o3, o4, o5, o6, rfl⟩
      exact q_retI (by walk_at "ev") rfl rfl
end W23

set_option Elab.async false
set_option linter.all false
set_option maxRecDepth 100000
set_option maxHeartbeats 4000000
namespace W23
open Dn
local macro_rules | `(tactic| walk_at "st") => `(tactic| first | ((simp only [List.set_cons_zero, List.set_cons_succ, v_putOwn, v_os0, v_osV, v_osO, v_put0, v_put1, List.getElem?_cons_zero, List.getElem?_cons_succ]) <;> exact rfl) | exact rfl)
local macro_rules | `(tactic| walk_at "lk") => `(tactic| first | (with_reducible exact l_v) | ((with_reducible apply l_sV); exact rfl) | ((with_reducible apply l_sO); exact rfl) | ((with_reducible apply l_sI); exact rfl))
local macro_rules | `(tactic| walk_at "fn") => `(tactic| with_reducible assumption)
local macro_rules | `(tactic| walk_at "op") => `(tactic| first
  | (with_reducible exact o_add) | (with_reducible exact o_sub) | (with_reducible exact o_lt) | (with_reducible exact o_le) | (with_reducible exact o_gt) | (with_reducible exact o_ge) | (with_reducible exact o_max) | (with_reducible exact o_min)
  | (with_reducible exact o_isN) | (with_reducible exact o_notN) | (with_reducible exact eq_int _ _) | (with_reducible exact ne_int _ _) | (with_reducible exact eq_bl _ _) | (with_reducible exact ne_bl _ _)
  | (with_reducible exact c_lenL) | (with_reducible exact c_lenT) | (with_reducible exact c_lenF) | (with_reducible exact c_int) | (with_reducible exact c_intB) | (with_reducible exact k_bl) | (with_reducible exact c_any) | (with_reducible exact c_all) | (with_reducible exact o_from1) | (with_reducible exact c_listL) | (with_reducible exact c_tupL) | (with_reducible exact o_pow18) | (with_reducible exact o_ix0) | (with_reducible exact o_ix1) | (with_reducible exact o_ixl0) | (with_reducible exact o_ixl1) | (with_reducible exact o_ixL)
  | ((with_reducible apply o_mod); omega) | ((with_reducible apply o_div) <;> omega) | ((with_reducible apply o_mulL) <;> omega) | ((with_reducible apply o_mulR) <;> omega)
  | (with_reducible assumption) | (walk_at "op2"))
local macro_rules | `(tactic| walk_at "op2") => `(tactic| with_reducible assumption)
local macro_rules | `(tactic| walk_at "ag") => `(tactic| first | (with_reducible exact a_nil) | ((with_reducible apply a_v); (walk_at "ev"); (walk_at "ag")) | ((with_reducible apply a_o); exact rfl; (walk_at "ag")))
local macro_rules | `(tactic| walk_at "sv") => `(tactic| first | (with_reducible exact sv_nil) | ((with_reducible apply sv_v); (walk_at "sv")) | ((with_reducible apply sv_i); exact rfl; (walk_at "sv")) | ((with_reducible apply sv_o); exact rfl; (walk_at "sv")))
local macro_rules | `(tactic| walk_at "hd") => `(tactic| first | ((with_reducible apply e_slV); exact rfl) | ((with_reducible apply e_slO); exact rfl) | ((with_reducible apply e_slI); exact rfl) | ((with_reducible apply h_v); (walk_at "ev")))
local macro_rules | `(tactic| walk_at "ls") => `(tactic| first | (with_reducible exact d_nil) | ((with_reducible apply e_cons); (walk_at "ev"); (walk_at "ls")))
local macro_rules | `(tactic| walk_at "pt") => `(tactic| first | (with_reducible exact e_ret _) | ((with_reducible apply e_part); (walk_at "ev")))
local macro_rules | `(tactic| walk_at "ev") => `(tactic| first
  | (with_reducible exact e_ret _)
  | ((with_reducible apply e_va); exact rfl)
  | ((with_reducible apply e_ow); exact rfl; (walk_at "st"))
  | ((with_reducible apply mB_of); (walk_at "hd"); (walk_at "hd"); (walk_at "lk"); (walk_at "lk"); (walk_at "op"))
  | ((with_reducible apply mC1_of); (walk_at "hd"); (walk_at "lk"); (walk_at "op"))
  | ((with_reducible apply e_neg); (walk_at "ev"))
  | ((with_reducible apply e_notV); (walk_at "ev"))
  | ((with_reducible apply e_andV); (walk_at "ev"); ((intro _hx); (walk_at "ev")))
  | ((with_reducible apply e_orV); (walk_at "ev"); ((intro _hx); (walk_at "ev")))
  | ((with_reducible apply e_ifI); (walk_at "ts"); ((intro _hx); (walk_at "ev")); ((intro _hx); (walk_at "ev")))
  | ((with_reducible apply e_ifB); (walk_at "ts"); ((intro _hx); (walk_at "ev")); ((intro _hx); (walk_at "ev")))
  | ((with_reducible apply e_ifS); (walk_at "ts"); ((intro _hx); (walk_at "ev")); ((intro _hx); (walk_at "ev")))
  | ((with_reducible apply e_if); (walk_at "ts"); ((intro _hx); (walk_at "ev")); ((intro _hx); (walk_at "ev")))
  | ((with_reducible apply e_lst); (walk_at "ls"); exact rfl)
  | ((with_reducible apply e_tup); (walk_at "ls"); exact rfl)
  | ((with_reducible apply e_slice); (walk_at "hd"); (walk_at "pt"); (walk_at "pt"); (walk_at "lk"); (walk_at "op"))
  | ((with_reducible apply e_chain); (walk_at "hd"); (walk_at "hd"); (walk_at "lk"); (walk_at "lk"); (walk_at "op"); ((intro _hx); (walk_at "hd")); ((intro _hx); (walk_at "lk")); ((intro _hx); (walk_at "op")))
  | ((with_reducible apply e_call); (walk_at "ag"); exact rfl; exact rfl; (walk_at "sv"); (walk_at "fn"); (walk_at "st"))
  | ((with_reducible apply e_lc); (walk_at "it"); (walk_at "lm"); (walk_at "rs"))
  | (walk_at "ev2"))
local macro_rules | `(tactic| walk_at "ev2") => `(tactic| with_reducible assumption)
local macro_rules | `(tactic| walk_at "ts") => `(tactic| first
  | ((with_reducible apply t_asB); (walk_at "ev"))
  | ((with_reducible apply t_not); (walk_at "ts"))
  | ((with_reducible apply t_and); (walk_at "ts"); ((intro _hx); (walk_at "ts")))
  | ((with_reducible apply t_or); (walk_at "ts"); ((intro _hx); (walk_at "ts")))
  | ((with_reducible apply t_tru); (walk_at "hd"); (walk_at "lk"); (walk_at "op")))
local macro_rules | `(tactic| walk_at "xs") => `(tactic| first | (with_reducible exact x_nil) | ((with_reducible apply x_v); (walk_at "ev"); (walk_at "xs")) | ((with_reducible apply x_n); (walk_at "ev"); (walk_at "xs")))
local macro_rules | `(tactic| walk_at "len") => `(tactic| first | assumption | omega | ((simp only [List.length_map, List.length_cons, List.length_nil, List.length_append, List.length_zip, List.length_zipIdx, List.length_range]); omega))
local macro_rules | `(tactic| walk_at "sx") => `(tactic| first
  | (with_reducible exact s_nop)
  | ((with_reducible apply sq_of); (walk_at "sx"); (walk_at "sx"))
  | ((with_reducible apply s_set); (walk_at "ev"); (walk_at "st"))
  | ((with_reducible apply s_own); (walk_at "ev"); (walk_at "st"))
  | ((with_reducible apply s_app); exact rfl; (walk_at "ev"); exact rfl; (walk_at "len"); (walk_at "st"))
  | ((with_reducible apply s_aug); exact rfl; (walk_at "ev"); (walk_at "op"); (walk_at "st"))
  | ((with_reducible apply s_asg); (walk_at "ev"); (walk_at "gs"))
  | ((with_reducible apply s_par); (walk_at "xs"); (walk_at "gs"))
  | ((with_reducible apply expr_of); (walk_at "ev"))
  | ((with_reducible apply ret_of); (walk_at "ev"))
  | ((with_reducible apply s_ifF); (walk_at "ts"); exact rfl; (walk_at "sx"))
  | (walk_at "sx2"))
local macro_rules | `(tactic| walk_at "sx2") => `(tactic| with_reducible assumption)
local macro_rules | `(tactic| walk_at "in") => `(tactic| ((simp only [v_init, List.length_cons, List.length_nil, List.cons_append, List.nil_append, List.replicate_succ, List.replicate_zero, Nat.reduceAdd, Nat.reduceSub, Nat.zero_add]) <;> exact rfl))
local macro_rules | `(tactic| walk_at "rs") => `(tactic| ((simp only [restore, unset, keep_idem, keep_va, keep_ow, keep_un, List.set_cons_zero, List.set_cons_succ, List.getElem?_cons_zero, List.getElem?_cons_succ]) <;> exact rfl))
local macro_rules | `(tactic| walk_at "go") => `(tactic| repeat ((with_reducible apply q_sq); (focus (walk_at "sx"))))
local macro_rules | `(tactic| walk_at "it") => `(tactic| first
  | ((with_reducible apply i_lst); (walk_at "ev"))
  | ((with_reducible apply i_tup); (walk_at "ev"))
  | ((with_reducible apply i_zipM); (walk_at "ev"); (walk_at "ev"))
  | ((with_reducible apply i_enLM); (walk_at "ev"))
  | ((with_reducible apply i_enTM); (walk_at "ev"))
  | ((with_reducible apply i_r1M); (walk_at "ev"); (walk_at "len")))
local macro_rules | `(tactic| walk_at "lm") => `(tactic| ((with_reducible apply lc_map); (walk_at "len"); (intro _p _hp; exact ⟨_, _, rfl, by walk_at "ev", by exact rfl⟩)))
local macro_rules | `(tactic| walk_at "gs") => `(tactic| first | ((simp only [v_gT, v_gCons, v_gN, v_gNil, List.length_cons, List.length_nil, Nat.reduceAdd, Nat.zero_add, if_true, Option.bind_some, List.set_cons_zero, List.set_cons_succ, v_setX0, v_setX1, Bool.false_eq_true, if_false]) <;> exact rfl) | exact rfl)
/-! ### plain facts -/
theorem clR_one : ∀ (bs : List Bool) (n : Bool), clR 1 n 0 bs = bs
  | [], _ => rfl
  | b :: bs, n => by
    rw [clR_cons]
    by_cases c : b = n
    · subst c
      simp [clR_one bs b]
    · simp [c, clR_one bs b]
theorem clean_one (bs : List Bool) : clean 1 bs = bs := by rw [clean_eq, clR_one]
/-! runs -/
structure RnI (f : List (Bool × Nat)) (pre : List Bool) : Prop where
  flat : (f.map fun p => List.replicate p.2 p.1).flatten = pre
  pos : ∀ p ∈ f, 1 ≤ p.2
  adj : ∀ (i : Nat) (x y : Bool × Nat), f[i]? = some x → f[i + 1]? = some y → x.1 ≠ y.1
theorem rnI_step {f : List (Bool × Nat)} {pre : List Bool} (I : RnI f pre) (b : Bool) : RnI (rnS f b) (pre ++ [b]) := by
  rcases List.eq_nil_or_concat f with e | ⟨g, ⟨x, k⟩, e⟩
  · subst e
    rw [rnS_nil]
    have : pre = [] := by rw [← I.flat] <;> rfl
    subst this
    exact ⟨rfl, by simp, fun i x y h1 h2 => by simp at h2⟩
  · rw [List.concat_eq_append] at e
    subst e
    rw [rnS_snoc]
    by_cases c : x = b
    · subst c
      rw [if_pos rfl]
      refine ⟨?_, ?_, ?_⟩
      · rw [← I.flat]
        simp [List.replicate_succ']
      · intro p hp
        rcases List.mem_append.mp hp with h | h
        · exact I.pos p (List.mem_append_left _ h)
        · simp at h
          subst h
          simp
      · intro i u v h1 h2
        by_cases hi : i + 1 < g.length
        · rw [List.getElem?_append_left (by omega)] at h1
          rw [List.getElem?_append_left hi] at h2
          exact I.adj i u v (by rw [List.getElem?_append_left (by omega)]; exact h1) (by rw [List.getElem?_append_left hi]; exact h2)
        · by_cases hi2 : i + 1 = g.length
          · rw [List.getElem?_append_left (by omega)] at h1
            have e2 : (g ++ [(x, k + 1)])[i + 1]? = some (x, k + 1) := by rw [hi2, List.getElem?_append_right (by omega)]; simp
            rw [e2] at h2
            cases h2
            exact I.adj i u (x, k) (by rw [List.getElem?_append_left (by omega)]; exact h1) (by rw [hi2, List.getElem?_append_right (by omega)]; simp)
          · have : (g ++ [(x, k + 1)])[i + 1]? = none := by
              rw [List.getElem?_eq_none_iff]
              simp
              omega
            rw [this] at h2
            cases h2
    · rw [if_neg c]
      refine ⟨?_, ?_, ?_⟩
      · rw [List.map_append, List.flatten_append, I.flat]
        simp
      · intro p hp
        rcases List.mem_append.mp hp with h | h
        · exact I.pos p h
        · simp at h
          subst h
          simp
      · intro i u v h1 h2
        by_cases hi : i + 1 < (g ++ [(x, k)]).length
        · rw [List.getElem?_append_left (by omega)] at h1
          rw [List.getElem?_append_left hi] at h2
          exact I.adj i u v h1 h2
        · have hl : i + 1 < (g ++ [(x, k)] ++ [(b, 1)]).length := (List.getElem?_eq_some_iff.mp h2).1
          simp only [List.length_append, List.length_cons, List.length_nil] at hi hl
          have hi2 : i = g.length := by omega
          subst hi2
          have a1 : (g ++ [(x, k)] ++ [(b, 1)])[g.length]? = some (x, k) := by simp
          have a2 : (g ++ [(x, k)] ++ [(b, 1)])[g.length + 1]? = some (b, 1) := by simp
          rw [a1] at h1
          rw [a2] at h2
          cases h1
          cases h2
          exact c
theorem rnI_all : ∀ (bs : List Bool) (f : List (Bool × Nat)) (pre : List Bool), RnI f pre → RnI (bs.foldl rnS f) (pre ++ bs)
  | [], f, pre, I => by simpa using I
  | b :: bs, f, pre, I => by
    rw [List.foldl_cons, show pre ++ b :: bs = (pre ++ [b]) ++ bs by simp]
    exact rnI_all bs _ _ (rnI_step I b)
theorem runs_I (bs : List Bool) : RnI (runs bs) bs := by
  have := rnI_all bs [] [] ⟨rfl, by simp, fun i x y h1 h2 => by simp at h1⟩
  simpa [runs] using this
theorem runs_adj (bs : List Bool) : ((runs bs).zip ((runs bs).drop 1)).any (fun p => decide (p.1.1 = p.2.1)) = false := by
  rw [List.any_eq_false]
  rintro ⟨x, y⟩ h
  obtain ⟨i, hi⟩ := List.mem_iff_getElem?.mp h
  rw [List.getElem?_zip_eq_some, List.getElem?_drop] at hi
  have := (runs_I bs).adj i x y hi.1 (by rw [Nat.add_comm]; exact hi.2)
  simpa using this
theorem runs_pos (bs : List Bool) : (runs bs).any (fun p => decide ((p.2 : Int) < 1)) = false := by
  rw [List.any_eq_false]
  intro p hp
  have := (runs_I bs).pos p hp
  simp
  omega
theorem runs_len (bs : List Bool) : (runs bs).length ≤ bs.length := by
  have : ∀ (bs : List Bool) (f : List (Bool × Nat)), (bs.foldl rnS f).length ≤ f.length + bs.length := by
    intro bs
    induction bs with
    | nil => intro f; exact Nat.le_refl _
    | cons b r ih =>
      intro f
      rw [List.foldl_cons, List.length_cons]
      have h1 := ih (rnS f b)
      have h2 := rnS_len f b
      omega
  have h := this bs []
  unfold runs
  simpa using h
/-! clean samples -/
def altL : Bool → List Nat → List Bool
  | _, [] => []
  | b, n :: ns => List.replicate n b ++ altL (!b) ns
def ca : Bool → Nat → Nat → List Nat → List (Nat × Bool)
  | _, _, _, [] => []
  | now, t, off, n :: ns => (t + off, !now) :: ca (!now) (t + n) off ns
theorem clR_same (h : Int) (h1 : 1 ≤ h) (b : Bool) (rest : List Bool) : ∀ m : Nat, clR h b 0 (List.replicate m b ++ rest) = List.replicate m b ++ clR h b 0 rest
  | 0 => rfl
  | m + 1 => by
    rw [List.replicate_succ, List.cons_append, clR_cons, if_pos rfl, if_neg (by omega), clR_same h h1 b rest m]
    rfl
theorem clR_turn (h : Nat) (b now : Bool) (hb : b ≠ now) (rest : List Bool) : ∀ (n r : Nat), r < h → h ≤ r + n →
    clR h now r (List.replicate n b ++ rest) = List.replicate (h - 1 - r) now ++ b :: clR h b 0 (List.replicate (n - (h - r)) b ++ rest)
  | 0, r, h1, h2 => by omega
  | n + 1, r, h1, h2 => by
    rw [List.replicate_succ, List.cons_append, clR_cons, if_neg hb]
    by_cases c : r + 1 = h
    · rw [if_pos (by omega)]
      subst c
      simp
    · rw [if_neg (by omega)]
      have ih := clR_turn h b now hb rest n (r + 1) (by omega) (by omega)
      rw [show ((r : Int) + 1) = ((r + 1 : Nat) : Int) by omega, ih, show h - 1 - r = (h - 1 - (r + 1)) + 1 by omega, List.replicate_succ, show n - (h - (r + 1)) = n + 1 - (h - r) by omega]
      rfl
theorem chL_cons {bf : Bool} {t : Nat} {b : Bool} {r : List Bool} : chL bf t (b :: r) = if b = bf then chL b (t + 1) r else (t, b) :: chL b (t + 1) r := rfl
theorem chL_rep (now : Bool) (rest : List Bool) : ∀ (m t : Nat), chL now t (List.replicate m now ++ rest) = chL now (t + m) rest
  | 0, t => rfl
  | m + 1, t => by
    rw [List.replicate_succ, List.cons_append]
    rw [chL_cons, if_pos rfl, chL_rep now rest m (t + 1), show t + 1 + m = t + (m + 1) by omega]
theorem chg_alt (h : Nat) (h1 : 1 ≤ h) : ∀ (ns : List Nat) (now : Bool) (t : Nat), (∀ n ∈ ns, h ≤ n) → chL now t (clR h now 0 (altL (!now) ns)) = ca now t (h - 1) ns
  | [], now, t, _ => rfl
  | n :: ns, now, t, hn => by
    have hb : (!now) ≠ now := by cases now <;> decide
    have h2 := hn n List.mem_cons_self
    have ct := clR_turn h (!now) now hb (altL (!(!now)) ns) n 0 (by omega) (by omega)
    unfold altL ca
    rw [show (0 : Int) = ((0 : Nat) : Int) from rfl, ct, clR_same h (by omega), show h - 1 - 0 = h - 1 by omega, show n - (h - 0) = n - h by omega, chL_rep]
    unfold chL
    rw [if_neg hb, chL_rep]
    have ih := chg_alt h h1 ns (!now) (t + n) fun m hm => hn m (List.mem_cons_of_mem _ hm)
    rw [show t + (h - 1) + 1 + (n - h) = t + n by omega, ih]
theorem chg_clean {h : Nat} (h1 : 1 ≤ h) {ns : List Nat} (hn : ∀ n ∈ ns, h ≤ n) : chg (h : Nat) (altL true ns) = ca false 0 (h - 1) ns := by
  unfold chg
  rw [clean_eq]
  exact chg_alt h h1 ns false 0 hn
theorem ca_words : ∀ (ns : List Nat) (now : Bool) (t o1 o2 : Nat), (ca now t o1 ns).map (·.2) = (ca now t o2 ns).map (·.2)
  | [], _, _, _, _ => rfl
  | n :: ns, now, t, o1, o2 => by
    unfold ca
    rw [List.map_cons, List.map_cons, ca_words ns (!now) (t + n) o1 o2]
theorem ca_dly (o : Nat) : ∀ (ns : List Nat) (now : Bool) (t : Nat), ((ca now t 0 ns).zip (ca now t o ns)).map (fun p => (p.2.1 : Int) - (p.1.1 : Int)) = (ca now t 0 ns).map fun _ => (o : Int)
  | [], _, _ => rfl
  | n :: ns, now, t => by
    unfold ca
    rw [List.zip_cons_cons, List.map_cons, List.map_cons, ca_dly o ns (!now) (t + n)]
    congr 1
    simp only
    omega
theorem dly_clean {h : Nat} (h1 : 1 ≤ h) {ns : List Nat} (hn : ∀ n ∈ ns, h ≤ n) : words (h : Nat) (altL true ns) = words 1 (altL true ns) ∧ dly (h : Nat) (altL true ns) (altL true ns) = (chg 1 (altL true ns)).map fun _ => (h : Int) - 1 := by
  have a1 := chg_clean h1 hn
  have a2 : chg 1 (altL true ns) = ca false 0 0 ns := chg_clean (h := 1) (Nat.le_refl _) fun n m => Nat.le_trans h1 (hn n m)
  unfold words dly
  rw [a1, a2]
  refine ⟨ca_words _ _ _ _ _, ?_⟩
  rw [ca_dly]
  congr 1
  funext _
  omega
theorem altL_len : ∀ (ns : List Nat) (b : Bool), (∀ n ∈ ns, n ≤ 8) → (altL b ns).length ≤ 8 * ns.length
  | [], _, _ => Nat.le_refl _
  | n :: ns, b, h => by
    unfold altL
    rw [List.length_append, List.length_replicate, List.length_cons]
    have := altL_len ns (!b) fun m hm => h m (List.mem_cons_of_mem _ hm)
    have := h n List.mem_cons_self
    omega
theorem altL_snoc : ∀ (ns : List Nat) (b : Bool) (n : Nat), altL b (ns ++ [n]) = altL b ns ++ List.replicate n (if ns.length % 2 = 0 then b else !b)
  | [], b, n => by simp [altL]
  | m :: ns, b, n => by
    rw [List.cons_append]
    unfold altL
    rw [altL_snoc ns (!b) n, List.append_assoc, List.length_cons]
    congr 2
    by_cases c : ns.length % 2 = 0
    · rw [if_pos c, if_neg (by omega)]
    · rw [if_neg c, if_pos (by omega), Bool.not_not]
end W23

set_option Elab.async false
set_option linter.all false
set_option maxRecDepth 100000
set_option maxHeartbeats 4000000
namespace W23
open Dn
local macro_rules | `(tactic| walk_at "st") => `(tactic| first | ((simp only [List.set_cons_zero, List.set_cons_succ, v_putOwn, v_os0, v_osV, v_osO, v_put0, v_put1, List.getElem?_cons_zero, List.getElem?_cons_succ]) <;> exact rfl) | exact rfl)
local macro_rules | `(tactic| walk_at "lk") => `(tactic| first | (with_reducible exact l_v) | ((with_reducible apply l_sV); exact rfl) | ((with_reducible apply l_sO); exact rfl) | ((with_reducible apply l_sI); exact rfl))
local macro_rules | `(tactic| walk_at "fn") => `(tactic| with_reducible assumption)
local macro_rules | `(tactic| walk_at "op") => `(tactic| first
  | (with_reducible exact o_add) | (with_reducible exact o_sub) | (with_reducible exact o_lt) | (with_reducible exact o_le) | (with_reducible exact o_gt) | (with_reducible exact o_ge) | (with_reducible exact o_max) | (with_reducible exact o_min)
  | (with_reducible exact o_isN) | (with_reducible exact o_notN) | (with_reducible exact eq_int _ _) | (with_reducible exact ne_int _ _) | (with_reducible exact eq_bl _ _) | (with_reducible exact ne_bl _ _)
  | (with_reducible exact c_lenL) | (with_reducible exact c_lenT) | (with_reducible exact c_lenF) | (with_reducible exact c_int) | (with_reducible exact c_intB) | (with_reducible exact k_bl) | (with_reducible exact c_any) | (with_reducible exact c_all) | (with_reducible exact o_from1) | (with_reducible exact c_listL) | (with_reducible exact c_tupL) | (with_reducible exact o_pow18) | (with_reducible exact o_ix0) | (with_reducible exact o_ix1) | (with_reducible exact o_ixl0) | (with_reducible exact o_ixl1) | (with_reducible exact o_ixL)
  | ((with_reducible apply o_mod); omega) | ((with_reducible apply o_div) <;> omega) | ((with_reducible apply o_mulL) <;> omega) | ((with_reducible apply o_mulR) <;> omega)
  | (with_reducible assumption) | (walk_at "op2"))
local macro_rules | `(tactic| walk_at "op2") => `(tactic| with_reducible assumption)
local macro_rules | `(tactic| walk_at "ag") => `(tactic| first | (with_reducible exact a_nil) | ((with_reducible apply a_v); (walk_at "ev"); (walk_at "ag")) | ((with_reducible apply a_o); exact rfl; (walk_at "ag")))
local macro_rules | `(tactic| walk_at "sv") => `(tactic| first | (with_reducible exact sv_nil) | ((with_reducible apply sv_v); (walk_at "sv")) | ((with_reducible apply sv_i); exact rfl; (walk_at "sv")) | ((with_reducible apply sv_o); exact rfl; (walk_at "sv")))
local macro_rules | `(tactic| walk_at "hd") => `(tactic| first | ((with_reducible apply e_slV); exact rfl) | ((with_reducible apply e_slO); exact rfl) | ((with_reducible apply e_slI); exact rfl) | ((with_reducible apply h_v); (walk_at "ev")))
local macro_rules | `(tactic| walk_at "ls") => `(tactic| first | (with_reducible exact d_nil) | ((with_reducible apply e_cons); (walk_at "ev"); (walk_at "ls")))
local macro_rules | `(tactic| walk_at "pt") => `(tactic| first | (with_reducible exact e_ret _) | ((with_reducible apply e_part); (walk_at "ev")))
local macro_rules | `(tactic| walk_at "ev") => `(tactic| first
  | (with_reducible exact e_ret _)
  | ((with_reducible apply e_va); exact rfl)
  | ((with_reducible apply e_ow); exact rfl; (walk_at "st"))
  | ((with_reducible apply mB_of); (walk_at "hd"); (walk_at "hd"); (walk_at "lk"); (walk_at "lk"); (walk_at "op"))
  | ((with_reducible apply mC1_of); (walk_at "hd"); (walk_at "lk"); (walk_at "op"))
  | ((with_reducible apply e_neg); (walk_at "ev"))
  | ((with_reducible apply e_notV); (walk_at "ev"))
  | ((with_reducible apply e_andV); (walk_at "ev"); ((intro _hx); (walk_at "ev")))
  | ((with_reducible apply e_orV); (walk_at "ev"); ((intro _hx); (walk_at "ev")))
  | (with_reducible assumption)
  | ((with_reducible apply e_ifI); (walk_at "ts"); ((intro _hx); (walk_at "ev")); ((intro _hx); (walk_at "ev")))
  | ((with_reducible apply e_ifB); (walk_at "ts"); ((intro _hx); (walk_at "ev")); ((intro _hx); (walk_at "ev")))
  | ((with_reducible apply e_ifS); (walk_at "ts"); ((intro _hx); (walk_at "ev")); ((intro _hx); (walk_at "ev")))
  | ((with_reducible apply e_if); (walk_at "ts"); ((intro _hx); (walk_at "ev")); ((intro _hx); (walk_at "ev")))
  | ((with_reducible apply e_lst); (walk_at "ls"); exact rfl)
  | ((with_reducible apply e_tup); (walk_at "ls"); exact rfl)
  | ((with_reducible apply e_slice); (walk_at "hd"); (walk_at "pt"); (walk_at "pt"); (walk_at "lk"); (walk_at "op"))
  | ((with_reducible apply e_chain); (walk_at "hd"); (walk_at "hd"); (walk_at "lk"); (walk_at "lk"); (walk_at "op"); ((intro _hx); (walk_at "hd")); ((intro _hx); (walk_at "lk")); ((intro _hx); (walk_at "op")))
  | ((with_reducible apply e_call); (walk_at "ag"); exact rfl; exact rfl; (walk_at "sv"); (walk_at "fn"); (walk_at "st"))
  | ((with_reducible apply e_lc); (walk_at "it"); (walk_at "lm"); (walk_at "rs"))
  | (walk_at "ev2"))
local macro_rules | `(tactic| walk_at "ev2") => `(tactic| with_reducible assumption)
local macro_rules | `(tactic| walk_at "ts") => `(tactic| first
  | ((with_reducible apply t_asB); (walk_at "ev"))
  | ((with_reducible apply t_not); (walk_at "ts"))
  | ((with_reducible apply t_and); (walk_at "ts"); ((intro _hx); (walk_at "ts")))
  | ((with_reducible apply t_or); (walk_at "ts"); ((intro _hx); (walk_at "ts")))
  | ((with_reducible apply t_tru); (walk_at "hd"); (walk_at "lk"); (walk_at "op")))
local macro_rules | `(tactic| walk_at "xs") => `(tactic| first | (with_reducible exact x_nil) | ((with_reducible apply x_v); (walk_at "ev"); (walk_at "xs")) | ((with_reducible apply x_n); (walk_at "ev"); (walk_at "xs")))
local macro_rules | `(tactic| walk_at "len") => `(tactic| first | assumption | omega | ((simp only [List.length_map, List.length_cons, List.length_nil, List.length_append, List.length_zip, List.length_zipIdx, List.length_range]); omega))
local macro_rules | `(tactic| walk_at "sx") => `(tactic| first
  | (with_reducible exact s_nop)
  | ((with_reducible apply sq_of); (walk_at "sx"); (walk_at "sx"))
  | ((with_reducible apply s_set); (walk_at "ev"); (walk_at "st"))
  | ((with_reducible apply s_own); (walk_at "ev"); (walk_at "st"))
  | ((with_reducible apply s_app); exact rfl; (walk_at "ev"); exact rfl; (walk_at "len"); (walk_at "st"))
  | ((with_reducible apply s_aug); exact rfl; (walk_at "ev"); (walk_at "op"); (walk_at "st"))
  | ((with_reducible apply s_asg); (walk_at "ev"); (walk_at "gs"))
  | ((with_reducible apply s_par); (walk_at "xs"); (walk_at "gs"))
  | ((with_reducible apply expr_of); (walk_at "ev"))
  | ((with_reducible apply ret_of); (walk_at "ev"))
  | ((with_reducible apply s_ifF); (walk_at "ts"); exact rfl; (walk_at "sx"))
  | (walk_at "sx2"))
local macro_rules | `(tactic| walk_at "sx2") => `(tactic| with_reducible assumption)
local macro_rules | `(tactic| walk_at "in") => `(tactic| ((simp only [v_init, List.length_cons, List.length_nil, List.cons_append, List.nil_append, List.replicate_succ, List.replicate_zero, Nat.reduceAdd, Nat.reduceSub, Nat.zero_add]) <;> exact rfl))
local macro_rules | `(tactic| walk_at "rs") => `(tactic| ((simp only [restore, unset, keep_idem, keep_va, keep_ow, keep_un, List.set_cons_zero, List.set_cons_succ, List.getElem?_cons_zero, List.getElem?_cons_succ]) <;> exact rfl))
local macro_rules | `(tactic| walk_at "go") => `(tactic| repeat ((with_reducible apply q_sq); (focus (walk_at "sx"))))
local macro_rules | `(tactic| walk_at "it") => `(tactic| first
  | ((with_reducible apply i_lst); (walk_at "ev"))
  | ((with_reducible apply i_tup); (walk_at "ev"))
  | ((with_reducible apply i_zipM); (walk_at "ev"); (walk_at "ev"))
  | ((with_reducible apply i_enLM); (walk_at "ev"))
  | ((with_reducible apply i_enTM); (walk_at "ev"))
  | ((with_reducible apply i_r1M); (walk_at "ev"); (walk_at "len")))
local macro_rules | `(tactic| walk_at "lm") => `(tactic| ((with_reducible apply lc_map); (walk_at "len"); (intro _p _hp; exact ⟨_, _, rfl, by walk_at "ev", by exact rfl⟩)))
local macro_rules | `(tactic| walk_at "gs") => `(tactic| first | ((simp only [v_gT, v_gCons, v_gN, v_gNil, List.length_cons, List.length_nil, Nat.reduceAdd, Nat.zero_add, if_true, Option.bind_some, List.set_cons_zero, List.set_cons_succ, v_setX0, v_setX1, Bool.false_eq_true, if_false]) <;> exact rfl) | exact rfl)
abbrev optB (b : Bool) : D := .bl b
theorem lclean_U {bs : List Bool} {h : Nat} (h1 : 1 ≤ h) (h9 : h ≤ 9) (hl : bs.length < 1000) : f_u_law_cleaned [.va (.lst (bs.map D.bl)), .va (.int (h : Nat))] = .ok (.lst ((clean h bs).map D.bl)) none := lclean_ok h1 h9 hl
theorem lchg_1 {bs : List Bool} (hl : bs.length < 1000) : f_u_law_changes [.va (.lst (bs.map D.bl)), .va (.int 1)] = .ok (.lst ((chg 1 bs).map cgD)) none := lchg_ok (h := 1) (by omega) (by omega) hl
theorem cleanedL {bs : List Bool} {h : Int} (h1 : 1 ≤ h) (h9 : h ≤ 9) (hl : bs.length < 1000) : f_cleaned [.va (.lst (bs.map D.bl)), .va (.int h)] = .ok (.lst ((clean h bs).map D.bl)) none := cleaned_ok (.inl rfl) h1 h9 hl
theorem cleanedT {bs : List Bool} {h : Int} (h1 : 1 ≤ h) (h9 : h ≤ 9) (hl : bs.length < 1000) : f_cleaned [.va (.tup (bs.map D.bl)), .va (.int h)] = .ok (.lst ((clean h bs).map D.bl)) none := cleaned_ok (.inr rfl) h1 h9 hl
theorem em_bls : Em (fun xs : List Bool => D.lst (xs.map D.bl)) 1 := em_lst em_bl
theorem em_cg : Em cgD 1 := em_pair em_nat em_wd
theorem em_cgs : Em (fun xs : List (Nat × Bool) => D.lst (xs.map cgD)) 2 := em_lst em_cg
theorem em_ints : Em (fun xs : List Int => D.lst (xs.map D.int)) 1 := em_lst em_int
theorem ne_bls (a b : List Bool) : fNe (.lst (a.map D.bl)) (.lst (b.map D.bl)) = some (.bl (!decide (a = b))) := em_fNe em_bls a b
theorem eq_bls (a b : List Bool) : fEq (.lst (a.map D.bl)) (.lst (b.map D.bl)) = some (.bl (decide (a = b))) := em_fEq em_bls a b
theorem ne_cgs (a b : List (Nat × Bool)) : fNe (.lst (a.map cgD)) (.lst (b.map cgD)) = some (.bl (!decide (a = b))) := em_fNe em_cgs a b
theorem ne_ints (a b : List Int) : fNe (.lst (a.map D.int)) (.lst (b.map D.int)) = some (.bl (!decide (a = b))) := em_fNe em_ints a b
local macro_rules | `(tactic| walk_at "fn") => `(tactic| first | (with_reducible assumption) | ((with_reducible apply lclean_U) <;> (walk_at "len")) | ((with_reducible apply lchg_ok) <;> (walk_at "len")) | ((with_reducible apply lchg_1) <;> (walk_at "len")) | ((with_reducible apply cleanedL) <;> (walk_at "len")) | ((with_reducible apply cleanedT) <;> (walk_at "len")) | ((with_reducible apply changesL) <;> (walk_at "len")) | ((with_reducible apply runs_ok) <;> (walk_at "len")) | ((with_reducible apply lnoise_ok) <;> (walk_at "len")) | ((with_reducible apply lh_ok) <;> (walk_at "len")) | ((with_reducible apply se_ok) <;> (walk_at "len")) | ((with_reducible apply dl_ok) <;> (walk_at "len")))
local macro_rules | `(tactic| walk_at "op2") => `(tactic| first | (with_reducible assumption) | (with_reducible exact ne_bls _ _) | (with_reducible exact eq_bls _ _) | (with_reducible exact ne_cgs _ _) | (with_reducible exact ne_ints _ _) | (with_reducible exact eq_words _ _))
/-! ### what is refused -/
theorem refS {P : PySem.Program} {w : PySem.World} {K : PySem.W.Frag} {mg : MG} {base : PySem.Heap} {q : PySem.Str} {ps : PySem.Arguments} {b : PySem.Expr} {sc : PySem.Scope} {v : D} (h : Thk P w K mg base 7 q ps b sc (some ("BadSamples", ["place"])) [v]) :
    f_u_law_refused P w K mg base [.va (.thk q ps b sc (some ("BadSamples", ["place"])) [v])] = .ok (.tup [.str "samples", v]) none := by
  unfold f_u_law_refused
  refine' f_z (by walk_at "in") rfl ?_
  unfold m_u_law_refused
  apply q_seqR
  have e : mAct P w K mg base 7 0 [.va (.thk q ps b sc (some ("BadSamples", ["place"])) [v]), .un] = .exc "BadSamples" ["place"] [v] [.va (.thk q ps b sc (some ("BadSamples", ["place"])) [v]), .un] := by
    unfold mAct
    simp only [List.getElem?_cons_zero]
    rw [if_pos h]
    rfl
  unfold sTry
  rw [show sExpr (mAct P w K mg base 7 0) [.va (.thk q ps b sc (some ("BadSamples", ["place"])) [v]), .un] = .exc "BadSamples" ["place"] [v] [.va (.thk q ps b sc (some ("BadSamples", ["place"])) [v]), .un] from by rw [v_sExpr, e]]
  exact ⟨_, rfl⟩
theorem refH {P : PySem.Program} {w : PySem.World} {K : PySem.W.Frag} {mg : MG} {base : PySem.Heap} {q : PySem.Str} {ps : PySem.Arguments} {b : PySem.Expr} {sc : PySem.Scope} (h : Thk P w K mg base 7 q ps b sc (some ("BadHold", [])) []) :
    f_u_law_refused P w K mg base [.va (.thk q ps b sc (some ("BadHold", [])) [])] = .ok (.str "hold") none := by
  unfold f_u_law_refused
  refine' f_z (by walk_at "in") rfl ?_
  unfold m_u_law_refused
  apply q_seqR
  have e : mAct P w K mg base 7 0 [.va (.thk q ps b sc (some ("BadHold", [])) []), .un] = .exc "BadHold" [] [] [.va (.thk q ps b sc (some ("BadHold", [])) []), .un] := by
    unfold mAct
    simp only [List.getElem?_cons_zero]
    rw [if_pos h]
    rfl
  unfold sTry
  rw [show sExpr (mAct P w K mg base 7 0) [.va (.thk q ps b sc (some ("BadHold", [])) []), .un] = .exc "BadHold" [] [] [.va (.thk q ps b sc (some ("BadHold", [])) []), .un] from by rw [v_sExpr, e]]
  exact ⟨_, rfl⟩
def WOk (P : PySem.Program) (w : PySem.World) (K : PySem.W.Frag) (mg : MG) (base : PySem.Heap) (d : D) : Prop := ∃ a b, d = .tup [a, b] ∧ f_u_law_refused P w K mg base [.va a] = .ok b none ∧ fEq b b = some (.bl true)
theorem wrong_ok {P : PySem.Program} {w : PySem.World} {K : PySem.W.Frag} {mg : MG} {base : PySem.Heap} (T : Fx K mg) : ∀ d ∈ wrongD, WOk P w K mg base d := by
  unfold wrongD
  simp only [List.mem_cons, List.not_mem_nil, or_false]
  rintro d (rfl | rfl | rfl | rfl | rfl | rfl | rfl | rfl | rfl | rfl | rfl | rfl | rfl)
  · exact ⟨_, _, rfl, refS (thk_0 T), by with_unfolding_all rfl⟩
  · exact ⟨_, _, rfl, refS (thk_1 T), by with_unfolding_all rfl⟩
  · exact ⟨_, _, rfl, refH (thk_2 T), by with_unfolding_all rfl⟩
  · exact ⟨_, _, rfl, refH (thk_3 T), by with_unfolding_all rfl⟩
  · exact ⟨_, _, rfl, refH (thk_4 T), by with_unfolding_all rfl⟩
  · exact ⟨_, _, rfl, refH (thk_5 T), by with_unfolding_all rfl⟩
  · exact ⟨_, _, rfl, refS (thk_6 T), by with_unfolding_all rfl⟩
  · exact ⟨_, _, rfl, refS (thk_7 T), by with_unfolding_all rfl⟩
  · exact ⟨_, _, rfl, refH (thk_8 T), by with_unfolding_all rfl⟩
  · exact ⟨_, _, rfl, refH (thk_9 T), by with_unfolding_all rfl⟩
  · exact ⟨_, _, rfl, refH (thk_10 T), by with_unfolding_all rfl⟩
  · exact ⟨_, _, rfl, refH (thk_11 T), by with_unfolding_all rfl⟩
  · exact ⟨_, _, rfl, refS (thk_12 T), by with_unfolding_all rfl⟩

theorem rep_bl (b : Bool) (n : Nat) (hn : n < 1000) : fRep (.lst [.bl b]) (.int (n : Nat)) = some (.lst ((List.replicate n b).map D.bl)) := by
  unfold fRep
  simp only [List.length_cons, List.length_nil, Int.toNat_natCast]
  rw [if_pos ⟨by omega, by omega, by omega⟩, List.map_replicate, List.flatten_replicate_singleton]
theorem cat_bl {a b : List Bool} (h : a.length + b.length < 1000) : fCat (.lst (a.map D.bl)) (.lst (b.map D.bl)) = some (.lst ((a ++ b).map D.bl)) := by
  show (if _ then _ else _) = _
  rw [if_pos (by simp only [List.length_map]; omega), List.map_append]
theorem plain {P : PySem.Program} {w : PySem.World} {K : PySem.W.Frag} {mg : MG} (T : Fx K mg) (base : PySem.Heap) (zs : List Int) (hz : zs.length ≤ 63) : ∃ io, fnOf N_law.length (m_law P w K mg base) [.va (.fl (zs.map D.int))] = .ok (.bl true) io := by
  refine ⟨none, ?_⟩
  refine' f_z (by walk_at "in") rfl ?_
  unfold m_law
  refine q_sq (s1 := [.va (zsD zs), .ow (drw zs 0), .un, .un, .un, .un, .un, .un, .un, .un, .un, .un, .un, .un, .un, .un, .un, .un, .un, .un, .un, .un, .un, .un, .un, .un]) rfl ?_
  refine q_sq (s1 := [.va (zsD zs), .ow (drw zs 0), .ow (.lst []), .un, .un, .un, .un, .un, .un, .un, .un, .un, .un, .un, .un, .un, .un, .un, .un, .un, .un, .un, .un, .un, .un, .un]) rfl ?_
  obtain ⟨v, v0, v5, t0⟩ := take_ok zs 0 5 hz (by omega) (by omega)
  obtain ⟨nv, rfl⟩ : ∃ nv : Nat, v = (nv : Int) := ⟨v.toNat, by omega⟩
  refine' q_for (fun i : Nat => D.int (i : Int)) (fun (_ : Unit) _ => ()) (fun i _ st => ∃ ns o, ns.length = i ∧ (∀ m ∈ ns, 4 ≤ m ∧ m ≤ 8) ∧ st = [.va (zsD zs), .ow (drw zs (1 + i)), .ow (.lst ((altL true ns).map D.bl)), o, .un, .un, .un, .un, .un, .un, .un, .un, .un, .un, .un, .un, .un, .un, .un, .un, .un, .un, .un, .un, .un, .un]) (List.range nv) () (s1 := [.va (zsD zs), .ow (drw zs 1), .ow (.lst []), .un, .un, .un, .un, .un, .un, .un, .un, .un, .un, .un, .un, .un, .un, .un, .un, .un, .un, .un, .un, .un, .un, .un]) (by walk_at "it") ?_ ?_ ?_
  · exact ⟨[], _, rfl, by simp, rfl⟩
  · rintro i a _ st ez ⟨ns, o, hl, hm, rfl⟩
    have ha : a = i ∧ i < nv := by
      obtain ⟨h1, h2⟩ := List.getElem?_eq_some_iff.mp ez
      simp at h1 h2
      exact ⟨h2.symm, h1⟩
    obtain ⟨rfl, hi⟩ := ha
    obtain ⟨u, u0, u5, t1⟩ := take_ok zs (1 + a) 5 hz (by omega) (by omega)
    obtain ⟨nu, rfl⟩ : ∃ nu : Nat, u = (nu : Int) := ⟨u.toNat, by omega⟩
    have hcl := altL_len ns true fun m h => (hm m h).2
    have hrep := rep_bl (decide ((a : Int) % 2 = 0)) (4 + nu) (by omega)
    have hrep' : fRep (.lst [.bl (decide ((a : Int) % 2 = 0))]) (.int (4 + (nu : Int))) = some (.lst ((List.replicate (4 + nu) (decide ((a : Int) % 2 = 0))).map D.bl)) := by rw [← hrep, Int.natCast_add] <;> rfl
    have hcat := cat_bl (a := altL true ns) (b := List.replicate (4 + nu) (decide ((a : Int) % 2 = 0))) (by rw [List.length_replicate]; omega)
    have hs := altL_snoc ns true (4 + nu)
    have hd : (if ns.length % 2 = 0 then true else !true) = decide ((a : Int) % 2 = 0) := by
      rw [hl]
      by_cases c : a % 2 = 0
      · rw [if_pos c, decide_eq_true (by omega)]
      · rw [if_neg c, decide_eq_false (by omega)] <;> rfl
    rw [hd] at hs
    rw [← hs] at hcat
    refine ⟨_, _, rfl, .inl (s_own (by walk_at "ev") (by walk_at "st")), ns ++ [4 + nu], .va (.int (a : Nat)), by simp [hl], ?_, ?_⟩
    · intro m h
      rcases List.mem_append.mp h with h | h
      · exact hm m h
      · simp at h; omega
    · rw [show 1 + (a + 1) = 1 + a + 1 by omega]
  · rintro st ⟨ns, o3, hl, hm, rfl⟩
    rw [List.length_range] at hl ⊢
    have hcl := altL_len ns true fun m h => (hm m h).2
    generalize hcs : altL true ns = cs at hcl
    refine q_sq (s1 := [.va (zsD zs), .ow (drw zs (1 + nv)), .ow (.lst (cs.map D.bl)), o3, .ow (.lst (cs.map D.bl)), .un, .un, .un, .un, .un, .un, .un, .un, .un, .un, .un, .un, .un, .un, .un, .un, .un, .un, .un, .un, .un]) (by walk_at "sx") ?_
    obtain ⟨v2, v20, v25, t2⟩ := take_ok zs (1 + nv) 5 hz (by omega) (by omega)
    obtain ⟨nw, rfl⟩ : ∃ nw : Nat, v2 = (nw : Int) := ⟨v2.toNat, by omega⟩
    refine' q_for (fun i : Nat => D.int (i : Int)) (fun (_ : Unit) _ => ()) (fun i _ st => ∃ (k : Nat) (bs : List Bool) (o3 o5 : SV), k ≤ 20 + i ∧ bs.length = cs.length ∧ st = [.va (zsD zs), .ow (drw zs k), .ow (.lst (cs.map D.bl)), o3, .ow (.lst (bs.map D.bl)), o5, .un, .un, .un, .un, .un, .un, .un, .un, .un, .un, .un, .un, .un, .un, .un, .un, .un, .un, .un, .un]) (List.range nw) () (s1 := [.va (zsD zs), .ow (drw zs (1 + nv + 1)), .ow (.lst (cs.map D.bl)), o3, .ow (.lst (cs.map D.bl)), .un, .un, .un, .un, .un, .un, .un, .un, .un, .un, .un, .un, .un, .un, .un, .un, .un, .un, .un, .un, .un]) (by walk_at "it") ?_ ?_ ?_
    · exact ⟨1 + nv + 1, cs, _, _, by omega, rfl, rfl⟩
    · rintro i a _ st ez ⟨k, bs, o3', o5, hk, hb, rfl⟩
      have hi : i < nw := by
        have := (List.getElem?_eq_some_iff.mp ez).1
        simpa using this
      have n0 := ne_bls bs []
      rw [List.map_nil] at n0
      by_cases cb : bs = []
      · exact ⟨_, _, by walk_at "gs", .inl (s_ifF (by walk_at "ts") (by simp [cb]) s_nop), k, bs, .va (.int (a : Nat)), o5, by omega, hb, rfl⟩
      · have hbl : 0 < bs.length := List.length_pos_iff.mpr cb
        obtain ⟨u, u0, u5, t3⟩ := take_ok zs k (bs.length : Nat) hz (by omega) (by omega)
        obtain ⟨j, rfl⟩ : ∃ j : Nat, u = (j : Int) := ⟨u.toNat, by omega⟩
        have hj : j < bs.length := by omega
        obtain ⟨x, hx⟩ : ∃ x, bs[j]? = some x := ⟨_, List.getElem?_eq_getElem hj⟩
        have ix := o_ixN (f := D.bl) hx
        refine ⟨_, [.va (zsD zs), .ow (drw zs (k + 1)), .ow (.lst (cs.map D.bl)), .va (.int (a : Nat)), .ow (.lst ((bs.set j (!x)).map D.bl)), .va (.int (j : Nat)), .un, .un, .un, .un, .un, .un, .un, .un, .un, .un, .un, .un, .un, .un, .un, .un, .un, .un, .un, .un], by walk_at "gs", .inl (s_ifT (by walk_at "ts") (by simp [cb]) (sq_of (s1 := [.va (zsD zs), .ow (drw zs (k + 1)), .ow (.lst (cs.map D.bl)), .va (.int (a : Nat)), .ow (.lst (bs.map D.bl)), .va (.int (j : Nat)), .un, .un, .un, .un, .un, .un, .un, .un, .un, .un, .un, .un, .un, .un, .un, .un, .un, .un, .un, .un]) (by walk_at "sx") ?_)), k + 1, bs.set j (!x), .va (.int (a : Nat)), .va (.int (j : Nat)), by omega, by simp [hb], rfl⟩
        refine s_put (j := j) (zz := (j : Nat)) (ds := bs.map D.bl) (d := .bl (!x)) (s1 := [.va (zsD zs), .ow (drw zs (k + 1)), .ow (.lst (cs.map D.bl)), .va (.int (a : Nat)), .ow (.lst (bs.map D.bl)), .va (.int (j : Nat)), .un, .un, .un, .un, .un, .un, .un, .un, .un, .un, .un, .un, .un, .un, .un, .un, .un, .un, .un, .un]) (s2 := [.va (zsD zs), .ow (drw zs (k + 1)), .ow (.lst (cs.map D.bl)), .va (.int (a : Nat)), .ow (.lst (bs.map D.bl)), .va (.int (j : Nat)), .un, .un, .un, .un, .un, .un, .un, .un, .un, .un, .un, .un, .un, .un, .un, .un, .un, .un, .un, .un]) (by walk_at "ev") rfl rfl rfl (ixN_at (by simpa using hj)) ?_
        simp [putOwn]
    · rintro st ⟨k, bs, ot, oa, hk, hb, rfl⟩
      rw [List.length_range] at hk
      obtain ⟨v3, v30, v35, t4⟩ := take_ok zs k 4 hz (by omega) (by omega)
      obtain ⟨h, hh, h1, h4⟩ : ∃ h : Nat, (h : Int) = 1 + v3 ∧ 1 ≤ h ∧ h ≤ 4 := ⟨(1 + v3).toNat, by omega, by omega, by omega⟩
      have hbl : bs.length < 150 := by omega
      have hcl' : cs.length < 150 := by omega
      refine q_sq (s_set (by walk_at "ev") (by walk_at "st")) ?_
      rw [← hh]
      refine q_sq (s1 := [.va (zsD zs), .ow (drw zs (k + 1)), .ow (.lst (cs.map D.bl)), ot, .va (.lst (bs.map D.bl)), oa, .va (.int (h : Nat)), .va (.lst ((clean h bs).map D.bl)), .un, .un, .un, .un, .un, .un, .un, .un, .un, .un, .un, .un, .un, .un, .un, .un, .un, .un]) (by walk_at "sx") ?_
      have c1 := clean_one bs
      refine q_sq (s_ifF (by walk_at "ts") (by simp [c1]) s_nop) ?_
      have hrl := runs_len bs
      refine q_sq (s1 := [.va (zsD zs), .ow (drw zs (k + 1)), .ow (.lst (cs.map D.bl)), ot, .va (.lst (bs.map D.bl)), oa, .va (.int (h : Nat)), .va (.lst ((clean h bs).map D.bl)), .va (.lst ((runs bs).map rnD)), .un, .un, .un, .un, .un, .un, .un, .un, .un, .un, .un, .un, .un, .un, .un, .un, .un]) (by walk_at "sx") ?_
      refine q_sq (s1 := [.va (zsD zs), .ow (drw zs (k + 1)), .ow (.lst (cs.map D.bl)), ot, .va (.lst (bs.map D.bl)), oa, .va (.int (h : Nat)), .va (.lst ((clean h bs).map D.bl)), .va (.lst ((runs bs).map rnD)), .ow (.lst []), .un, .un, .un, .un, .un, .un, .un, .un, .un, .un, .un, .un, .un, .un, .un, .un]) rfl ?_
      -- flat
      refine' q_for rnD (fun (f : List Bool) p => f ++ List.replicate p.2 p.1) (fun i f st => f ++ (((runs bs).drop i).map fun p => List.replicate p.2 p.1).flatten = bs ∧ ∃ (x1 x2 : Option SV), st = [.va (zsD zs), .ow (drw zs (k + 1)), .ow (.lst (cs.map D.bl)), ot, .va (.lst (bs.map D.bl)), oa, .va (.int (h : Nat)), .va (.lst ((clean h bs).map D.bl)), .va (.lst ((runs bs).map rnD)), .ow (.lst (f.map D.bl)), keepV x1, keepV x2, .un, .un, .un, .un, .un, .un, .un, .un, .un, .un, .un, .un, .un, .un]) (runs bs) [] (by walk_at "it") ?_ ?_ ?_
      · exact ⟨by simpa using (runs_I bs).flat, none, none, rfl⟩
      · rintro i p f st ez ⟨hf, x1, x2, rfl⟩
        have hd : (runs bs).drop i = p :: (runs bs).drop (i + 1) := by
          obtain ⟨hi, he⟩ := List.getElem?_eq_some_iff.mp ez
          rw [List.drop_eq_getElem_cons hi, he]
        rw [hd, List.map_cons, List.flatten_cons, ← List.append_assoc] at hf
        have hlen := congrArg List.length hf
        simp only [List.length_append, List.length_replicate] at hlen
        have hrep := rep_bl p.1 p.2 (by omega)
        have hcat := cat_bl (a := f) (b := List.replicate p.2 p.1) (by rw [List.length_replicate]; omega)
        exact ⟨_, _, by walk_at "gs", .inl (by walk_at "sx"), hf, some (.va (.bl p.1)), some (.va (.int (p.2 : Nat))), rfl⟩
      · rintro st ⟨hf, x1, x2, rfl⟩
        rw [List.drop_length, List.map_nil, List.flatten_nil, List.append_nil] at hf
        rw [hf]
        have ra := runs_adj bs
        have rp := runs_pos bs
        have ne0 := ne_bls bs bs
        refine q_sq (s_ifF (s1 := [.va (zsD zs), .ow (drw zs (k + 1)), .ow (.lst (cs.map D.bl)), ot, .va (.lst (bs.map D.bl)), oa, .va (.int (h : Nat)), .va (.lst ((clean h bs).map D.bl)), .va (.lst ((runs bs).map rnD)), .ow (.lst (bs.map D.bl)), keepV x1, keepV x2, .un, .un, .un, .un, .un, .un, .un, .un, .un, .un, .un, .un, .un, .un]) (by walk_at "ts") (by rw [ra, rp]; simp) s_nop) ?_
        refine q_sq (s1 := [.va (zsD zs), .ow (drw zs (k + 1)), .ow (.lst (cs.map D.bl)), ot, .va (.lst (bs.map D.bl)), oa, .va (.int (h : Nat)), .va (.lst ((clean h bs).map D.bl)), .va (.lst ((runs bs).map rnD)), .ow (.lst (bs.map D.bl)), keepV x1, keepV x2, .va (.int 0), .va (.int 0), .un, .un, .un, .un, .un, .un, .un, .un, .un, .un, .un, .un]) (by walk_at "sx") ?_
        refine' q_for pairD nzStep (fun i s st => ∃ (x1 : Option SV) (o3 : SV), st = [.va (zsD zs), .ow (drw zs (k + 1)), .ow (.lst (cs.map D.bl)), ot, .va (.lst (bs.map D.bl)), oa, .va (.int (h : Nat)), .va (.lst ((clean h bs).map D.bl)), .va (.lst ((runs bs).map rnD)), .ow (.lst (bs.map D.bl)), keepV x1, keepV x2, .va (.int s.1), .va (.int s.2), o3, .un, .un, .un, .un, .un, .un, .un, .un, .un, .un, .un]) (bs.zip (clean h bs)) (0, 0) (by walk_at "it") ?_ ?_ ?_
        · exact ⟨x1, _, rfl⟩
        · rintro i ⟨a, b⟩ s st ez ⟨x1, o3, rfl⟩
          refine ⟨_, _, by walk_at "gs", .inl (by walk_at "sx"), some (.va (.bl a)), .va (.bl b), ?_⟩
          unfold nzStep
          by_cases c : a = b
          · simp [c, keep_va]
          · simp [c, keep_va]
        · rintro st ⟨x1, o3, rfl⟩
          have nlt : (noise (bs.zip (clean h bs))).1 < h := by
            have := noise_lt (h := (h : Nat)) (by omega) bs false 0 0 (by omega) (by omega) (by omega)
            rw [← clean_eq] at this
            exact this
          show Rt _ (sq _ _ [.va (zsD zs), .ow (drw zs (k + 1)), .ow (.lst (cs.map D.bl)), ot, .va (.lst (bs.map D.bl)), oa, .va (.int (h : Nat)), .va (.lst ((clean h bs).map D.bl)), .va (.lst ((runs bs).map rnD)), .ow (.lst (bs.map D.bl)), keepV x1, keepV x2, .va (.int (noise (bs.zip (clean h bs))).1), .va (.int (noise (bs.zip (clean h bs))).2), o3, .un, .un, .un, .un, .un, .un, .un, .un, .un, .un, .un])
          refine q_sq (s_ifF (s1 := [.va (zsD zs), .ow (drw zs (k + 1)), .ow (.lst (cs.map D.bl)), ot, .va (.lst (bs.map D.bl)), oa, .va (.int (h : Nat)), .va (.lst ((clean h bs).map D.bl)), .va (.lst ((runs bs).map rnD)), .ow (.lst (bs.map D.bl)), keepV x1, keepV x2, .va (.int (noise (bs.zip (clean h bs))).1), .va (.int (noise (bs.zip (clean h bs))).2), o3, .un, .un, .un, .un, .un, .un, .un, .un, .un, .un, .un]) (by walk_at "ts") (by simp; omega) s_nop) ?_
          refine' q_for natD (fun (_ : Unit) _ => ()) (fun i _ st => ∃ (x2 : Option SV) (o4 : SV), st = [.va (zsD zs), .ow (drw zs (k + 1)), .ow (.lst (cs.map D.bl)), ot, .va (.lst (bs.map D.bl)), oa, .va (.int (h : Nat)), .va (.lst ((clean h bs).map D.bl)), .va (.lst ((runs bs).map rnD)), .ow (.lst (bs.map D.bl)), keepV x1, keepV x2, .va (.int (noise (bs.zip (clean h bs))).1), .va (.int (noise (bs.zip (clean h bs))).2), o3, o4, .un, .un, .un, .un, .un, .un, .un, .un, .un, .un]) [0, 1, 2, 4] () (s1 := [.va (zsD zs), .ow (drw zs (k + 1)), .ow (.lst (cs.map D.bl)), ot, .va (.lst (bs.map D.bl)), oa, .va (.int (h : Nat)), .va (.lst ((clean h bs).map D.bl)), .va (.lst ((runs bs).map rnD)), .ow (.lst (bs.map D.bl)), keepV x1, keepV x2, .va (.int (noise (bs.zip (clean h bs))).1), .va (.int (noise (bs.zip (clean h bs))).2), o3, .un, .un, .un, .un, .un, .un, .un, .un, .un, .un, .un]) rfl ?_ ?_ ?_
          · exact ⟨x2, _, rfl⟩
          · rintro i m _ st ez ⟨x2, o4, rfl⟩
            have hm4 : m ≤ 4 := (by decide : ∀ m ∈ [0, 1, 2, 4], m ≤ 4) m (List.mem_of_getElem? ez)
            have lh := lh_ok (bs := bs) (many := m) (by omega) (by omega)
            have hd : lhold m bs = (holds9.filter fun i => decide (((chg (i : Nat) bs).length : Int) ≤ (m : Int))).head? := by
              unfold lhold
              rw [← List.head?_filter]
              congr 2
              funext i
              simp
            have lm := lc_flt (own := [10]) (g := gN 10) (t := asB (mB fLe (mV (mC1 fLen (mV (mCall ps_u_law_changes.length f_u_law_changes (agV (mVar 4) (agV (mVar 10) (ret []))))))) (mSl 11))) (te := mVar 10) (toD := natD) (u := unset [10] [.va (zsD zs), .ow (drw zs (k + 1)), .ow (.lst (cs.map D.bl)), ot, .va (.lst (bs.map D.bl)), oa, .va (.int (h : Nat)), .va (.lst ((clean h bs).map D.bl)), .va (.lst ((runs bs).map rnD)), .ow (.lst (bs.map D.bl)), keepV x1, .va (natD m), .va (.int (noise (bs.zip (clean h bs))).1), .va (.int (noise (bs.zip (clean h bs))).2), o3, o4, .un, .un, .un, .un, .un, .un, .un, .un, .un, .un])
              (fun i => decide (((chg (i : Nat) bs).length : Int) ≤ (m : Int))) natD holds9 (by decide) (fun a ha => by
                have hh : 1 ≤ a ∧ a ≤ 9 := (by decide : ∀ h ∈ holds9, 1 ≤ h ∧ h ≤ 9) a ha
                exact ⟨_, _, rfl, by walk_at "ts", fun _ => ⟨_, by walk_at "ev", by exact rfl⟩, fun _ => by exact rfl⟩)
            generalize hg : (holds9.filter fun i => decide (((chg (i : Nat) bs).length : Int) ≤ (m : Int))) = good at hd lm
            have hr : mR2 (ret (.int 1)) (ret (.int 10)) [.va (zsD zs), .ow (drw zs (k + 1)), .ow (.lst (cs.map D.bl)), ot, .va (.lst (bs.map D.bl)), oa, .va (.int (h : Nat)), .va (.lst ((clean h bs).map D.bl)), .va (.lst ((runs bs).map rnD)), .ow (.lst (bs.map D.bl)), keepV x1, .va (natD m), .va (.int (noise (bs.zip (clean h bs))).1), .va (.int (noise (bs.zip (clean h bs))).2), o3, o4, .un, .un, .un, .un, .un, .un, .un, .un, .un, .un] = .ok (holds9.map natD) [.va (zsD zs), .ow (drw zs (k + 1)), .ow (.lst (cs.map D.bl)), ot, .va (.lst (bs.map D.bl)), oa, .va (.int (h : Nat)), .va (.lst ((clean h bs).map D.bl)), .va (.lst ((runs bs).map rnD)), .ow (.lst (bs.map D.bl)), keepV x1, .va (natD m), .va (.int (noise (bs.zip (clean h bs))).1), .va (.int (noise (bs.zip (clean h bs))).2), o3, o4, .un, .un, .un, .un, .un, .un, .un, .un, .un, .un] := i_r2 (e_ret _) (e_ret _) (by decide) (by decide) (by decide) (by decide)
            have sO : sOwn 15 (mLc (mR2 (ret (.int 1)) (ret (.int 10))) [10] (gN 10) (asB (mB fLe (mV (mC1 fLen (mV (mCall ps_u_law_changes.length f_u_law_changes (agV (mVar 4) (agV (mVar 10) (ret []))))))) (mSl 11))) (mVar 10)) [.va (zsD zs), .ow (drw zs (k + 1)), .ow (.lst (cs.map D.bl)), ot, .va (.lst (bs.map D.bl)), oa, .va (.int (h : Nat)), .va (.lst ((clean h bs).map D.bl)), .va (.lst ((runs bs).map rnD)), .ow (.lst (bs.map D.bl)), keepV x1, .va (natD m), .va (.int (noise (bs.zip (clean h bs))).1), .va (.int (noise (bs.zip (clean h bs))).2), o3, o4, .un, .un, .un, .un, .un, .un, .un, .un, .un, .un] = .nx [.va (zsD zs), .ow (drw zs (k + 1)), .ow (.lst (cs.map D.bl)), ot, .va (.lst (bs.map D.bl)), oa, .va (.int (h : Nat)), .va (.lst ((clean h bs).map D.bl)), .va (.lst ((runs bs).map rnD)), .ow (.lst (bs.map D.bl)), keepV x1, .va (natD m), .va (.int (noise (bs.zip (clean h bs))).1), .va (.int (noise (bs.zip (clean h bs))).2), o3, .ow (.lst (good.map natD)), .un, .un, .un, .un, .un, .un, .un, .un, .un, .un] := s_own (e_lc hr lm (by walk_at "rs")) (by walk_at "st")
            rcases good with _ | ⟨i, r⟩
            · rw [List.head?_nil] at hd
              rw [hd] at lh
              have n0 : fNe (.lst (([] : List Nat).map natD)) (.lst []) = some (.bl false) := em_fNe em_natL [] []
              have nn : fNe (optD none) .non = some (.bl false) := rfl
              have ei : mIf (asB (mB fNe (mSl 15) (mV (mLst (ret []))))) (mB fIx (mSl 15) (mV (ret (.int 0)))) (ret .non) [.va (zsD zs), .ow (drw zs (k + 1)), .ow (.lst (cs.map D.bl)), ot, .va (.lst (bs.map D.bl)), oa, .va (.int (h : Nat)), .va (.lst ((clean h bs).map D.bl)), .va (.lst ((runs bs).map rnD)), .ow (.lst (bs.map D.bl)), keepV x1, .va (natD m), .va (.int (noise (bs.zip (clean h bs))).1), .va (.int (noise (bs.zip (clean h bs))).2), o3, .ow (.lst (([] : List Nat).map natD)), .un, .un, .un, .un, .un, .un, .un, .un, .un, .un] = .ok .non [.va (zsD zs), .ow (drw zs (k + 1)), .ow (.lst (cs.map D.bl)), ot, .va (.lst (bs.map D.bl)), oa, .va (.int (h : Nat)), .va (.lst ((clean h bs).map D.bl)), .va (.lst ((runs bs).map rnD)), .ow (.lst (bs.map D.bl)), keepV x1, .va (natD m), .va (.int (noise (bs.zip (clean h bs))).1), .va (.int (noise (bs.zip (clean h bs))).2), o3, .ow (.lst (([] : List Nat).map natD)), .un, .un, .un, .un, .un, .un, .un, .un, .un, .un] := mIf_of (x := false) (by walk_at "ts") rfl
              exact ⟨_, _, rfl, .inl (sq_of sO (s_ifF (s1 := [.va (zsD zs), .ow (drw zs (k + 1)), .ow (.lst (cs.map D.bl)), ot, .va (.lst (bs.map D.bl)), oa, .va (.int (h : Nat)), .va (.lst ((clean h bs).map D.bl)), .va (.lst ((runs bs).map rnD)), .ow (.lst (bs.map D.bl)), keepV x1, .va (natD m), .va (.int (noise (bs.zip (clean h bs))).1), .va (.int (noise (bs.zip (clean h bs))).2), o3, .ow (.lst (([] : List Nat).map natD)), .un, .un, .un, .un, .un, .un, .un, .un, .un, .un]) (by walk_at "ts") rfl s_nop)), some (.va (natD m)), _, rfl⟩
            · rw [List.head?_cons] at hd
              rw [hd] at lh
              have n0 : fNe (.lst ((i :: r).map natD)) (.lst []) = some (.bl true) := (em_fNe em_natL (i :: r) []).trans (by simp)
              have nn : fNe (optD (some i)) (natD i) = some (.bl false) := (ne_int _ _).trans (by simp)
              have ix : fIx (.lst ((i :: r).map natD)) (.int 0) = some (natD i) := o_ixN (l := i :: r) (j := 0) rfl
              have ei : mIf (asB (mB fNe (mSl 15) (mV (mLst (ret []))))) (mB fIx (mSl 15) (mV (ret (.int 0)))) (ret .non) [.va (zsD zs), .ow (drw zs (k + 1)), .ow (.lst (cs.map D.bl)), ot, .va (.lst (bs.map D.bl)), oa, .va (.int (h : Nat)), .va (.lst ((clean h bs).map D.bl)), .va (.lst ((runs bs).map rnD)), .ow (.lst (bs.map D.bl)), keepV x1, .va (natD m), .va (.int (noise (bs.zip (clean h bs))).1), .va (.int (noise (bs.zip (clean h bs))).2), o3, .ow (.lst ((i :: r).map natD)), .un, .un, .un, .un, .un, .un, .un, .un, .un, .un] = .ok (natD i) [.va (zsD zs), .ow (drw zs (k + 1)), .ow (.lst (cs.map D.bl)), ot, .va (.lst (bs.map D.bl)), oa, .va (.int (h : Nat)), .va (.lst ((clean h bs).map D.bl)), .va (.lst ((runs bs).map rnD)), .ow (.lst (bs.map D.bl)), keepV x1, .va (natD m), .va (.int (noise (bs.zip (clean h bs))).1), .va (.int (noise (bs.zip (clean h bs))).2), o3, .ow (.lst ((i :: r).map natD)), .un, .un, .un, .un, .un, .un, .un, .un, .un, .un] := mIf_of (x := true) (by walk_at "ts") (show mB _ _ _ _ = _ by walk_at "ev")
              exact ⟨_, _, rfl, .inl (sq_of sO (s_ifF (s1 := [.va (zsD zs), .ow (drw zs (k + 1)), .ow (.lst (cs.map D.bl)), ot, .va (.lst (bs.map D.bl)), oa, .va (.int (h : Nat)), .va (.lst ((clean h bs).map D.bl)), .va (.lst ((runs bs).map rnD)), .ow (.lst (bs.map D.bl)), keepV x1, .va (natD m), .va (.int (noise (bs.zip (clean h bs))).1), .va (.int (noise (bs.zip (clean h bs))).2), o3, .ow (.lst ((i :: r).map natD)), .un, .un, .un, .un, .un, .un, .un, .un, .un, .un]) (by walk_at "ts") rfl s_nop)), some (.va (natD m)), _, rfl⟩
          · rintro st ⟨x2, o4, rfl⟩
            have lc1 := chg_len (h := h) (bs := bs)
            have lc2 := chg_len (h := 1) (bs := cs)
            have lc3 := chg_len (h := h) (bs := cs)
            refine q_sq (s1 := [.va (zsD zs), .ow (drw zs (k + 1)), .va (.lst (cs.map D.bl)), ot, .va (.lst (bs.map D.bl)), oa, .va (.int (h : Nat)), .va (.lst ((clean h bs).map D.bl)), .va (.lst ((runs bs).map rnD)), .ow (.lst (bs.map D.bl)), keepV x1, keepV x2, .va (.int (noise (bs.zip (clean h bs))).1), .va (.int (noise (bs.zip (clean h bs))).2), o3, o4, .va (.bl (decide (words h bs = words 1 cs))), .un, .un, .un, .un, .un, .un, .un, .un, .un]) (by walk_at "sx") ?_
            refine q_sq (s1 := [.va (zsD zs), .ow (drw zs (k + 1)), .va (.lst (cs.map D.bl)), ot, .va (.lst (bs.map D.bl)), oa, .va (.int (h : Nat)), .va (.lst ((clean h bs).map D.bl)), .va (.lst ((runs bs).map rnD)), .ow (.lst (bs.map D.bl)), keepV x1, keepV x2, .va (.int (noise (bs.zip (clean h bs))).1), .va (.int (noise (bs.zip (clean h bs))).2), o3, o4, .va (.bl (decide (words h bs = words 1 cs))), .va (if words h bs = words 1 cs then .lst ((dly h bs cs).map D.int) else .non), .un, .un, .un, .un, .un, .un, .un, .un]) (by walk_at "sx") ?_
            refine q_sq (s1 := [.va (zsD zs), .ow (drw zs (k + 1)), .va (.lst (cs.map D.bl)), ot, .va (.lst (bs.map D.bl)), oa, .va (.int (h : Nat)), .va (.lst ((clean h bs).map D.bl)), .va (.lst ((runs bs).map rnD)), .ow (.lst (bs.map D.bl)), keepV x1, keepV x2, .va (.int (noise (bs.zip (clean h bs))).1), .va (.int (noise (bs.zip (clean h bs))).2), o3, o4, .va (.bl (decide (words h bs = words 1 cs))), .va (if words h bs = words 1 cs then .lst ((dly h bs cs).map D.int) else .non), .un, .un, .un, .un, .un, .un, .un, .un]) ?_ ?_
            · by_cases c : words h bs = words 1 cs
              · rw [if_pos c]
                have nd : fNe (.lst ((dly h bs cs).map D.int)) (.lst (((chg 1 cs).zip (chg h bs)).map fun p => D.int ((p.2.1 : Int) - (p.1.1 : Int)))) = some (.bl false) := by
                  have := ne_ints (dly h bs cs) (dly h bs cs)
                  rw [decide_eq_true rfl] at this
                  refine Eq.trans ?_ this
                  congr 2
                  unfold dly
                  rw [List.map_map]
                  rfl
                exact s_ifF (s1 := [.va (zsD zs), .ow (drw zs (k + 1)), .va (.lst (cs.map D.bl)), ot, .va (.lst (bs.map D.bl)), oa, .va (.int (h : Nat)), .va (.lst ((clean h bs).map D.bl)), .va (.lst ((runs bs).map rnD)), .ow (.lst (bs.map D.bl)), keepV x1, keepV x2, .va (.int (noise (bs.zip (clean h bs))).1), .va (.int (noise (bs.zip (clean h bs))).2), o3, o4, .va (.bl (decide (words h bs = words 1 cs))), .va (.lst ((dly h bs cs).map D.int)), .un, .un, .un, .un, .un, .un, .un, .un]) (by walk_at "ts") (by simp [isNon, c]) s_nop
              · rw [if_neg c]
                refine s_ifF (s1 := [.va (zsD zs), .ow (drw zs (k + 1)), .va (.lst (cs.map D.bl)), ot, .va (.lst (bs.map D.bl)), oa, .va (.int (h : Nat)), .va (.lst ((clean h bs).map D.bl)), .va (.lst ((runs bs).map rnD)), .ow (.lst (bs.map D.bl)), keepV x1, keepV x2, .va (.int (noise (bs.zip (clean h bs))).1), .va (.int (noise (bs.zip (clean h bs))).2), o3, o4, .va (.bl (decide (words h bs = words 1 cs))), .va .non, .un, .un, .un, .un, .un, .un, .un, .un]) (t_or (p := false) (q := false) ((t_asB (p := decide (isNon .non = decide (words h bs = words 1 cs))) (by walk_at "ev")).trans (by simp [isNon, c])) fun _ => (t_and (p := decide (words h bs = words 1 cs)) (q := false) (by walk_at "ts") fun hx => absurd (of_decide_eq_true hx) c).trans (by simp [c])) rfl s_nop
            generalize (if words h bs = words 1 cs then D.lst ((dly h bs cs).map D.int) else D.non) = fd
            refine q_sq (s1 := [.va (zsD zs), .ow (drw zs (k + 1)), .va (.lst (cs.map D.bl)), ot, .va (.lst (bs.map D.bl)), oa, .va (.int (h : Nat)), .va (.lst ((clean h bs).map D.bl)), .va (.lst ((runs bs).map rnD)), .ow (.lst (bs.map D.bl)), keepV x1, keepV x2, .va (.int (noise (bs.zip (clean h bs))).1), .va (.int (noise (bs.zip (clean h bs))).2), o3, o4, .va (.bl (decide (words h bs = words 1 cs))), .va fd, .va (.lst ((clean h bs).map D.bl)), .un, .un, .un, .un, .un, .un, .un]) (by walk_at "sx") ?_
            obtain ⟨f1, f2⟩ := dly_clean h1 (ns := ns) fun m hm' => Nat.le_trans h4 (hm m hm').1
            rw [hcs] at f1 f2
            have fdl := dl_ok (bs := cs) (cs := cs) (h := (h : Nat)) (by omega) (by omega) (by omega) (by omega)
            rw [if_pos f1, f2] at fdl
            have nd2 : fNe (.lst (((chg 1 cs).map fun _ => (h : Int) - 1).map D.int)) (.lst ((chg 1 cs).map fun _ => D.int ((h : Int) - 1))) = some (.bl false) := by
              have := ne_ints ((chg 1 cs).map fun _ => (h : Int) - 1) ((chg 1 cs).map fun _ => (h : Int) - 1)
              rw [decide_eq_true rfl] at this
              refine Eq.trans ?_ this
              congr 2
              rw [List.map_map]
              rfl
            have c2 := clean_one (clean h bs)
            have hcln := clean_len h bs
            refine q_sq (s_ifF (s1 := [.va (zsD zs), .ow (drw zs (k + 1)), .va (.lst (cs.map D.bl)), ot, .va (.lst (bs.map D.bl)), oa, .va (.int (h : Nat)), .va (.lst ((clean h bs).map D.bl)), .va (.lst ((runs bs).map rnD)), .ow (.lst (bs.map D.bl)), keepV x1, keepV x2, .va (.int (noise (bs.zip (clean h bs))).1), .va (.int (noise (bs.zip (clean h bs))).2), o3, o4, .va (.bl (decide (words h bs = words 1 cs))), .va fd, .va (.lst ((clean h bs).map D.bl)), .un, .un, .un, .un, .un, .un, .un]) (by walk_at "ts") (by simp [c2]) s_nop) ?_
            obtain ⟨d18, hr⟩ := repR_ok (zs := zs) (k := k + 1) (bs := bs) hz (by omega) (by omega)
            refine q_sq (s1 := [.va (zsD zs), .ow d18, .va (.lst (cs.map D.bl)), ot, .va (.lst (bs.map D.bl)), oa, .va (.int (h : Nat)), .va (.lst ((clean h bs).map D.bl)), .va (.lst ((runs bs).map rnD)), .ow (.lst (bs.map D.bl)), keepV x1, keepV x2, .va (.int (noise (bs.zip (clean h bs))).1), .va (.int (noise (bs.zip (clean h bs))).2), o3, o4, .va (.bl (decide (words h bs = words 1 cs))), .va fd, .va (.lst ((clean h bs).map D.bl)), .un, .un, .un, .un, .un, .un, .un]) (by walk_at "sx") ?_
            refine q_sq (s1 := [.va (zsD zs), .ow d18, .va (.lst (cs.map D.bl)), ot, .va (.lst (bs.map D.bl)), oa, .va (.int (h : Nat)), .va (.lst ((clean h bs).map D.bl)), .va (.lst ((runs bs).map rnD)), .ow (.lst (bs.map D.bl)), keepV x1, keepV x2, .va (.int (noise (bs.zip (clean h bs))).1), .va (.int (noise (bs.zip (clean h bs))).2), o3, o4, .va (.bl (decide (words h bs = words 1 cs))), .va fd, .va (.lst ((clean h bs).map D.bl)), .ow (.lst wrongD), .un, .un, .un, .un, .un, .un]) rfl ?_
            have wo := wrong_ok (P := P) (w := w) (base := base) T
            have lw := lc_map (own := [24, 25]) (g := gT 2 (gCons' (gN 24) (gCons' (gN 25) gNil'))) (te := mB fEq (mV (mCall ps_u_law_refused.length (f_u_law_refused P w K mg base) (agV (mVar 24) (ret [])))) (mSl 25)) (u := unset [24, 25] [.va (zsD zs), .ow d18, .va (.lst (cs.map D.bl)), ot, .va (.lst (bs.map D.bl)), oa, .va (.int (h : Nat)), .va (.lst ((clean h bs).map D.bl)), .va (.lst ((runs bs).map rnD)), .ow (.lst (bs.map D.bl)), keepV x1, keepV x2, .va (.int (noise (bs.zip (clean h bs))).1), .va (.int (noise (bs.zip (clean h bs))).2), o3, o4, .va (.bl (decide (words h bs = words 1 cs))), .va fd, .va (.lst ((clean h bs).map D.bl)), .va (.lst wrongD), .un, .un, .un, .un, .un, .un]) (toD := id) (fun _ => .bl true) wrongD (by decide) (fun d hd => by
              obtain ⟨a, b, rfl, hf', he⟩ := wo d hd
              exact ⟨_, _, rfl, by walk_at "ev", by exact rfl⟩)
            rw [List.map_id] at lw
            exact q_ret (mC1_of (h_v (e_lc (i_lst (e_ow rfl (by walk_at "st"))) lw (by walk_at "rs"))) l_v c_all) (by simp)
end W23

set_option Elab.async false
set_option linter.all false
set_option maxRecDepth 100000
set_option maxHeartbeats 0
set_option pp.maxSteps 300
set_option pp.deepTerms false
namespace W23
open PySem PySem.Spec PyProof.Rows L2 Dn
/-! ### the head -/
section
variable {K : PySem.W.Frag} {h : Heap} {mg : MG}
def mkFx (X : K.In h) (G : h.Ns mainGlobals mg) {f_is_integer : Addr} {od_is_integer an_is_integer : Option Addr} {sl_is_integer : Array (Option Value)} {oc_is_integer kV_is_integer dc_is_integer pm_is_integer ct_is_integer : Value} {cd_is_integer : Value} {f_is_row : Addr} {od_is_row an_is_row : Option Addr} {sl_is_row : Array (Option Value)} {oc_is_row kV_is_row dc_is_row pm_is_row ct_is_row : Value} {cd_is_row : Value} {f_is_number : Addr} {od_is_number an_is_number : Option Addr} {sl_is_number : Array (Option Value)} {oc_is_number kV_is_number dc_is_number pm_is_number ct_is_number : Value} {cd_is_number : Value} {f_check_samples : Addr} {od_check_samples an_check_samples : Option Addr} {sl_check_samples : Array (Option Value)} {oc_check_samples kV_check_samples dc_check_samples pm_check_samples ct_check_samples : Value} {cd_check_samples : Value} {f_cleaned : Addr} {od_cleaned an_cleaned : Option Addr} {sl_cleaned : Array (Option Value)} {oc_cleaned kV_cleaned dc_cleaned pm_cleaned ct_cleaned : Value} {cd_cleaned : Value} {f_changes : Addr} {od_changes an_changes : Option Addr} {sl_changes : Array (Option Value)} {oc_changes kV_changes dc_changes pm_changes ct_changes : Value} {cd_changes : Value} {f_runs_of : Addr} {od_runs_of an_runs_of : Option Addr} {sl_runs_of : Array (Option Value)} {oc_runs_of kV_runs_of dc_runs_of pm_runs_of ct_runs_of : Value} {cd_runs_of : Value} {f_longest_noise : Addr} {od_longest_noise an_longest_noise : Option Addr} {sl_longest_noise : Array (Option Value)} {oc_longest_noise kV_longest_noise dc_longest_noise pm_longest_noise ct_longest_noise : Value} {cd_longest_noise : Value} {f_least_hold : Addr} {od_least_hold an_least_hold : Option Addr} {sl_least_hold : Array (Option Value)} {oc_least_hold kV_least_hold dc_least_hold pm_least_hold ct_least_hold : Value} {cd_least_hold : Value} {f_same_events : Addr} {od_same_events an_same_events : Option Addr} {sl_same_events : Array (Option Value)} {oc_same_events kV_same_events dc_same_events pm_same_events ct_same_events : Value} {cd_same_events : Value} {f_same_words : Addr} {od_same_words an_same_words : Option Addr} {sl_same_words : Array (Option Value)} {oc_same_words kV_same_words dc_same_words pm_same_words ct_same_words : Value} {cd_same_words : Value} {f_delays : Addr} {od_delays an_delays : Option Addr} {sl_delays : Array (Option Value)} {oc_delays kV_delays dc_delays pm_delays ct_delays : Value} {cd_delays : Value} {f_repeats : Addr} {od_repeats an_repeats : Option Addr} {sl_repeats : Array (Option Value)} {oc_repeats kV_repeats dc_repeats pm_repeats ct_repeats : Value} {cd_repeats : Value} {f_count_repeats : Addr} {od_count_repeats an_count_repeats : Option Addr} {sl_count_repeats : Array (Option Value)} {oc_count_repeats kV_count_repeats dc_count_repeats pm_count_repeats ct_count_repeats : Value} {cd_count_repeats : Value} {f_lengths_for : Addr} {od_lengths_for an_lengths_for : Option Addr} {sl_lengths_for : Array (Option Value)} {oc_lengths_for kV_lengths_for dc_lengths_for pm_lengths_for ct_lengths_for : Value} {cd_lengths_for : Value} {f_u_law_number : Addr} {od_u_law_number an_u_law_number : Option Addr} {sl_u_law_number : Array (Option Value)} {oc_u_law_number kV_u_law_number dc_u_law_number pm_u_law_number ct_u_law_number : Value} {cd_u_law_number : Value} {f_u_law_take : Addr} {od_u_law_take an_u_law_take : Option Addr} {sl_u_law_take : Array (Option Value)} {oc_u_law_take kV_u_law_take dc_u_law_take pm_u_law_take ct_u_law_take : Value} {cd_u_law_take : Value} {f_u_law_cleaned : Addr} {od_u_law_cleaned an_u_law_cleaned : Option Addr} {sl_u_law_cleaned : Array (Option Value)} {oc_u_law_cleaned kV_u_law_cleaned dc_u_law_cleaned pm_u_law_cleaned ct_u_law_cleaned : Value} {cd_u_law_cleaned : Value} {f_u_law_changes : Addr} {od_u_law_changes an_u_law_changes : Option Addr} {sl_u_law_changes : Array (Option Value)} {oc_u_law_changes kV_u_law_changes dc_u_law_changes pm_u_law_changes ct_u_law_changes : Value} {cd_u_law_changes : Value} {f_u_law_refused : Addr} {od_u_law_refused an_u_law_refused : Option Addr} {sl_u_law_refused : Array (Option Value)} {oc_u_law_refused kV_u_law_refused dc_u_law_refused pm_u_law_refused ct_u_law_refused : Value} {cd_u_law_refused : Value} {f_u_law_repeats_right : Addr} {od_u_law_repeats_right an_u_law_repeats_right : Option Addr} {sl_u_law_repeats_right : Array (Option Value)} {oc_u_law_repeats_right kV_u_law_repeats_right dc_u_law_repeats_right pm_u_law_repeats_right ct_u_law_repeats_right : Value} {cd_u_law_repeats_right : Value} {C_BadSamples : Addr} {fi_BadSamples CB_BadSamples : Addr} {nm_BadSamples q_BadSamples : Str} {N_BadSamples : Addr} {bs_BadSamples : List Value} {sn_BadSamples : List Str} {sub_BadSamples : List Value} {ab_BadSamples : Bool} {col_BadSamples : Option Bool} {dd_BadSamples : Option Addr} {m0_BadSamples m1_BadSamples m2_BadSamples m3_BadSamples m5_BadSamples : Option Value} {od_iBadSamples an_iBadSamples : Option Addr} {sl_iBadSamples : Array (Option Value)} {oc_iBadSamples kV_iBadSamples dc_iBadSamples pm_iBadSamples ct_iBadSamples : Value} {cd_iBadSamples : Value} {C_BadHold : Addr}
    (z_all : PySem.W.nsIn K mainGlobals "all" = some none)
    (z_any : PySem.W.nsIn K mainGlobals "any" = some none)
    (z_bool : PySem.W.nsIn K mainGlobals "bool" = some none)
    (z_enumerate : PySem.W.nsIn K mainGlobals "enumerate" = some none)
    (z_int : PySem.W.nsIn K mainGlobals "int" = some none)
    (z_isinstance : PySem.W.nsIn K mainGlobals "isinstance" = some none)
    (z_len : PySem.W.nsIn K mainGlobals "len" = some none)
    (z_list : PySem.W.nsIn K mainGlobals "list" = some none)
    (z_max : PySem.W.nsIn K mainGlobals "max" = some none)
    (z_range : PySem.W.nsIn K mainGlobals "range" = some none)
    (z_tuple : PySem.W.nsIn K mainGlobals "tuple" = some none)
    (z_zip : PySem.W.nsIn K mainGlobals "zip" = some none)
    (a_is_integer : PySem.W.nsIn K mainGlobals "is_integer" = some (some (.ref f_is_integer)))
    (l_is_integer : K.lookup f_is_integer = some ⟨oc_is_integer, od_is_integer, .func (PySem.W.fnOf "is_integer" "is_integer" (defArgs s_is_integer) (defBody s_is_integer) (defScope s_is_integer) .none kV_is_integer dc_is_integer pm_is_integer an_is_integer cd_is_integer ct_is_integer), sl_is_integer⟩)
    (c_is_integer : PySem.W.codeIn K cd_is_integer "is_integer" = true)
    (k_is_integer : PySem.W.keepIn K (.ref f_is_integer) = true)
    (a_is_row : PySem.W.nsIn K mainGlobals "is_row" = some (some (.ref f_is_row)))
    (l_is_row : K.lookup f_is_row = some ⟨oc_is_row, od_is_row, .func (PySem.W.fnOf "is_row" "is_row" (defArgs s_is_row) (defBody s_is_row) (defScope s_is_row) .none kV_is_row dc_is_row pm_is_row an_is_row cd_is_row ct_is_row), sl_is_row⟩)
    (c_is_row : PySem.W.codeIn K cd_is_row "is_row" = true)
    (k_is_row : PySem.W.keepIn K (.ref f_is_row) = true)
    (a_is_number : PySem.W.nsIn K mainGlobals "is_number" = some (some (.ref f_is_number)))
    (l_is_number : K.lookup f_is_number = some ⟨oc_is_number, od_is_number, .func (PySem.W.fnOf "is_number" "is_number" (defArgs s_is_number) (defBody s_is_number) (defScope s_is_number) .none kV_is_number dc_is_number pm_is_number an_is_number cd_is_number ct_is_number), sl_is_number⟩)
    (c_is_number : PySem.W.codeIn K cd_is_number "is_number" = true)
    (k_is_number : PySem.W.keepIn K (.ref f_is_number) = true)
    (a_check_samples : PySem.W.nsIn K mainGlobals "check_samples" = some (some (.ref f_check_samples)))
    (l_check_samples : K.lookup f_check_samples = some ⟨oc_check_samples, od_check_samples, .func (PySem.W.fnOf "check_samples" "check_samples" (defArgs s_check_samples) (defBody s_check_samples) (defScope s_check_samples) .none kV_check_samples dc_check_samples pm_check_samples an_check_samples cd_check_samples ct_check_samples), sl_check_samples⟩)
    (c_check_samples : PySem.W.codeIn K cd_check_samples "check_samples" = true)
    (k_check_samples : PySem.W.keepIn K (.ref f_check_samples) = true)
    (a_cleaned : PySem.W.nsIn K mainGlobals "cleaned" = some (some (.ref f_cleaned)))
    (l_cleaned : K.lookup f_cleaned = some ⟨oc_cleaned, od_cleaned, .func (PySem.W.fnOf "cleaned" "cleaned" (defArgs s_cleaned) (defBody s_cleaned) (defScope s_cleaned) .none kV_cleaned dc_cleaned pm_cleaned an_cleaned cd_cleaned ct_cleaned), sl_cleaned⟩)
    (c_cleaned : PySem.W.codeIn K cd_cleaned "cleaned" = true)
    (k_cleaned : PySem.W.keepIn K (.ref f_cleaned) = true)
    (a_changes : PySem.W.nsIn K mainGlobals "changes" = some (some (.ref f_changes)))
    (l_changes : K.lookup f_changes = some ⟨oc_changes, od_changes, .func (PySem.W.fnOf "changes" "changes" (defArgs s_changes) (defBody s_changes) (defScope s_changes) .none kV_changes dc_changes pm_changes an_changes cd_changes ct_changes), sl_changes⟩)
    (c_changes : PySem.W.codeIn K cd_changes "changes" = true)
    (k_changes : PySem.W.keepIn K (.ref f_changes) = true)
    (a_runs_of : PySem.W.nsIn K mainGlobals "runs_of" = some (some (.ref f_runs_of)))
    (l_runs_of : K.lookup f_runs_of = some ⟨oc_runs_of, od_runs_of, .func (PySem.W.fnOf "runs_of" "runs_of" (defArgs s_runs_of) (defBody s_runs_of) (defScope s_runs_of) .none kV_runs_of dc_runs_of pm_runs_of an_runs_of cd_runs_of ct_runs_of), sl_runs_of⟩)
    (c_runs_of : PySem.W.codeIn K cd_runs_of "runs_of" = true)
    (k_runs_of : PySem.W.keepIn K (.ref f_runs_of) = true)
    (a_longest_noise : PySem.W.nsIn K mainGlobals "longest_noise" = some (some (.ref f_longest_noise)))
    (l_longest_noise : K.lookup f_longest_noise = some ⟨oc_longest_noise, od_longest_noise, .func (PySem.W.fnOf "longest_noise" "longest_noise" (defArgs s_longest_noise) (defBody s_longest_noise) (defScope s_longest_noise) .none kV_longest_noise dc_longest_noise pm_longest_noise an_longest_noise cd_longest_noise ct_longest_noise), sl_longest_noise⟩)
    (c_longest_noise : PySem.W.codeIn K cd_longest_noise "longest_noise" = true)
    (k_longest_noise : PySem.W.keepIn K (.ref f_longest_noise) = true)
    (a_least_hold : PySem.W.nsIn K mainGlobals "least_hold" = some (some (.ref f_least_hold)))
    (l_least_hold : K.lookup f_least_hold = some ⟨oc_least_hold, od_least_hold, .func (PySem.W.fnOf "least_hold" "least_hold" (defArgs s_least_hold) (defBody s_least_hold) (defScope s_least_hold) .none kV_least_hold dc_least_hold pm_least_hold an_least_hold cd_least_hold ct_least_hold), sl_least_hold⟩)
    (c_least_hold : PySem.W.codeIn K cd_least_hold "least_hold" = true)
    (k_least_hold : PySem.W.keepIn K (.ref f_least_hold) = true)
    (a_same_events : PySem.W.nsIn K mainGlobals "same_events" = some (some (.ref f_same_events)))
    (l_same_events : K.lookup f_same_events = some ⟨oc_same_events, od_same_events, .func (PySem.W.fnOf "same_events" "same_events" (defArgs s_same_events) (defBody s_same_events) (defScope s_same_events) .none kV_same_events dc_same_events pm_same_events an_same_events cd_same_events ct_same_events), sl_same_events⟩)
    (c_same_events : PySem.W.codeIn K cd_same_events "same_events" = true)
    (k_same_events : PySem.W.keepIn K (.ref f_same_events) = true)
    (a_same_words : PySem.W.nsIn K mainGlobals "same_words" = some (some (.ref f_same_words)))
    (l_same_words : K.lookup f_same_words = some ⟨oc_same_words, od_same_words, .func (PySem.W.fnOf "same_words" "same_words" (defArgs s_same_words) (defBody s_same_words) (defScope s_same_words) .none kV_same_words dc_same_words pm_same_words an_same_words cd_same_words ct_same_words), sl_same_words⟩)
    (c_same_words : PySem.W.codeIn K cd_same_words "same_words" = true)
    (k_same_words : PySem.W.keepIn K (.ref f_same_words) = true)
    (a_delays : PySem.W.nsIn K mainGlobals "delays" = some (some (.ref f_delays)))
    (l_delays : K.lookup f_delays = some ⟨oc_delays, od_delays, .func (PySem.W.fnOf "delays" "delays" (defArgs s_delays) (defBody s_delays) (defScope s_delays) .none kV_delays dc_delays pm_delays an_delays cd_delays ct_delays), sl_delays⟩)
    (c_delays : PySem.W.codeIn K cd_delays "delays" = true)
    (k_delays : PySem.W.keepIn K (.ref f_delays) = true)
    (a_repeats : PySem.W.nsIn K mainGlobals "repeats" = some (some (.ref f_repeats)))
    (l_repeats : K.lookup f_repeats = some ⟨oc_repeats, od_repeats, .func (PySem.W.fnOf "repeats" "repeats" (defArgs s_repeats) (defBody s_repeats) (defScope s_repeats) .none kV_repeats dc_repeats pm_repeats an_repeats cd_repeats ct_repeats), sl_repeats⟩)
    (c_repeats : PySem.W.codeIn K cd_repeats "repeats" = true)
    (k_repeats : PySem.W.keepIn K (.ref f_repeats) = true)
    (a_count_repeats : PySem.W.nsIn K mainGlobals "count_repeats" = some (some (.ref f_count_repeats)))
    (l_count_repeats : K.lookup f_count_repeats = some ⟨oc_count_repeats, od_count_repeats, .func (PySem.W.fnOf "count_repeats" "count_repeats" (defArgs s_count_repeats) (defBody s_count_repeats) (defScope s_count_repeats) .none kV_count_repeats dc_count_repeats pm_count_repeats an_count_repeats cd_count_repeats ct_count_repeats), sl_count_repeats⟩)
    (c_count_repeats : PySem.W.codeIn K cd_count_repeats "count_repeats" = true)
    (k_count_repeats : PySem.W.keepIn K (.ref f_count_repeats) = true)
    (a_lengths_for : PySem.W.nsIn K mainGlobals "lengths_for" = some (some (.ref f_lengths_for)))
    (l_lengths_for : K.lookup f_lengths_for = some ⟨oc_lengths_for, od_lengths_for, .func (PySem.W.fnOf "lengths_for" "lengths_for" (defArgs s_lengths_for) (defBody s_lengths_for) (defScope s_lengths_for) .none kV_lengths_for dc_lengths_for pm_lengths_for an_lengths_for cd_lengths_for ct_lengths_for), sl_lengths_for⟩)
    (c_lengths_for : PySem.W.codeIn K cd_lengths_for "lengths_for" = true)
    (k_lengths_for : PySem.W.keepIn K (.ref f_lengths_for) = true)
    (a_u_law_number : PySem.W.nsIn K mainGlobals "_law_number" = some (some (.ref f_u_law_number)))
    (l_u_law_number : K.lookup f_u_law_number = some ⟨oc_u_law_number, od_u_law_number, .func (PySem.W.fnOf "_law_number" "_law_number" (defArgs s_u_law_number) (defBody s_u_law_number) (defScope s_u_law_number) .none kV_u_law_number dc_u_law_number pm_u_law_number an_u_law_number cd_u_law_number ct_u_law_number), sl_u_law_number⟩)
    (c_u_law_number : PySem.W.codeIn K cd_u_law_number "_law_number" = true)
    (k_u_law_number : PySem.W.keepIn K (.ref f_u_law_number) = true)
    (a_u_law_take : PySem.W.nsIn K mainGlobals "_law_take" = some (some (.ref f_u_law_take)))
    (l_u_law_take : K.lookup f_u_law_take = some ⟨oc_u_law_take, od_u_law_take, .func (PySem.W.fnOf "_law_take" "_law_take" (defArgs s_u_law_take) (defBody s_u_law_take) (defScope s_u_law_take) .none kV_u_law_take dc_u_law_take pm_u_law_take an_u_law_take cd_u_law_take ct_u_law_take), sl_u_law_take⟩)
    (c_u_law_take : PySem.W.codeIn K cd_u_law_take "_law_take" = true)
    (k_u_law_take : PySem.W.keepIn K (.ref f_u_law_take) = true)
    (a_u_law_cleaned : PySem.W.nsIn K mainGlobals "_law_cleaned" = some (some (.ref f_u_law_cleaned)))
    (l_u_law_cleaned : K.lookup f_u_law_cleaned = some ⟨oc_u_law_cleaned, od_u_law_cleaned, .func (PySem.W.fnOf "_law_cleaned" "_law_cleaned" (defArgs s_u_law_cleaned) (defBody s_u_law_cleaned) (defScope s_u_law_cleaned) .none kV_u_law_cleaned dc_u_law_cleaned pm_u_law_cleaned an_u_law_cleaned cd_u_law_cleaned ct_u_law_cleaned), sl_u_law_cleaned⟩)
    (c_u_law_cleaned : PySem.W.codeIn K cd_u_law_cleaned "_law_cleaned" = true)
    (k_u_law_cleaned : PySem.W.keepIn K (.ref f_u_law_cleaned) = true)
    (a_u_law_changes : PySem.W.nsIn K mainGlobals "_law_changes" = some (some (.ref f_u_law_changes)))
    (l_u_law_changes : K.lookup f_u_law_changes = some ⟨oc_u_law_changes, od_u_law_changes, .func (PySem.W.fnOf "_law_changes" "_law_changes" (defArgs s_u_law_changes) (defBody s_u_law_changes) (defScope s_u_law_changes) .none kV_u_law_changes dc_u_law_changes pm_u_law_changes an_u_law_changes cd_u_law_changes ct_u_law_changes), sl_u_law_changes⟩)
    (c_u_law_changes : PySem.W.codeIn K cd_u_law_changes "_law_changes" = true)
    (k_u_law_changes : PySem.W.keepIn K (.ref f_u_law_changes) = true)
    (a_u_law_refused : PySem.W.nsIn K mainGlobals "_law_refused" = some (some (.ref f_u_law_refused)))
    (l_u_law_refused : K.lookup f_u_law_refused = some ⟨oc_u_law_refused, od_u_law_refused, .func (PySem.W.fnOf "_law_refused" "_law_refused" (defArgs s_u_law_refused) (defBody s_u_law_refused) (defScope s_u_law_refused) .none kV_u_law_refused dc_u_law_refused pm_u_law_refused an_u_law_refused cd_u_law_refused ct_u_law_refused), sl_u_law_refused⟩)
    (c_u_law_refused : PySem.W.codeIn K cd_u_law_refused "_law_refused" = true)
    (k_u_law_refused : PySem.W.keepIn K (.ref f_u_law_refused) = true)
    (a_u_law_repeats_right : PySem.W.nsIn K mainGlobals "_law_repeats_right" = some (some (.ref f_u_law_repeats_right)))
    (l_u_law_repeats_right : K.lookup f_u_law_repeats_right = some ⟨oc_u_law_repeats_right, od_u_law_repeats_right, .func (PySem.W.fnOf "_law_repeats_right" "_law_repeats_right" (defArgs s_u_law_repeats_right) (defBody s_u_law_repeats_right) (defScope s_u_law_repeats_right) .none kV_u_law_repeats_right dc_u_law_repeats_right pm_u_law_repeats_right an_u_law_repeats_right cd_u_law_repeats_right ct_u_law_repeats_right), sl_u_law_repeats_right⟩)
    (c_u_law_repeats_right : PySem.W.codeIn K cd_u_law_repeats_right "_law_repeats_right" = true)
    (k_u_law_repeats_right : PySem.W.keepIn K (.ref f_u_law_repeats_right) = true)
    (a_BadSamples : PySem.W.nsIn K mainGlobals "BadSamples" = some (some (.ref C_BadSamples)))
    (e_BadSamples : PySem.W.subIn K (.ref C_BadSamples) (.type "BaseException") = some true)
    (t_BadSamples : PySem.W.typeIn K (.ref C_BadSamples) = some (.type "type"))
    (ic_BadSamples : PySem.W.isClsIn K C_BadSamples = true)
    (k_BadSamples : PySem.W.keepIn K (.ref C_BadSamples) = true)
    (xL_BadSamples : K.lookup C_BadSamples = some (excClassObj nm_BadSamples q_BadSamples C_BadSamples N_BadSamples bs_BadSamples [.ref CB_BadSamples, .type "ValueError", .type "Exception", .type "BaseException", .type "object"] true sn_BadSamples sub_BadSamples ab_BadSamples col_BadSamples dd_BadSamples m0_BadSamples m1_BadSamples m2_BadSamples m3_BadSamples m5_BadSamples "ValueError.__new__"))
    (sa_BadSamples : PySem.W.findIn K (.ref C_BadSamples) "__setattr__" = some (some (.builtin "object.__setattr__")))
    (ga_BadSamples : PySem.W.findIn K (.ref C_BadSamples) "__getattribute__" = some (some (.builtin "BaseException.__getattribute__")))
    (gg_BadSamples : PySem.W.findIn K (.ref C_BadSamples) "__getattr__" = some none)
    (hd_BadSamples : PySem.W.hasDictIn K C_BadSamples = true)
    (i_BadSamples : PySem.W.findIn K (.ref C_BadSamples) "__init__" = some (some (.ref fi_BadSamples)))
    (ti_BadSamples : PySem.W.typeIn K (.ref fi_BadSamples) = some (.type "function"))
    (li_BadSamples : K.lookup fi_BadSamples = some ⟨oc_iBadSamples, od_iBadSamples, .func (PySem.W.fnOf "__init__" "BadSamples.__init__" (defArgs si_BadSamples) (defBody si_BadSamples) (defScope si_BadSamples) .none kV_iBadSamples dc_iBadSamples pm_iBadSamples an_iBadSamples cd_iBadSamples ct_iBadSamples), sl_iBadSamples⟩)
    (ci_BadSamples : PySem.W.codeIn K cd_iBadSamples "BadSamples.__init__" = true)
    (ki_BadSamples : PySem.W.keepIn K (.ref fi_BadSamples) = true)
    (no_BadSamples_place : PySem.W.findIn K (.ref C_BadSamples) "place" = some none)
    (a_BadHold : PySem.W.nsIn K mainGlobals "BadHold" = some (some (.ref C_BadHold)))
    (e_BadHold : PySem.W.subIn K (.ref C_BadHold) (.type "BaseException") = some true)
    (t_BadHold : PySem.W.typeIn K (.ref C_BadHold) = some (.type "type"))
    (ic_BadHold : PySem.W.isClsIn K C_BadHold = true)
    (k_BadHold : PySem.W.keepIn K (.ref C_BadHold) = true)
    (x_BadHold : PySem.W.excIn K C_BadHold bm_BadHold "ValueError.__new__" = true)
    (s_BadSamples_BadSamples : PySem.W.subIn K (.ref C_BadSamples) (.ref C_BadSamples) = some true)
    (s_BadSamples_BadHold : PySem.W.subIn K (.ref C_BadSamples) (.ref C_BadHold) = some false)
    (s_BadHold_BadSamples : PySem.W.subIn K (.ref C_BadHold) (.ref C_BadSamples) = some false)
    (s_BadHold_BadHold : PySem.W.subIn K (.ref C_BadHold) (.ref C_BadHold) = some true) : Fx K mg :=
  { z_all := PySem.W.mg_none_of X G z_all,
    z_any := PySem.W.mg_none_of X G z_any,
    z_bool := PySem.W.mg_none_of X G z_bool,
    z_enumerate := PySem.W.mg_none_of X G z_enumerate,
    z_int := PySem.W.mg_none_of X G z_int,
    z_isinstance := PySem.W.mg_none_of X G z_isinstance,
    z_len := PySem.W.mg_none_of X G z_len,
    z_list := PySem.W.mg_none_of X G z_list,
    z_max := PySem.W.mg_none_of X G z_max,
    z_range := PySem.W.mg_none_of X G z_range,
    z_tuple := PySem.W.mg_none_of X G z_tuple,
    z_zip := PySem.W.mg_none_of X G z_zip,
    f_is_integer := f_is_integer, fd_is_integer := _, g_is_integer := PySem.W.mg_of X G a_is_integer, F_is_integer := fun_mk (st := s_is_integer) l_is_integer c_is_integer k_is_integer,
    f_is_row := f_is_row, fd_is_row := _, g_is_row := PySem.W.mg_of X G a_is_row, F_is_row := fun_mk (st := s_is_row) l_is_row c_is_row k_is_row,
    f_is_number := f_is_number, fd_is_number := _, g_is_number := PySem.W.mg_of X G a_is_number, F_is_number := fun_mk (st := s_is_number) l_is_number c_is_number k_is_number,
    f_check_samples := f_check_samples, fd_check_samples := _, g_check_samples := PySem.W.mg_of X G a_check_samples, F_check_samples := fun_mk (st := s_check_samples) l_check_samples c_check_samples k_check_samples,
    f_cleaned := f_cleaned, fd_cleaned := _, g_cleaned := PySem.W.mg_of X G a_cleaned, F_cleaned := fun_mk (st := s_cleaned) l_cleaned c_cleaned k_cleaned,
    f_changes := f_changes, fd_changes := _, g_changes := PySem.W.mg_of X G a_changes, F_changes := fun_mk (st := s_changes) l_changes c_changes k_changes,
    f_runs_of := f_runs_of, fd_runs_of := _, g_runs_of := PySem.W.mg_of X G a_runs_of, F_runs_of := fun_mk (st := s_runs_of) l_runs_of c_runs_of k_runs_of,
    f_longest_noise := f_longest_noise, fd_longest_noise := _, g_longest_noise := PySem.W.mg_of X G a_longest_noise, F_longest_noise := fun_mk (st := s_longest_noise) l_longest_noise c_longest_noise k_longest_noise,
    f_least_hold := f_least_hold, fd_least_hold := _, g_least_hold := PySem.W.mg_of X G a_least_hold, F_least_hold := fun_mk (st := s_least_hold) l_least_hold c_least_hold k_least_hold,
    f_same_events := f_same_events, fd_same_events := _, g_same_events := PySem.W.mg_of X G a_same_events, F_same_events := fun_mk (st := s_same_events) l_same_events c_same_events k_same_events,
    f_same_words := f_same_words, fd_same_words := _, g_same_words := PySem.W.mg_of X G a_same_words, F_same_words := fun_mk (st := s_same_words) l_same_words c_same_words k_same_words,
    f_delays := f_delays, fd_delays := _, g_delays := PySem.W.mg_of X G a_delays, F_delays := fun_mk (st := s_delays) l_delays c_delays k_delays,
    f_repeats := f_repeats, fd_repeats := _, g_repeats := PySem.W.mg_of X G a_repeats, F_repeats := fun_mk (st := s_repeats) l_repeats c_repeats k_repeats,
    f_count_repeats := f_count_repeats, fd_count_repeats := _, g_count_repeats := PySem.W.mg_of X G a_count_repeats, F_count_repeats := fun_mk (st := s_count_repeats) l_count_repeats c_count_repeats k_count_repeats,
    f_lengths_for := f_lengths_for, fd_lengths_for := _, g_lengths_for := PySem.W.mg_of X G a_lengths_for, F_lengths_for := fun_mk (st := s_lengths_for) l_lengths_for c_lengths_for k_lengths_for,
    f_u_law_number := f_u_law_number, fd_u_law_number := _, g_u_law_number := PySem.W.mg_of X G a_u_law_number, F_u_law_number := fun_mk (st := s_u_law_number) l_u_law_number c_u_law_number k_u_law_number,
    f_u_law_take := f_u_law_take, fd_u_law_take := _, g_u_law_take := PySem.W.mg_of X G a_u_law_take, F_u_law_take := fun_mk (st := s_u_law_take) l_u_law_take c_u_law_take k_u_law_take,
    f_u_law_cleaned := f_u_law_cleaned, fd_u_law_cleaned := _, g_u_law_cleaned := PySem.W.mg_of X G a_u_law_cleaned, F_u_law_cleaned := fun_mk (st := s_u_law_cleaned) l_u_law_cleaned c_u_law_cleaned k_u_law_cleaned,
    f_u_law_changes := f_u_law_changes, fd_u_law_changes := _, g_u_law_changes := PySem.W.mg_of X G a_u_law_changes, F_u_law_changes := fun_mk (st := s_u_law_changes) l_u_law_changes c_u_law_changes k_u_law_changes,
    f_u_law_refused := f_u_law_refused, fd_u_law_refused := _, g_u_law_refused := PySem.W.mg_of X G a_u_law_refused, F_u_law_refused := fun_mk (st := s_u_law_refused) l_u_law_refused c_u_law_refused k_u_law_refused,
    f_u_law_repeats_right := f_u_law_repeats_right, fd_u_law_repeats_right := _, g_u_law_repeats_right := PySem.W.mg_of X G a_u_law_repeats_right, F_u_law_repeats_right := fun_mk (st := s_u_law_repeats_right) l_u_law_repeats_right c_u_law_repeats_right k_u_law_repeats_right,
    C_BadSamples := C_BadSamples, g_BadSamples := PySem.W.mg_of X G a_BadSamples,
    no_BadSamples_place := no_BadSamples_place,
    o_BadSamples := ⟨⟨_, _, _, _, _, _, _, _, _, _, _, _, _, _, _, xL_BadSamples, by rfl⟩, sa_BadSamples, e_BadSamples, t_BadSamples, k_BadSamples⟩, fi_BadSamples := fi_BadSamples, fdi_BadSamples := _, i_BadSamples := i_BadSamples, ti_BadSamples := ti_BadSamples, Fi_BadSamples := fun_mk (st := si_BadSamples) li_BadSamples ci_BadSamples ki_BadSamples, xf_BadSamples := ⟨ga_BadSamples, gg_BadSamples, e_BadSamples, hd_BadSamples⟩,
    C_BadHold := C_BadHold, g_BadHold := PySem.W.mg_of X G a_BadHold,
    x_BadHold := x_BadHold, k_BadHold := k_BadHold, e_BadHold := e_BadHold, t_BadHold := t_BadHold,
    exm := fun p hp => by
      have hp : p = ((("BadSamples" : Str), ("BadSamples" : Str)), true) ∨ p = ((("BadSamples" : Str), ("BadHold" : Str)), false) ∨ p = ((("BadHold" : Str), ("BadSamples" : Str)), false) ∨ p = ((("BadHold" : Str), ("BadHold" : Str)), true) := by simpa [tblM] using hp
      rcases hp with rfl | rfl | rfl | rfl
      · exact ⟨C_BadSamples, C_BadSamples, PySem.W.mg_of X G a_BadSamples, PySem.W.mg_of X G a_BadSamples, exm_ok e_BadSamples ic_BadSamples t_BadSamples s_BadSamples_BadSamples e_BadSamples⟩
      · exact ⟨C_BadSamples, C_BadHold, PySem.W.mg_of X G a_BadSamples, PySem.W.mg_of X G a_BadHold, exm_ok e_BadSamples ic_BadHold t_BadHold s_BadSamples_BadHold e_BadHold⟩
      · exact ⟨C_BadHold, C_BadSamples, PySem.W.mg_of X G a_BadHold, PySem.W.mg_of X G a_BadSamples, exm_ok e_BadHold ic_BadSamples t_BadSamples s_BadHold_BadSamples e_BadSamples⟩
      · exact ⟨C_BadHold, C_BadHold, PySem.W.mg_of X G a_BadHold, PySem.W.mg_of X G a_BadHold, exm_ok e_BadHold ic_BadHold t_BadHold s_BadHold_BadHold e_BadHold⟩ }
end
end W23
open PySem PySem.W PyProof.Rows
set_option maxHeartbeats 0 in
theorem PySem.Challenge.cw_signsbykeys_k23_whole_bounces_holds : PySem.Challenge.rw_signsbykeys_k23_whole_bounces.Holds := by
  w_on; o_law; k_head; (case hw => w_witness2)
  k_fill
  refine LamX.walk_ofOwn (l := PySem.Challenge.rw_signsbykeys_k23_whole_bounces) (n := 63) (k := 10) (x := "script") (CX := fun w => L2.CX (PySem.Challenge.rw_signsbykeys_k23_whole_bounces).prog w) rfl (by decide) rfl ⟨rfl, by decide, by decide⟩ (by rfl) (fun w h Y => by first | exact PySem.W.km_in_of Y | exact PySem.W.kIn_of Y) ?F (fun _ _ _ _ _ h => Dn.cx_false h)
  case F =>
    intro w mg fa h Y KX G hmg own
    refine' (fun T : W23.Fx _ mg => Dn.law_at (m := fun base => W23.m_law (PySem.Challenge.rw_signsbykeys_k23_whole_bounces).prog w _ mg base) (N := W23.N_law) (sL := W23.s_law) KX G hmg own ?aL ?lk ?hcd ?lc ?l11 ?hd ?nP (fun s v => .of_eq rfl) (fun base kb gb tb lk hcd => W23.ok_law T lk hcd tb) (fun base zs hz => W23.plain T base zs hz)) (W23.mkFx KX G ?z_all ?z_any ?z_bool ?z_enumerate ?z_int ?z_isinstance ?z_len ?z_list ?z_max ?z_range ?z_tuple ?z_zip ?a_is_integer ?l_is_integer ?c_is_integer ?k_is_integer ?a_is_row ?l_is_row ?c_is_row ?k_is_row ?a_is_number ?l_is_number ?c_is_number ?k_is_number ?a_check_samples ?l_check_samples ?c_check_samples ?k_check_samples ?a_cleaned ?l_cleaned ?c_cleaned ?k_cleaned ?a_changes ?l_changes ?c_changes ?k_changes ?a_runs_of ?l_runs_of ?c_runs_of ?k_runs_of ?a_longest_noise ?l_longest_noise ?c_longest_noise ?k_longest_noise ?a_least_hold ?l_least_hold ?c_least_hold ?k_least_hold ?a_same_events ?l_same_events ?c_same_events ?k_same_events ?a_same_words ?l_same_words ?c_same_words ?k_same_words ?a_delays ?l_delays ?c_delays ?k_delays ?a_repeats ?l_repeats ?c_repeats ?k_repeats ?a_count_repeats ?l_count_repeats ?c_count_repeats ?k_count_repeats ?a_lengths_for ?l_lengths_for ?c_lengths_for ?k_lengths_for ?a_u_law_number ?l_u_law_number ?c_u_law_number ?k_u_law_number ?a_u_law_take ?l_u_law_take ?c_u_law_take ?k_u_law_take ?a_u_law_cleaned ?l_u_law_cleaned ?c_u_law_cleaned ?k_u_law_cleaned ?a_u_law_changes ?l_u_law_changes ?c_u_law_changes ?k_u_law_changes ?a_u_law_refused ?l_u_law_refused ?c_u_law_refused ?k_u_law_refused ?a_u_law_repeats_right ?l_u_law_repeats_right ?c_u_law_repeats_right ?k_u_law_repeats_right ?a_BadSamples ?e_BadSamples ?t_BadSamples ?ic_BadSamples ?k_BadSamples ?xL_BadSamples ?sa_BadSamples ?ga_BadSamples ?gg_BadSamples ?hd_BadSamples ?i_BadSamples ?ti_BadSamples ?li_BadSamples ?ci_BadSamples ?ki_BadSamples ?no_BadSamples_place ?a_BadHold ?e_BadHold ?t_BadHold ?ic_BadHold ?k_BadHold ?x_BadHold ?s_BadSamples_BadSamples ?s_BadSamples_BadHold ?s_BadHold_BadSamples ?s_BadHold_BadHold)
    (case z_all => k_is)
    (case z_any => k_is)
    (case z_bool => k_is)
    (case z_enumerate => k_is)
    (case z_int => k_is)
    (case z_isinstance => k_is)
    (case z_len => k_is)
    (case z_list => k_is)
    (case z_max => k_is)
    (case z_range => k_is)
    (case z_tuple => k_is)
    (case z_zip => k_is)
    (case a_is_integer => k_is)
    (case l_is_integer => k_is)
    (case c_is_integer => k_is)
    (case k_is_integer => k_is)
    (case a_is_row => k_is)
    (case l_is_row => k_is)
    (case c_is_row => k_is)
    (case k_is_row => k_is)
    (case a_is_number => k_is)
    (case l_is_number => k_is)
    (case c_is_number => k_is)
    (case k_is_number => k_is)
    (case a_check_samples => k_is)
    (case l_check_samples => k_is)
    (case c_check_samples => k_is)
    (case k_check_samples => k_is)
    (case a_cleaned => k_is)
    (case l_cleaned => k_is)
    (case c_cleaned => k_is)
    (case k_cleaned => k_is)
    (case a_changes => k_is)
    (case l_changes => k_is)
    (case c_changes => k_is)
    (case k_changes => k_is)
    (case a_runs_of => k_is)
    (case l_runs_of => k_is)
    (case c_runs_of => k_is)
    (case k_runs_of => k_is)
    (case a_longest_noise => k_is)
    (case l_longest_noise => k_is)
    (case c_longest_noise => k_is)
    (case k_longest_noise => k_is)
    (case a_least_hold => k_is)
    (case l_least_hold => k_is)
    (case c_least_hold => k_is)
    (case k_least_hold => k_is)
    (case a_same_events => k_is)
    (case l_same_events => k_is)
    (case c_same_events => k_is)
    (case k_same_events => k_is)
    (case a_same_words => k_is)
    (case l_same_words => k_is)
    (case c_same_words => k_is)
    (case k_same_words => k_is)
    (case a_delays => k_is)
    (case l_delays => k_is)
    (case c_delays => k_is)
    (case k_delays => k_is)
    (case a_repeats => k_is)
    (case l_repeats => k_is)
    (case c_repeats => k_is)
    (case k_repeats => k_is)
    (case a_count_repeats => k_is)
    (case l_count_repeats => k_is)
    (case c_count_repeats => k_is)
    (case k_count_repeats => k_is)
    (case a_lengths_for => k_is)
    (case l_lengths_for => k_is)
    (case c_lengths_for => k_is)
    (case k_lengths_for => k_is)
    (case a_u_law_number => k_is)
    (case l_u_law_number => k_is)
    (case c_u_law_number => k_is)
    (case k_u_law_number => k_is)
    (case a_u_law_take => k_is)
    (case l_u_law_take => k_is)
    (case c_u_law_take => k_is)
    (case k_u_law_take => k_is)
    (case a_u_law_cleaned => k_is)
    (case l_u_law_cleaned => k_is)
    (case c_u_law_cleaned => k_is)
    (case k_u_law_cleaned => k_is)
    (case a_u_law_changes => k_is)
    (case l_u_law_changes => k_is)
    (case c_u_law_changes => k_is)
    (case k_u_law_changes => k_is)
    (case a_u_law_refused => k_is)
    (case l_u_law_refused => k_is)
    (case c_u_law_refused => k_is)
    (case k_u_law_refused => k_is)
    (case a_u_law_repeats_right => k_is)
    (case l_u_law_repeats_right => k_is)
    (case c_u_law_repeats_right => k_is)
    (case k_u_law_repeats_right => k_is)
    (case a_BadSamples => k_is)
    (case e_BadSamples => k_is)
    (case t_BadSamples => k_is)
    (case ic_BadSamples => k_is)
    (case k_BadSamples => k_is)
    (case xL_BadSamples => k_is)
    (case sa_BadSamples => k_is)
    (case ga_BadSamples => k_is)
    (case gg_BadSamples => k_is)
    (case hd_BadSamples => k_is)
    (case i_BadSamples => k_is)
    (case ti_BadSamples => k_is)
    (case li_BadSamples => k_is)
    (case ci_BadSamples => k_is)
    (case ki_BadSamples => k_is)
    (case no_BadSamples_place => k_is)
    (case a_BadHold => k_is)
    (case e_BadHold => k_is)
    (case t_BadHold => k_is)
    (case ic_BadHold => k_is)
    (case k_BadHold => k_is)
    (case x_BadHold => k_exc)
    (case s_BadSamples_BadSamples => first | rfl | k_is)
    (case s_BadSamples_BadHold => first | rfl | k_is)
    (case s_BadHold_BadSamples => first | rfl | k_is)
    (case s_BadHold_BadHold => first | rfl | k_is)
    (case aL => first | k_is | rfl)
    (case lk => first | k_is | rfl)
    (case hcd => first | k_is | rfl)
    (case lc => first | k_is | rfl)
    (case l11 => first | k_is | rfl)
    (case hd => first | k_is | rfl)
    (case nP => first | k_is | rfl)
