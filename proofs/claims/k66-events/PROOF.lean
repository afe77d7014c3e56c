import PyProof.Rows.All
import Wide.All
import OpenK.AllK
import Wide.FinOn
import HandS.ForMost
import HandS.More
import HandS.TupAny
import HandS.Deep
import HandS.IsInst
import HandS.Zip
import HandS.CallLocal
import HandS.Flow
import KE.GoesNew
import HandS.Defaults
import KE.KStateDown
import Lean
import HandS.Head0
import HandS.Head1
import HandS.Head2
import HandS.HeadEnd
import HandS.HeadHook1
import HandS.HeadHook2
import HandS.HeadHook3
import PySem.Challenge.RW_forkyields_k66_events
set_option Elab.async false
set_option linter.all false
set_option maxRecDepth 100000
set_option maxHeartbeats 1000000
namespace Iq
open PySem L2

/-- plain data, as values -/
inductive D where
  | non | bl (b : Bool) | int (i : Int) | str (x : Str)
  | tup (xs : List D) | lst (xs : List D) | dic (kv : List (Key × D)) | fn (k : Nat)

/-- a slot: nothing known, shared data, an object that only this slot knows -/
inductive Sl where
  | no | shr (d : D) | own (io : Bool) (d : D)

/-- what an evaluation comes to -/
inductive R (α : Type) where
  | ok (a : α) | bad
def R.bind {α β : Type} (r : R α) (k : α → R β) : R β := match r with
  | .ok a => k a
  | .bad => .bad
@[simp] theorem R.bind_ok {α β : Type} (a : α) (k : α → R β) : (R.ok a).bind k = k a := rfl
@[simp] theorem R.bind_bad {α β : Type} (k : α → R β) : (R.bad : R α).bind k = .bad := rfl
theorem R.bind_is {α β : Type} {r : R α} {k : α → R β} {b : β} (h : r.bind k = .ok b) : ∃ a, r = .ok a ∧ k a = .ok b := by
  cases r with
  | ok a => exact ⟨a, rfl, h⟩
  | bad => cases h

/-- what is fixed through a law: the written part, the module's names, the defs' addresses -/
structure Zt where
  w : World
  K : PySem.W.Frag
  mg : Str → Option Value
  fa : Nat → Addr

abbrev Mu := Addr → Prop
def ins (M : Mu) (p : Addr) : Mu := fun a => M a ∨ a = p

def Tu (Z : Zt) (M : Mu) (H : Hp) (a : Addr) (vs : List V) : Prop :=
  (Rd H a (.tup vs) ∧ ¬ M a) ∨
    ∃ (o : Obj) (its : Array Value) (n : Nat), Z.K.lookup a = some o ∧ o.cls = .type "tuple" ∧ o.data = .seq its n ∧ its.size ≤ sizeLine ∧ Vals vs its.toList
def Li (Z : Zt) (M : Mu) (H : Hp) (a : Addr) (vs : List V) : Prop := Rd H a (.lst vs) ∧ ¬ M a
/-- a dict of the module's top -/
def Wd (Z : Zt) (a : Addr) (kvs : List (Key × V)) : Prop := ∃ es n, KDict Z.K Z.w a es n ∧ (∀ x : Str, ∃ r, PySem.W.nsIn Z.K a x = some r ∧ RelO (valV kvs (Sum.inr x)) r) ∧ ∃ x v r, kvs = (Sum.inr x, v) :: r
/-- a dict that is read -/
def Di (Z : Zt) (M : Mu) (H : Hp) (a : Addr) (kvs : List (Key × V)) : Prop := (H a = some (.dK kvs) ∧ ¬ M a) ∨ Wd Z a kvs

mutual
def Rep (Z : Zt) (M : Mu) (H : Hp) : D → V → Prop
  | .non, v => v = .non
  | .bl b, v => v = .bl b
  | .int i, v => v = .int i
  | .str x, v => v = .str x
  | .tup ds, v => ∃ a vs, v = .ref a ∧ Tu Z M H a vs ∧ RepL Z M H ds vs
  | .lst ds, v => ∃ a vs, v = .ref a ∧ Li Z M H a vs ∧ RepL Z M H ds vs
  | .dic kv, v => ∃ a kvs, v = .ref a ∧ Di Z M H a kvs ∧ RepK Z M H kv kvs
  | .fn k, v => v = .ref (Z.fa k)
def RepL (Z : Zt) (M : Mu) (H : Hp) : List D → List V → Prop
  | [], vs => vs = []
  | d :: ds, vs => ∃ v r, vs = v :: r ∧ Rep Z M H d v ∧ RepL Z M H ds r
def RepK (Z : Zt) (M : Mu) (H : Hp) : List (Key × D) → List (Key × V) → Prop
  | [], vs => vs = []
  | (k, d) :: ds, vs => ∃ v r, vs = (k, v) :: r ∧ Rep Z M H d v ∧ RepK Z M H ds r
end

/-- what no slot owns stays -/
def Evo (M : Mu) (H H' : Hp) : Prop := ∀ a o, ¬ M a → H a = some o → H' a = some o
theorem Evo.refl (M : Mu) (H : Hp) : Evo M H H := fun _ _ _ h => h
theorem Evo.trans {M : Mu} {H H1 H2 : Hp} (a : Evo M H H1) (b : Evo M H1 H2) : Evo M H H2 := fun x o n h => b x o n (a x o n h)
theorem Evo.new {M : Mu} {H : Hp} {p : Addr} {o : HO} (h : H p = none) : Evo M H (upd H p o) := fun a u _ e => by
  rw [upd_ne (ne_of_none e h)]; exact e
theorem Evo.less {M M' : Mu} {H H' : Hp} (e : Evo M H H') (h : ∀ a, M a → M' a) : Evo M' H H' := fun a o n q => e a o (fun z => n (h a z)) q
theorem Evo.fresh {M : Mu} {H H' : Hp} {p : Addr} (e : Evo M H H') (n : ¬ M p) (h : H' p = none) : H p = none := by
  cases q : H p with
  | none => rfl
  | some o => rw [e p o n q] at h; cases h

theorem Tu.evo {Z : Zt} {M : Mu} {H H' : Hp} {a : Addr} {vs : List V} (h : Tu Z M H a vs) (e : Evo M H H') : Tu Z M H' a vs := by
  rcases h with ⟨h | ⟨o, h⟩, n⟩ | h
  · exact .inl ⟨.inl (e a _ n h), n⟩
  · exact .inl ⟨.inr ⟨o, e a _ n h⟩, n⟩
  · exact .inr h
theorem Li.evo {Z : Zt} {M : Mu} {H H' : Hp} {a : Addr} {vs : List V} (h : Li Z M H a vs) (e : Evo M H H') : Li Z M H' a vs := by
  obtain ⟨h | ⟨o, h⟩, n⟩ := h
  · exact ⟨.inl (e a _ n h), n⟩
  · exact ⟨.inr ⟨o, e a _ n h⟩, n⟩
theorem Di.evo {Z : Zt} {M : Mu} {H H' : Hp} {a : Addr} {vs : List (Key × V)} (h : Di Z M H a vs) (e : Evo M H H') : Di Z M H' a vs := h.imp (fun h => ⟨e a _ h.2 h.1, h.2⟩) id
theorem Tu.ins {Z : Zt} {M : Mu} {H : Hp} {a p : Addr} {vs : List V} (h : Tu Z M H a vs) (e : H p = none) : Tu Z (ins M p) H a vs := by
  rcases h with ⟨h, n⟩ | h
  · refine .inl ⟨h, fun q => q.elim n fun z => ?_⟩
    subst z
    rcases h with h | ⟨o, h⟩ <;> (rw [e] at h; cases h)
  · exact .inr h
theorem Li.ins {Z : Zt} {M : Mu} {H : Hp} {a p : Addr} {vs : List V} (h : Li Z M H a vs) (e : H p = none) : Li Z (ins M p) H a vs := by
  obtain ⟨h, n⟩ := h
  refine ⟨h, fun q => q.elim n fun z => ?_⟩
  subst z
  rcases h with h | ⟨o, h⟩ <;> (rw [e] at h; cases h)
theorem Di.ins {Z : Zt} {M : Mu} {H : Hp} {a p : Addr} {vs : List (Key × V)} (h : Di Z M H a vs) (e : H p = none) : Di Z (ins M p) H a vs :=
  h.imp (fun h => ⟨h.1, fun q => q.elim h.2 fun z => by subst z; have := h.1; rw [e] at this; cases this⟩) id
theorem Tu.less {Z : Zt} {M M' : Mu} {H : Hp} {a : Addr} {vs : List V} (h : Tu Z M' H a vs) (m : ∀ a, M a → M' a) : Tu Z M H a vs := by
  rcases h with ⟨h, n⟩ | h
  · exact .inl ⟨h, fun q => n (m a q)⟩
  · exact .inr h
theorem Li.less {Z : Zt} {M M' : Mu} {H : Hp} {a : Addr} {vs : List V} (h : Li Z M' H a vs) (m : ∀ a, M a → M' a) : Li Z M H a vs := ⟨h.1, fun q => h.2 (m a q)⟩
theorem Di.less {Z : Zt} {M M' : Mu} {H : Hp} {a : Addr} {vs : List (Key × V)} (h : Di Z M' H a vs) (m : ∀ a, M a → M' a) : Di Z M H a vs := h.imp (fun h => ⟨h.1, fun q => h.2 (m a q)⟩) id
theorem Tu.sq {Z : Zt} {M : Mu} {H : Hp} {a : Addr} {vs : List V} (h : Tu Z M H a vs) : SqT Z.K H a vs := by
  rcases h with ⟨h, n⟩ | h
  · exact .inl h
  · exact .inr h
theorem Li.sq {Z : Zt} {M : Mu} {H : Hp} {a : Addr} {vs : List V} (h : Li Z M H a vs) : SqL Z.K H a vs := .inl h.1
theorem Tu.new {Z : Zt} {M : Mu} {H : Hp} {p : Addr} {vs : List V} (h : H p = some (.tup vs)) (n : ¬ M p) : Tu Z M H p vs := .inl ⟨.inl h, n⟩
theorem Li.new {Z : Zt} {M : Mu} {H : Hp} {p : Addr} {vs : List V} (h : H p = some (.lst vs)) (n : ¬ M p) : Li Z M H p vs := ⟨.inl h, n⟩

/-- one lemma for the three ways in which a representation is carried -/
structure Carry (Z : Zt) (M : Mu) (H : Hp) (M' : Mu) (H' : Hp) : Prop where
  tu : ∀ a vs, Tu Z M H a vs → Tu Z M' H' a vs
  li : ∀ a vs, Li Z M H a vs → Li Z M' H' a vs
  di : ∀ a vs, Di Z M H a vs → Di Z M' H' a vs
theorem Carry.evo {Z : Zt} {M : Mu} {H H' : Hp} (e : Evo M H H') : Carry Z M H M H' := ⟨fun _ _ h => h.evo e, fun _ _ h => h.evo e, fun _ _ h => h.evo e⟩
theorem Carry.ins {Z : Zt} {M : Mu} {H : Hp} {p : Addr} (e : H p = none) : Carry Z M H (ins M p) H := ⟨fun _ _ h => h.ins e, fun _ _ h => h.ins e, fun _ _ h => h.ins e⟩
theorem Carry.less {Z : Zt} {M M' : Mu} {H : Hp} (m : ∀ a, M a → M' a) : Carry Z M' H M H := ⟨fun _ _ h => h.less m, fun _ _ h => h.less m, fun _ _ h => h.less m⟩
theorem Carry.trans {Z : Zt} {M M1 M2 : Mu} {H H1 H2 : Hp} (a : Carry Z M H M1 H1) (b : Carry Z M1 H1 M2 H2) : Carry Z M H M2 H2 :=
  ⟨fun x v h => b.tu x v (a.tu x v h), fun x v h => b.li x v (a.li x v h), fun x v h => b.di x v (a.di x v h)⟩

mutual
theorem Rep.carry {Z : Zt} {M M' : Mu} {H H' : Hp} (c : Carry Z M H M' H') : ∀ (d : D) (v : V), Rep Z M H d v → Rep Z M' H' d v
  | .non, _, h => by simpa only [Rep] using h
  | .bl _, _, h => by simpa only [Rep] using h
  | .int _, _, h => by simpa only [Rep] using h
  | .str _, _, h => by simpa only [Rep] using h
  | .fn _, _, h => by simpa only [Rep] using h
  | .tup ds, v, h => by
    simp only [Rep] at h ⊢
    obtain ⟨a, vs, e, t, r⟩ := h
    exact ⟨a, vs, e, c.tu a vs t, RepL.carry c ds vs r⟩
  | .lst ds, v, h => by
    simp only [Rep] at h ⊢
    obtain ⟨a, vs, e, t, r⟩ := h
    exact ⟨a, vs, e, c.li a vs t, RepL.carry c ds vs r⟩
  | .dic kv, v, h => by
    simp only [Rep] at h ⊢
    obtain ⟨a, vs, e, t, r⟩ := h
    exact ⟨a, vs, e, c.di a vs t, RepK.carry c kv vs r⟩
theorem RepL.carry {Z : Zt} {M M' : Mu} {H H' : Hp} (c : Carry Z M H M' H') : ∀ (ds : List D) (vs : List V), RepL Z M H ds vs → RepL Z M' H' ds vs
  | [], _, h => by simpa only [RepL] using h
  | d :: ds, vs, h => by
    simp only [RepL] at h ⊢
    obtain ⟨v, r, e, p, q⟩ := h
    exact ⟨v, r, e, Rep.carry c d v p, RepL.carry c ds r q⟩
theorem RepK.carry {Z : Zt} {M M' : Mu} {H H' : Hp} (c : Carry Z M H M' H') : ∀ (ds : List (Key × D)) (vs : List (Key × V)), RepK Z M H ds vs → RepK Z M' H' ds vs
  | [], _, h => by simpa only [RepK] using h
  | (k, d) :: ds, vs, h => by
    simp only [RepK] at h ⊢
    obtain ⟨v, r, e, p, q⟩ := h
    exact ⟨v, r, e, Rep.carry c d v p, RepK.carry c ds r q⟩
end

theorem RepL.length {Z : Zt} {M : Mu} {H : Hp} : ∀ {ds : List D} {vs : List V}, RepL Z M H ds vs → ds.length = vs.length
  | [], _, h => by simp only [RepL] at h; subst h; rfl
  | d :: ds, vs, h => by
    simp only [RepL] at h
    obtain ⟨v, r, rfl, _, q⟩ := h
    simp [RepL.length q]
theorem RepL.get {Z : Zt} {M : Mu} {H : Hp} : ∀ {ds : List D} {vs : List V} {i : Nat} {d : D}, RepL Z M H ds vs → ds[i]? = some d → ∃ v, vs[i]? = some v ∧ Rep Z M H d v
  | [], _, i, d, _, e => by simp at e
  | d0 :: ds, vs, 0, d, h, e => by
    simp only [RepL] at h
    obtain ⟨v, r, rfl, p, q⟩ := h
    simp at e; subst e
    exact ⟨v, by simp, p⟩
  | d0 :: ds, vs, i + 1, d, h, e => by
    simp only [RepL] at h
    obtain ⟨v, r, rfl, p, q⟩ := h
    obtain ⟨v', e', p'⟩ := RepL.get (i := i) q (by simpa using e)
    exact ⟨v', by simpa using e', p'⟩
theorem RepL.get' {Z : Zt} {M : Mu} {H : Hp} : ∀ {ds : List D} {vs : List V} {i : Nat} {v : V}, RepL Z M H ds vs → vs[i]? = some v → ∃ d, ds[i]? = some d ∧ Rep Z M H d v
  | [], _, i, d, h, e => by simp only [RepL] at h; subst h; simp at e
  | d0 :: ds, vs, 0, v, h, e => by
    simp only [RepL] at h
    obtain ⟨v, r, rfl, p, q⟩ := h
    simp at e; subst e
    exact ⟨d0, by simp, p⟩
  | d0 :: ds, vs, i + 1, v, h, e => by
    simp only [RepL] at h
    obtain ⟨v, r, rfl, p, q⟩ := h
    obtain ⟨v', e', p'⟩ := RepL.get' (i := i) q (by simpa using e)
    exact ⟨v', by simpa using e', p'⟩
theorem RepL.append {Z : Zt} {M : Mu} {H : Hp} : ∀ {ds es : List D} {vs us : List V}, RepL Z M H ds vs → RepL Z M H es us → RepL Z M H (ds ++ es) (vs ++ us)
  | [], es, vs, us, h, q => by simp only [RepL] at h; subst h; simpa using q
  | d :: ds, es, vs, us, h, q => by
    simp only [RepL] at h
    obtain ⟨v, r, rfl, p, q'⟩ := h
    simp only [List.cons_append, RepL]
    exact ⟨v, r ++ us, rfl, p, RepL.append q' q⟩
theorem RepL.one {Z : Zt} {M : Mu} {H : Hp} {d : D} {v : V} (h : Rep Z M H d v) : RepL Z M H [d] [v] := by
  simp only [RepL]; exact ⟨v, [], rfl, h, rfl⟩
theorem RepL.take {Z : Zt} {M : Mu} {H : Hp} : ∀ {ds : List D} {vs : List V} (n : Nat), RepL Z M H ds vs → RepL Z M H (ds.take n) (vs.take n)
  | _, _, 0, _ => by simp [RepL]
  | [], _, n + 1, h => by simp only [RepL] at h; subst h; simp [RepL]
  | d :: ds, vs, n + 1, h => by
    simp only [RepL] at h
    obtain ⟨v, r, rfl, p, q⟩ := h
    simp only [List.take_succ_cons, RepL]
    exact ⟨v, r.take n, rfl, p, RepL.take n q⟩
theorem RepL.drop {Z : Zt} {M : Mu} {H : Hp} : ∀ {ds : List D} {vs : List V} (n : Nat), RepL Z M H ds vs → RepL Z M H (ds.drop n) (vs.drop n)
  | _, _, 0, h => by simpa using h
  | [], _, n + 1, h => by simp only [RepL] at h; subst h; simp [RepL]
  | d :: ds, vs, n + 1, h => by
    simp only [RepL] at h
    obtain ⟨v, r, rfl, p, q⟩ := h
    simp only [List.drop_succ_cons]
    exact RepL.drop n q
theorem RepL.set {Z : Zt} {M : Mu} {H : Hp} {d : D} {v : V} (hd : Rep Z M H d v) : ∀ {ds : List D} {vs : List V} (n : Nat), RepL Z M H ds vs → RepL Z M H (ds.set n d) (vs.set n v)
  | [], _, _, h => by simp only [RepL] at h; subst h; simp [RepL]
  | d0 :: ds, vs, 0, h => by
    simp only [RepL] at h
    obtain ⟨u, r, rfl, p, q⟩ := h
    simp only [List.set_cons_zero, RepL]
    exact ⟨v, r, rfl, hd, q⟩
  | d0 :: ds, vs, n + 1, h => by
    simp only [RepL] at h
    obtain ⟨u, r, rfl, p, q⟩ := h
    simp only [List.set_cons_succ, RepL]
    exact ⟨u, r.set n v, rfl, p, RepL.set hd n q⟩

/-- an object that one slot owns, at a -/
def Own (Z : Zt) (M : Mu) (H : Hp) (a : Addr) : D → Prop
  | .lst ds => ∃ vs, H a = some (.lst vs) ∧ RepL Z M H ds vs
  | .dic kv => ∃ kvs, H a = some (.dK kvs) ∧ RepK Z M H kv kvs
  | _ => False
theorem Own.there {Z : Zt} {M : Mu} {H : Hp} {a : Addr} : ∀ {d : D}, Own Z M H a d → ∃ o, H a = some o
  | .lst _, ⟨_, h, _⟩ => ⟨_, h⟩
  | .dic _, ⟨_, h, _⟩ => ⟨_, h⟩
theorem Own.mut {Z : Zt} {M : Mu} {H : Hp} {a : Addr} : ∀ {d : D}, Own Z M H a d → Mut (H a)
  | .lst _, ⟨_, h, _⟩ => by rw [h]; trivial
  | .dic _, ⟨_, h, _⟩ => by rw [h]; trivial
theorem Own.carry {Z : Zt} {M M' : Mu} {H H' : Hp} {a : Addr} (c : Carry Z M H M' H') (e : H' a = H a) : ∀ {d : D}, Own Z M H a d → Own Z M' H' a d
  | .lst _, ⟨vs, h, r⟩ => ⟨vs, e.trans h, RepL.carry c _ _ r⟩
  | .dic _, ⟨vs, h, r⟩ => ⟨vs, e.trans h, RepK.carry c _ _ r⟩
theorem Own.rep {Z : Zt} {M : Mu} {H : Hp} {a : Addr} (n : ¬ M a) : ∀ {d : D}, Own Z M H a d → Rep Z M H d (.ref a)
  | .lst _, ⟨vs, h, r⟩ => by simp only [Rep]; exact ⟨a, vs, rfl, Li.new h n, r⟩
  | .dic _, ⟨vs, h, r⟩ => by simp only [Rep]; exact ⟨a, vs, rfl, .inl ⟨h, n⟩, r⟩

/-- the frame of a body: the heap at its entry, what it may write of it, what its callers own, its first slots -/
structure Fm where
  H0 : Hp
  W : Mu
  M0 : Mu
  s0 : L2.St

/-- an owned object: the caller's, or one made here -/
def Src (F : Fm) (σ : L2.St) (i : Nat) (a : Addr) : Bool → Prop
  | true => F.W a ∧ σ[i]? = F.s0[i]?
  | false => F.H0 a = none

structure Sim (Z : Zt) (F : Fm) (M : Mu) (σ : L2.St) (ς : List Sl) (H : Hp) : Prop where
  len : σ.length = ς.length
  shr : ∀ (i : Nat) d, ς[i]? = some (.shr d) → ∃ v, σ[i]? = some (some v) ∧ Rep Z M H d v
  own : ∀ (i : Nat) b d, ς[i]? = some (.own b d) → ∃ a, σ[i]? = some (some (.ref a)) ∧ M a ∧ Src F σ i a b ∧ Own Z M H a d
  sep : ∀ (i j : Nat) b d c e a, i ≠ j → ς[i]? = some (.own b d) → ς[j]? = some (.own c e) → σ[i]? = some (some (.ref a)) → σ[j]? ≠ some (some (.ref a))
  old : ∀ a o, F.H0 a = some o → ¬ F.W a → H a = some o
  dom : ∀ a, M a → ∃ o, H a = some o
  sup : ∀ a, F.M0 a → M a
  wm : ∀ a, F.W a → F.M0 a
  dm0 : ∀ a, F.M0 a → ∃ o, F.H0 a = some o

section
variable {Z : Zt} {F : Fm} {M M' : Mu} {σ : L2.St} {ς : List Sl} {H H' : Hp} {p : Addr} {o : HO}
theorem Sim.nM (S : Sim Z F M σ ς H) (h : H p = none) : ¬ M p := fun q => by
  obtain ⟨o, e⟩ := S.dom p q
  rw [h] at e; cases e
theorem Sim.n0 (S : Sim Z F M σ ς H) (h : H p = none) : F.H0 p = none := by
  cases q : F.H0 p with
  | none => rfl
  | some o =>
    by_cases w : F.W p
    · exact absurd (S.sup p (S.wm p w)) (S.nM h)
    · rw [S.old p o q w] at h; cases h
/-- the heap goes on, no owned object changes -/
theorem Sim.go (S : Sim Z F M σ ς H) (c : Carry Z M H M' H') (m : ∀ a, M a → M' a) (e : ∀ a o, H a = some o → H' a = some o) (d : ∀ a, M' a → ∃ o, H' a = some o) : Sim Z F M' σ ς H' :=
  ⟨S.len, fun i d h => let ⟨v, h1, h2⟩ := S.shr i d h; ⟨v, h1, Rep.carry c _ _ h2⟩,
    fun i b d h => let ⟨a, h1, h2, h3, h4⟩ := S.own i b d h; ⟨a, h1, m a h2, h3, h4.carry c (let ⟨o, q⟩ := h4.there; (e a o q).trans q.symm)⟩,
    S.sep, fun a o h n => e a o (S.old a o h n), d, fun a h => m a (S.sup a h), S.wm, S.dm0⟩
theorem up_new (h : H p = none) : ∀ a u, H a = some u → upd H p o a = some u := fun a u q => by rw [upd_ne (ne_of_none q h)]; exact q
/-- a new object laid, not owned -/
theorem Sim.new (S : Sim Z F M σ ς H) (h : H p = none) : Sim Z F M σ ς (upd H p o) :=
  S.go (.evo (Evo.new h)) (fun _ q => q) (up_new h) fun a q => let ⟨u, e⟩ := S.dom a q; ⟨u, up_new h a u e⟩
/-- a new object laid, to be owned -/
theorem Sim.newM (S : Sim Z F M σ ς H) (h : H p = none) : Sim Z F (ins M p) σ ς (upd H p o) :=
  S.go (Carry.trans (.ins h) (.evo (Evo.new h))) (fun _ q => .inl q) (up_new h) fun a q => q.elim (fun q => let ⟨u, e⟩ := S.dom a q; ⟨u, up_new h a u e⟩) fun q => ⟨o, by rw [q]; exact upd_same⟩
end
end Iq
set_option Elab.async false
set_option linter.all false
set_option maxRecDepth 100000
set_option maxHeartbeats 1000000
namespace Iq
open PySem L2

/-- a target: a name, a tuple of names -/
inductive Tg where
  | nm (i : Nat) | tp (is : List Nat)
/-- what is walked -/
inductive Ik where
  | seq | rng | rng2 | zip | enu
/-- a built-in of one argument -/
inductive Bi where
  | len | int | list | tuple | all | any
/-- a built-in type, asked by isinstance -/
inductive Ty where
  | int | bool | str | tuple | list
  deriving DecidableEq

mutual
inductive Ex where
  | var (i : Nat) | con (d : D) | glo (j : Nat) | fnv (k : Nat)
  | tup (es : List Ex) | lst (es : List Ex) | dct (ks : List Str) (es : List Ex)
  | neg (a : Ex) | nt (a : Ex) | and (a b : Ex) | or (a b : Ex) | ite (c : Tx) (a b : Ex)
  | bin (op : Operator) (a b : Ex) | cmp (op : CmpOp) (a b : Ex) | chn (o1 o2 : CmpOp) (a b c : Ex)
  | idx (a b : Ex) | sli (a : Ex) (lo hi : Option Ex)
  | call (k : Nat) (es : List Ex) | calv (i : Nat) (es : List Ex)
  | bi (f : Bi) (a : Ex) | isi (a : Ex) (ts : List Ty) | join (s : Str) (b : Ex)
  | comp (e : Ex) (t : Tg) (k : Ik) (ss : List Ex) (c : Option Tx)
/-- a test -/
inductive Tx where
  | at (e : Ex) | nt (a : Tx) | and (a b : Tx) | or (a b : Tx)
end

inductive Sm where
  | exp (e : Ex) | asg (i : Nat) (e : Ex) | asgT (is : List Nat) (e : Ex) | par (i j : Nat) (a b : Ex) | star (i j : Nat) (e : Ex)
  | set (i : Nat) (a b : Ex) | app (i : Nat) (e : Ex) | ext (i : Nat) (e : Ex)
  | ife (c : Tx) (p q : List Sm) | loop (t : Tg) (k : Ik) (ss : List Ex) (p : List Sm)
  | whl (n : Nat) (c : Tx) (p : List Sm)
  | ret (e : Ex) | retN | brk | cnt | pas | nev

/-- a slot's state: own io d: io tells an object of the caller's -/
inductive Fl where
  | nx | bk | ct | rt (d : D) (fr : Bool)

/-! ### operations on data -/
def truth : D → R Bool
  | .non => .ok false
  | .bl b => .ok b
  | .int i => .ok (i != 0)
  | .str x => if x.length ≤ sizeLine then .ok ((x.length : Int) != 0) else .bad
  | .tup xs => .ok (!xs.isEmpty)
  | .lst xs => .ok (!xs.isEmpty)
  | .dic _ => .bad
  | .fn _ => .bad

mutual
def D.py : D → Option PyData
  | .non => some .none
  | .bl b => some (.bool b)
  | .int i => some (.int i)
  | .str x => some (.str x)
  | .tup xs => (D.pyL xs).map .tuple
  | .lst xs => (D.pyL xs).map .list
  | .dic _ => none
  | .fn _ => none
def D.pyL : List D → Option (List PyData)
  | [] => some []
  | d :: ds => match d.py, D.pyL ds with
    | some a, some r => some (a :: r)
    | _, _ => none
end
/-- == -/
def eqD (x y : D) : R Bool := match x.py, y.py with
  | some a, some b => if SeqAt.shaped a && SeqAt.shaped b then .ok (PyData.eqv a b) else .bad
  | _, _ => .bad

def flat : D → Option V
  | .non => some .non
  | .bl b => some (.bl b)
  | .int i => some (.int i)
  | .str x => some (.str x)
  | _ => none
def flats : List D → Option (List V)
  | [] => some []
  | d :: ds => match flat d, flats ds with
    | some a, some r => some (a :: r)
    | _, _ => none
/-- x in ys -/
def inSeq (x : D) (ys : List D) : R Bool := match flat x, flats ys with
  | some a, some r => .ok (inV a r)
  | _, _ => .bad
def keyOf : D → Option Key
  | .int i => some (.inl i)
  | .str x => some (.inr x)
  | _ => none
def valD (kv : List (Key × D)) (k : Key) : Option D := (kv.find? fun p => decide (p.1 = k)).map (·.2)
/-- a number is asked of a dict with numbers as keys alone -/
def keyFit (kv : List (Key × D)) : Key → Bool
  | .inl _ => kv.all fun p => p.1.isLeft
  | .inr _ => true
def inD (x y : D) : R Bool := match y with
  | .tup ys => inSeq x ys
  | .lst ys => inSeq x ys
  | .str z => match x with
    | .str a => .ok (!(Builtin.Str.occurrences z a 0 z.length 1).isEmpty)
    | _ => .bad
  | .dic kv => match keyOf x with
    | some k => bif keyFit kv k then .ok (valD kv k).isSome else .bad
    | none => .bad
  | _ => .bad
def notR : R Bool → R Bool
  | .ok b => .ok (!b)
  | .bad => .bad
def ltD (x y : D) : R Bool := match x, y with
  | .int i, .int j => .ok (decide (i < j))
  | .str a, .str b => .ok (decide (a.cps.toList < b.cps.toList))
  | _, _ => .bad
def leI (x y : D) : R Bool := match x, y with
  | .int i, .int j => .ok (decide (i ≤ j))
  | _, _ => .bad
def isN (x y : D) : R Bool := match y with
  | .non => match x with
    | .non => .ok true
    | _ => .ok false
  | _ => .bad
def cmpD (op : CmpOp) (x y : D) : R Bool := match op with
  | .Eq => eqD x y
  | .NotEq => notR (eqD x y)
  | .Lt => ltD x y
  | .LtE => leI x y
  | .Gt => match x, y with
    | .int i, .int j => .ok (decide (j < i))
    | _, _ => .bad
  | .GtE => match x, y with
    | .int i, .int j => .ok (decide (j ≤ i))
    | _, _ => .bad
  | .In => inD x y
  | .NotIn => notR (inD x y)
  | .Is => isN x y
  | .IsNot => notR (isN x y)

/-- value, and whether its object is new -/
abbrev O := R (D × Bool)
def binD (op : Operator) (x y : D) : O := match op, x, y with
  | .Add, .int i, .int j => .ok (.int (i + j), false)
  | .Add, .str a, .str b => if a.length + b.length ≤ sizeLine then .ok (.str (a ++ b), false) else .bad
  | .Add, .tup a, .tup b => if a.length + b.length ≤ sizeLine then .ok (.tup (a ++ b), false) else .bad
  | .Add, .lst a, .lst b => if a.length + b.length ≤ sizeLine then .ok (.lst (a ++ b), true) else .bad
  | .Sub, .int i, .int j => .ok (.int (i - j), false)
  | .Mult, .int i, .int j => if (-(2 ^ 64) < i && i < 2 ^ 64) || (-(2 ^ 64) < j && j < 2 ^ 64) then .ok (.int (i * j), false) else .bad
  | .Mult, .str a, .int j => if 0 ≤ j ∧ j ≤ 1000 ∧ a.length ≤ 1000 then .ok (.str (Txt.mul a j), false) else .bad
  | .FloorDiv, .int i, .int j => if 0 < j ∧ j < 1073741824 then .ok (.int (i / j), false) else .bad
  | .Mod, .int i, .int j => if 0 < j then .ok (.int (i % j), false) else .bad
  | .Pow, .int i, .int j => if 0 ≤ j ∧ j ≤ 1000000 ∧ i.natAbs < 2 ^ 64 then .ok (.int (i ^ j.toNat), false) else .bad
  | _, _, _ => .bad
def idxD (x y : D) : R D := match x, y with
  | .tup a, .int i => match atI a i with
    | some d => .ok d
    | none => .bad
  | .lst a, .int i => match atI a i with
    | some d => .ok d
    | none => .bad
  | .str z, .int i => if z.length ≤ sizeLine then match atI z.cps.toList i with
    | some c => .ok (.str ⟨#[c]⟩)
    | none => .bad else .bad
  | .dic kv, k => match keyOf k with
    | some k => bif keyFit kv k then match valD kv k with
      | some d => .ok d
      | none => .bad else .bad
    | none => .bad
  | _, _ => .bad
def cutL {α : Type} (xs : List α) (lo hi : Option Int) : List α := (xs.drop (HT.sIx xs.length 0 lo)).take (HT.sIx xs.length xs.length hi - HT.sIx xs.length 0 lo)
def sliD (x : D) (lo hi : Option Int) : O := match x with
  | .tup a => .ok (.tup (cutL a lo hi), false)
  | .lst a => .ok (.lst (cutL a lo hi), true)
  | .str z => if z.length ≤ sizeLine then .ok (.str (cutS z lo hi), false) else .bad
  | _ => .bad
def bls : List D → Option (List Bool)
  | [] => some []
  | .bl b :: ds => (bls ds).map (b :: ·)
  | _ :: _ => none
def biD (f : Bi) (x : D) : O := match f, x with
  | .len, .str z => if z.length ≤ sizeLine then .ok (.int z.length, false) else .bad
  | .len, .tup a => .ok (.int a.length, false)
  | .len, .lst a => .ok (.int a.length, false)
  | .int, .int i => .ok (.int i, false)
  | .int, .bl k => .ok (.int (if k then 1 else 0), false)
  | .list, .tup a => .ok (.lst a, true)
  | .list, .lst a => .ok (.lst a, true)
  | .tuple, .tup a => .ok (.tup a, false)
  | .tuple, .lst a => .ok (.tup a, false)
  | .all, .lst a => match bls a with
    | some bs => .ok (.bl (bs.all id), false)
    | none => .bad
  | .any, .lst a => match bls a with
    | some bs => .ok (.bl (bs.any id), false)
    | none => .bad
  | _, _ => .bad
def isTy : D → Ty → Option Bool
  | .non, _ => some false
  | .bl _, .int => some true
  | .bl _, .bool => some true
  | .bl _, _ => some false
  | .int _, t => some (t == .int)
  | .str _, t => some (t == .str)
  | .tup _, t => some (t == .tuple)
  | .lst _, t => some (t == .list)
  | .dic _, _ => some false
  | .fn _, _ => none
def isTys (x : D) : List Ty → Option Bool
  | [] => some false
  | t :: ts => match isTy x t, isTys x ts with
    | some a, some b => some (a || b)
    | _, _ => none
def strL : List D → Option (List Str)
  | [] => some []
  | .str x :: ds => (strL ds).map (x :: ·)
  | _ :: _ => none
/-- what a walk gives, item by item -/
def chars (z : Str) : List D := z.cps.toList.map fun c => .str ⟨#[c]⟩
def upTo (lo : Int) (n : Nat) : List D := (List.range n).map fun i => .int (lo + (i : Nat))
def zipD : List D → List D → List D
  | a :: as, b :: bs => .tup [a, b] :: zipD as bs
  | _, _ => []
def enuD : Nat → List D → List D
  | _, [] => []
  | n, a :: as => .tup [.int (n : Nat), a] :: enuD (n + 1) as
def walk (k : Ik) (ds : List D) : R (List D) := match k, ds with
  | .seq, [.lst a] => .ok a
  | .seq, [.tup a] => .ok a
  | .seq, [.str z] => if z.length ≤ sizeLine then .ok (chars z) else .bad
  | .rng, [.int j] => if -1000 ≤ j ∧ j ≤ 16777216 then .ok (upTo 0 j.toNat) else .bad
  | .rng2, [.int i, .int j] => if -1000 ≤ i ∧ i ≤ 10000000 ∧ -1000 ≤ j ∧ j ≤ 10000000 then .ok (upTo i (j - i).toNat) else .bad
  | .zip, [.lst a, .lst b] => .ok (zipD a b)
  | .zip, [.tup a, .tup b] => .ok (zipD a b)
  | .zip, [.tup a, .lst b] => .ok (zipD a b)
  | .enu, [.lst a] => .ok (enuD 0 a)
  | _, _ => .bad

/-! ### slots -/
/-- an operand: a value, or the slot that owns it -/
inductive Hd where
  | val (d : D) | sl (i : Nat)
def deref (ς : List Sl) : Hd → R D
  | .val d => .ok d
  | .sl i => match ς[i]? with
    | some (.own _ d) => .ok d
    | some (.shr d) => .ok d
    | _ => .bad
def hd (e : Ex) (f : List Sl → R (D × Bool × List Sl)) (ς : List Sl) : R (Hd × List Sl) := match e with
  | .var i => match ς[i]? with
    | some (.own _ _) => .ok (.sl i, ς)
    | some (.shr d) => .ok (.val d, ς)
    | _ => .bad
  | _ => (f ς).bind fun r => .ok (.val r.1, r.2.2)
def tgS : Tg → List Nat
  | .nm i => [i]
  | .tp is => is
def setAll : List Nat → List D → List Sl → R (List Sl)
  | [], [], ς => .ok ς
  | i :: is, d :: ds, ς => setAll is ds (ς.set i (.shr d))
  | _, _, _ => .bad
def bindT : Tg → D → List Sl → R (List Sl)
  | .nm i, d, ς => .ok (ς.set i (.shr d))
  | .tp is, .tup ds, ς => setAll is ds ς
  | _, _, _ => .bad
def wipeS (ς : List Sl) : List Nat → List Sl
  | [] => ς
  | i :: is => (wipeS ς is).set i .no
def isOwn (ς : List Sl) (i : Nat) : Bool := match ς[i]? with
  | some (.own _ _) => true
  | _ => false
def isOwnL (ς : List Sl) (i : Nat) : Bool := match ς[i]? with
  | some (.own _ (.lst _)) => true
  | _ => false
/-- the slots is as they were in ς0 -/
def backS (ς0 : List Sl) : List Nat → List Sl → List Sl
  | [], ς => ς
  | i :: is, ς => backS ς0 is (ς.set i (ς0.getD i .no))
def lcGo (tst : List Sl → R (Bool × List Sl)) (el : List Sl → R (D × Bool × List Sl)) (t : Tg) : List D → List Sl → R (List D × List Sl)
  | [], ς => .ok ([], ς)
  | x :: xs, ς => (bindT t x (wipeS ς (tgS t))).bind fun ς1 => (tst ς1).bind fun r => bif r.1 then (el r.2).bind fun q => (lcGo tst el t xs q.2.2).bind fun z => .ok (q.1 :: z.1, z.2) else lcGo tst el t xs r.2
def argS (ς : List Sl) : Hd → R Sl
  | .val d => .ok (.shr d)
  | .sl i => match ς[i]? with
    | some (.own _ d) => .ok (.own true d)
    | _ => .bad
def argsS (ς : List Sl) : List Hd → R (List Sl)
  | [] => .ok []
  | h :: hs => (argS ς h).bind fun a => (argsS ς hs).bind fun r => .ok (a :: r)
def hdS : List Hd → List Nat
  | [] => []
  | .val _ :: hs => hdS hs
  | .sl i :: hs => i :: hdS hs
def setOwn (ς : List Sl) (i : Nat) (d : D) : List Sl := match ς[i]? with
  | some (.own b _) => ς.set i (.own b d)
  | _ => ς
def putOuts : List Nat → List D → List Sl → R (List Sl)
  | [], [], ς => .ok ς
  | i :: is, d :: ds, ς => putOuts is ds (setOwn ς i d)
  | _, _, _ => .bad
/-- the program around a body: constants, which parameters are the caller's objects, the defs -/
structure Pr where
  cs : List D
  io : Nat → List Bool
  fn : Nat → List Sl → R (D × Bool × List D)
def callG (P : Pr) (k : Nat) (hs : List Hd) (ς : List Sl) : R (D × Bool × List Sl) :=
  if (hdS hs).Nodup then (argsS ς hs).bind fun as => (P.fn k as).bind fun r => (putOuts (hdS hs) r.2.2 ς).bind fun ς' => .ok (r.1, r.2.1, ς') else .bad
def intOf : D → R Int
  | .int i => .ok i
  | _ => .bad
def joinD (s : Str) (b : D) : R D := match b with
  | .lst xs => match strL xs with
    | some ys => if ys.length * s.length + (ys.map Str.length).sum ≤ 100000 then .ok (.str (Txt.join s ys)) else .bad
    | none => .bad
  | _ => .bad

mutual
def evE (P : Pr) : Ex → List Sl → R (D × Bool × List Sl)
  | .var i, ς => match ς[i]? with
    | some (.shr d) => .ok (d, false, ς)
    | some (.own false d) => .ok (d, false, ς.set i (.shr d))
    | _ => .bad
  | .con d, ς => .ok (d, false, ς)
  | .glo j, ς => match P.cs[j]? with
    | some d => .ok (d, false, ς)
    | none => .bad
  | .fnv k, ς => .ok (.fn k, false, ς)
  | .tup es, ς => (evL P es ς).bind fun r => .ok (.tup r.1, false, r.2)
  | .lst es, ς => (evL P es ς).bind fun r => .ok (.lst r.1, true, r.2)
  | .dct ks es, ς => (evL P es ς).bind fun r => .ok (.dic ((ks.map Sum.inr).zip r.1), true, r.2)
  | .neg a, ς => (hd a (evE P a) ς).bind fun h => (deref h.2 h.1).bind fun d => (intOf d).bind fun i => .ok (.int (-i), false, h.2)
  | .nt a, ς => (hd a (evE P a) ς).bind fun h => (deref h.2 h.1).bind fun d => (truth d).bind fun b => .ok (.bl (!b), false, h.2)
  | .and a b, ς => (evE P a ς).bind fun r => (truth r.1).bind fun t => bif t then evE P b r.2.2 else .ok (r.1, false, r.2.2)
  | .or a b, ς => (evE P a ς).bind fun r => (truth r.1).bind fun t => bif t then .ok (r.1, false, r.2.2) else evE P b r.2.2
  | .ite c a b, ς => (evT P c ς).bind fun t => bif t.1 then evE P a t.2 else evE P b t.2
  | .bin op a b, ς => (hd a (evE P a) ς).bind fun h => (hd b (evE P b) h.2).bind fun g => (deref g.2 h.1).bind fun x => (deref g.2 g.1).bind fun y => (binD op x y).bind fun o => .ok (o.1, o.2, g.2)
  | .cmp op a b, ς => (hd a (evE P a) ς).bind fun h => (hd b (evE P b) h.2).bind fun g => (deref g.2 h.1).bind fun x => (deref g.2 g.1).bind fun y => (cmpD op x y).bind fun t => .ok (.bl t, false, g.2)
  | .chn o1 o2 a b c, ς => (hd a (evE P a) ς).bind fun h => (hd b (evE P b) h.2).bind fun g => (deref g.2 h.1).bind fun x => (deref g.2 g.1).bind fun y => (cmpD o1 x y).bind fun t =>
      bif t then (hd c (evE P c) g.2).bind fun f => (deref f.2 g.1).bind fun y2 => (deref f.2 f.1).bind fun z => (cmpD o2 y2 z).bind fun t2 => .ok (.bl t2, false, f.2) else .ok (.bl false, false, g.2)
  | .idx a b, ς => (hd a (evE P a) ς).bind fun h => (hd b (evE P b) h.2).bind fun g => (deref g.2 h.1).bind fun x => (deref g.2 g.1).bind fun y => (idxD x y).bind fun d => .ok (d, false, g.2)
  | .sli a lo hi, ς => (hd a (evE P a) ς).bind fun h => (evO P lo h.2).bind fun l => (evO P hi l.2).bind fun u => (deref u.2 h.1).bind fun x => (sliD x l.1 u.1).bind fun o => .ok (o.1, o.2, u.2)
  | .call k es, ς => (evA P es (P.io k) ς).bind fun r => callG P k r.1 r.2
  | .calv i es, ς => match ς[i]? with
    | some (.shr (.fn k)) => if (P.io k).all (! ·) then (evA P es [] ς).bind fun r => callG P k r.1 r.2 else .bad
    | _ => .bad
  | .bi f a, ς => (hd a (evE P a) ς).bind fun h => (deref h.2 h.1).bind fun d => (biD f d).bind fun o => .ok (o.1, o.2, h.2)
  | .isi a ts, ς => (hd a (evE P a) ς).bind fun h => (deref h.2 h.1).bind fun d => match isTys d ts with
    | some b => .ok (.bl b, false, h.2)
    | none => .bad
  | .join s b, ς => (hd b (evE P b) ς).bind fun g => (deref g.2 g.1).bind fun y => (joinD s y).bind fun d => .ok (d, false, g.2)
  | .comp e t k ss c, ς => (evL P ss ς).bind fun r => (walk k r.1).bind fun xs => bif (tgS t).any (isOwn r.2) then .bad else (lcGo (evQ P c) (evE P e) t xs r.2).bind fun z => .ok (.lst z.1, true, backS r.2 (tgS t) z.2)
def evL (P : Pr) : List Ex → List Sl → R (List D × List Sl)
  | [], ς => .ok ([], ς)
  | e :: es, ς => (evE P e ς).bind fun r => (evL P es r.2.2).bind fun q => .ok (r.1 :: q.1, q.2)
def evA (P : Pr) : List Ex → List Bool → List Sl → R (List Hd × List Sl)
  | [], _, ς => .ok ([], ς)
  | e :: es, true :: io, ς => (hd e (evE P e) ς).bind fun h => match h.1 with
    | .sl i => (evA P es io h.2).bind fun q => .ok (.sl i :: q.1, q.2)
    | .val _ => .bad
  | e :: es, io, ς => (evE P e ς).bind fun r => (evA P es io.tail r.2.2).bind fun q => .ok (.val r.1 :: q.1, q.2)
def evO (P : Pr) : Option Ex → List Sl → R (Option Int × List Sl)
  | none, ς => .ok (none, ς)
  | some e, ς => (hd e (evE P e) ς).bind fun h => (deref h.2 h.1).bind fun d => (intOf d).bind fun i => .ok (some i, h.2)
def evQ (P : Pr) : Option Tx → List Sl → R (Bool × List Sl)
  | none, ς => .ok (true, ς)
  | some e, ς => evT P e ς
def evT (P : Pr) : Tx → List Sl → R (Bool × List Sl)
  | .at e, ς => (hd e (evE P e) ς).bind fun h => (deref h.2 h.1).bind fun d => (truth d).bind fun b => .ok (b, h.2)
  | .nt a, ς => (evT P a ς).bind fun r => .ok (!r.1, r.2)
  | .and a b, ς => (evT P a ς).bind fun r => bif r.1 then evT P b r.2 else .ok (false, r.2)
  | .or a b, ς => (evT P a ς).bind fun r => bif r.1 then .ok (true, r.2) else evT P b r.2
end

def forGo (t : Tg) (body : List Sl → R (Fl × List Sl)) : List D → List Sl → R (Fl × List Sl)
  | [], ς => .ok (.nx, ς)
  | x :: xs, ς => (bindT t x ς).bind fun ς1 => (body ς1).bind fun r => match r.1 with
    | .nx => forGo t body xs r.2
    | .ct => forGo t body xs r.2
    | .bk => .ok (.nx, r.2)
    | .rt d fr => .ok (.rt d fr, r.2)
def whGo (tst : List Sl → R (Bool × List Sl)) (body : List Sl → R (Fl × List Sl)) : Nat → List Sl → R (Fl × List Sl)
  | 0, _ => .bad
  | n + 1, ς => (tst ς).bind fun b => bif b.1 then (body b.2).bind fun r => match r.1 with
    | .nx => whGo tst body n r.2
    | .ct => whGo tst body n r.2
    | .bk => .ok (.nx, r.2)
    | .rt d fr => .ok (.rt d fr, r.2) else .ok (.nx, b.2)
def valPut (kv : List (Key × D)) (k : Key) (d : D) : List (Key × D) := if (valD kv k).isSome then kv.map fun p => if p.1 = k then (p.1, d) else p else kv ++ [(k, d)]
def setD (o k v : D) : R D := match o with
  | .lst a => match k with
    | .int i => match ixN a.length i with
      | some j => .ok (.lst (a.set j v))
      | none => .bad
    | _ => .bad
  | .dic kv => match keyOf k with
    | some k => if kv.length < sizeLine then .ok (.dic (valPut kv k v)) else .bad
    | none => .bad
  | _ => .bad
def setSl (ς : List Sl) (i : Nat) (f : D → R D) : R (List Sl) := match ς[i]? with
  | some (.own b d) => (f d).bind fun d' => .ok (ς.set i (.own b d'))
  | _ => .bad
def addD (x : D) : D → R D
  | .lst a => if a.length < sizeLine then .ok (.lst (a ++ [x])) else .bad
  | _ => .bad
def extD (xs : List D) : D → R D
  | .lst a => if a.length + xs.length ≤ sizeLine then .ok (.lst (a ++ xs)) else .bad
  | _ => .bad
def extG (d : D) (fr : Bool) (ς : List Sl) (i : Nat) : R (List Sl) := match d, fr with
  | .lst xs, true => setSl ς i (extD xs)
  | _, _ => .bad
mutual
def evS (P : Pr) : Sm → List Sl → R (Fl × List Sl)
  | .exp e, ς => (evE P e ς).bind fun r => .ok (.nx, r.2.2)
  | .asg i e, ς => (evE P e ς).bind fun r => .ok (.nx, r.2.2.set i (bif r.2.1 then .own false r.1 else .shr r.1))
  | .asgT is e, ς => (evE P e ς).bind fun r => (bindT (.tp is) r.1 r.2.2).bind fun ς' => .ok (.nx, ς')
  | .par i j a b, ς => (evL P [a, b] ς).bind fun r => (setAll [i, j] r.1 r.2).bind fun ς' => .ok (.nx, ς')
  | .star i j e, ς => (evE P e ς).bind fun r => match r.1 with
    | .tup (x :: xs) => .ok (.nx, (r.2.2.set i (.shr x)).set j (.own false (.lst xs)))
    | _ => .bad
  | .set i a b, ς => (evE P b ς).bind fun r => bif isOwn r.2.2 i then (hd a (evE P a) r.2.2).bind fun h => (deref h.2 h.1).bind fun k => (setSl h.2 i fun o => setD o k r.1).bind fun ς' => .ok (.nx, ς') else .bad
  | .app i e, ς => bif isOwnL ς i then (evE P e ς).bind fun r => (setSl r.2.2 i (addD r.1)).bind fun ς' => .ok (.nx, ς') else .bad
  | .ext i e, ς => bif isOwnL ς i then (evE P e ς).bind fun r => (extG r.1 r.2.1 r.2.2 i).bind fun ς' => .ok (.nx, ς') else .bad
  | .ife c p q, ς => (evT P c ς).bind fun r => bif r.1 then evB P p r.2 else evB P q r.2
  | .loop t k ss p, ς => (evL P ss ς).bind fun r => (walk k r.1).bind fun xs => forGo t (evB P p) xs r.2
  | .whl n c p, ς => whGo (evT P c) (evB P p) n ς
  | .ret (.var i), ς => match ς[i]? with
    | some (.shr d) => .ok (.rt d false, ς)
    | some (.own false d) => .ok (.rt d true, ς)
    | _ => .bad
  | .ret e, ς => (evE P e ς).bind fun r => .ok (.rt r.1 r.2.1, r.2.2)
  | .retN, ς => .ok (.rt .non false, ς)
  | .brk, ς => .ok (.bk, ς)
  | .cnt, ς => .ok (.ct, ς)
  | .pas, ς => .ok (.nx, ς)
  | .nev, _ => .bad
def evB (P : Pr) : List Sm → List Sl → R (Fl × List Sl)
  | [], ς => .ok (.nx, ς)
  | s :: ss, ς => (evS P s ς).bind fun r => match r.1 with
    | .nx => evB P ss r.2
    | _ => .ok r
end
/-- a def: how many parameters, how many slots, which parameters are the caller's objects, its body -/
structure Fn where
  np : Nat
  nl : Nat
  io : List Bool
  body : List Sm
def outs (ς : List Sl) : Nat → List Bool → R (List D)
  | _, [] => .ok []
  | i, b :: bs => bif b then match ς[i]? with
    | some (.own true d) => (outs ς (i + 1) bs).bind fun r => .ok (d :: r)
    | _ => .bad else outs ς (i + 1) bs
def ioFit : List Bool → List Sl → Bool
  | _, [] => true
  | true :: io, .own true _ :: r => ioFit io r
  | true :: _, _ => false
  | io, .shr _ :: r => ioFit io.tail r
  | _, _ => false
def run (P : Pr) (f : Fn) (as : List Sl) : R (D × Bool × List D) :=
  if as.length = f.np ∧ f.np ≤ f.nl ∧ f.io.length ≤ f.np ∧ ioFit f.io as = true then (evB P f.body (as ++ List.replicate (f.nl - f.np) .no)).bind fun r => (outs r.2 0 f.io).bind fun o => match r.1 with
    | .rt d fr => .ok (d, fr, o)
    | .nx => .ok (.non, false, o)
    | _ => .bad else .bad
def callN (fs : List Fn) (cs : List D) : Nat → Nat → List Sl → R (D × Bool × List D)
  | 0, _, _ => .bad
  | n + 1, k, as => match fs[k]? with
    | some f => run ⟨cs, fun j => ((fs[j]?).map Fn.io).getD [], callN fs cs n⟩ f as
    | none => .bad
end Iq
set_option Elab.async false
set_option linter.all false
set_option maxRecDepth 100000
set_option maxHeartbeats 1000000
namespace Iq
open PySem L2

section
variable {X : Cx} {e : Expr}
theorem pimp {t t' : TE} (h : PE X e t) (i : ∀ σ H Q, t' σ H Q → t σ H Q) : PE X e t' := ⟨fun pins s σ H Q I q => h.run pins s σ H Q I (i σ H Q q)⟩
theorem timp {t t' : TT} (h : PT X e t) (i : ∀ σ H Q, t' σ H Q → t σ H Q) : PT X e t' := ⟨fun pins s σ H Q I q => h.run pins s σ H Q I (i σ H Q q)⟩
theorem por {t u : TE} (h : PE X e t) (k : PE X e u) : PE X e (fun σ H Q => t σ H Q ∨ u σ H Q) := ⟨fun pins s σ H Q I q => q.elim (h.run pins s σ H Q I) (k.run pins s σ H Q I)⟩
theorem oor {f : Value → Value → Sem Value} {r r' : R2} (h : OpR X f r) (k : OpR X f r') : OpR X f (fun x y H Q => r x y H Q ∨ r' x y H Q) := fun pins s σ H x y v u Q I rx ry q => q.elim (h pins s σ H x y v u Q I rx ry) (k pins s σ H x y v u Q I rx ry)
theorem oimp {f : Value → Value → Sem Value} {r r' : R2} (h : OpR X f r) (i : ∀ x y H Q, r' x y H Q → r x y H Q) : OpR X f r' := fun pins s σ H x y v u Q I rx ry q => h pins s σ H x y v u Q I rx ry (i _ _ _ _ q)
theorem cor {f : Value} {r r' : List V → Hp → VK → Prop} (h : CallR X f r) (k : CallR X f r') : CallR X f (fun x H Q => r x H Q ∨ r' x H Q) := fun pins s σ H x u Q I rx q => q.elim (h pins s σ H x u Q I rx) (k pins s σ H x u Q I rx)
theorem cimp {f : Value} {r r' : List V → Hp → VK → Prop} (h : CallR X f r) (i : ∀ x H Q, r' x H Q → r x H Q) : CallR X f r' := fun pins s σ H x u Q I rx q => h pins s σ H x u Q I rx (i _ _ _ q)
end

section
variable {Z : Zt} {F : Fm} {M M' : Mu} {σ : L2.St} {ς ς' : List Sl} {H H' H1 H2 : Hp} {d : D} {v : V}

/-- a value, or the object of a slot that owns it -/
def Pk (Z : Zt) (M : Mu) (H : Hp) (d : D) (v : V) : Prop := Rep Z M H d v ∨ ∃ a, v = .ref a ∧ Own Z M H a d
theorem Pk.non (h : Pk Z M H .non v) : v = .non := by
  rcases h with h | ⟨a, _, h⟩
  · simpa only [Rep] using h
  · exact h.elim
theorem Pk.bl {b : Bool} (h : Pk Z M H (.bl b) v) : v = .bl b := by
  rcases h with h | ⟨a, _, h⟩
  · simpa only [Rep] using h
  · exact h.elim
theorem Pk.int {i : Int} (h : Pk Z M H (.int i) v) : v = .int i := by
  rcases h with h | ⟨a, _, h⟩
  · simpa only [Rep] using h
  · exact h.elim
theorem Pk.str {x : Str} (h : Pk Z M H (.str x) v) : v = .str x := by
  rcases h with h | ⟨a, _, h⟩
  · simpa only [Rep] using h
  · exact h.elim
theorem Pk.fn {k : Nat} (h : Pk Z M H (.fn k) v) : v = .ref (Z.fa k) := by
  rcases h with h | ⟨a, _, h⟩
  · simpa only [Rep] using h
  · exact h.elim
theorem Pk.tup {ds : List D} (h : Pk Z M H (.tup ds) v) : ∃ a vs, v = .ref a ∧ Tu Z M H a vs ∧ RepL Z M H ds vs := by
  rcases h with h | ⟨a, _, h⟩
  · simpa only [Rep] using h
  · exact h.elim
theorem Pk.lst {ds : List D} (h : Pk Z M H (.lst ds) v) : ∃ a vs, v = .ref a ∧ Rd H a (.lst vs) ∧ RepL Z M H ds vs := by
  rcases h with h | ⟨a, e, vs, h, r⟩
  · simp only [Rep] at h
    obtain ⟨a, vs, e, l, r⟩ := h
    exact ⟨a, vs, e, l.1, r⟩
  · exact ⟨a, vs, e, .inl h, r⟩
theorem Pk.dic {kv : List (Key × D)} (h : Pk Z M H (.dic kv) v) : ∃ a kvs, v = .ref a ∧ (H a = some (.dK kvs) ∨ Wd Z a kvs) ∧ RepK Z M H kv kvs := by
  rcases h with h | ⟨a, e, vs, h, r⟩
  · simp only [Rep] at h
    obtain ⟨a, vs, e, l, r⟩ := h
    exact ⟨a, vs, e, l.imp (·.1) id, r⟩
  · exact ⟨a, vs, e, .inl h, r⟩
theorem Rep.pk (h : Rep Z M H d v) : Pk Z M H d v := .inl h

/-- what an operation leaves: a value that was there, or a new object -/
inductive Mk (Z : Zt) (M : Mu) (H : Hp) : D → Bool → V → Hp → Prop
  | same {d : D} {v : V} : Rep Z M H d v → Mk Z M H d false v H
  | tup {p : Addr} {ds : List D} {vs : List V} : H p = none → RepL Z M H ds vs → Mk Z M H (.tup ds) false (.ref p) (upd H p (.tup vs))
  | lst {p : Addr} {ds : List D} {vs : List V} {fr : Bool} : H p = none → RepL Z M H ds vs → Mk Z M H (.lst ds) fr (.ref p) (upd H p (.lst vs))
  | dic {p : Addr} {ds : List (Key × D)} {vs : List (Key × V)} {fr : Bool} : H p = none → RepK Z M H ds vs → Mk Z M H (.dic ds) fr (.ref p) (upd H p (.dK vs))

/-- the objects that slots own -/
def OwnS (σ : L2.St) (ς : List Sl) (a : Addr) : Prop := ∃ (i : Nat) (b : Bool) (d : D), ς[i]? = some (.own b d) ∧ σ[i]? = some (some (.ref a))
/-- how a state goes on: M loses owned objects alone, owned objects alone change, what is free was free -/
structure Nxt (Z : Zt) (F : Fm) (M : Mu) (σ : L2.St) (ς : List Sl) (H : Hp) (M' : Mu) (ς' : List Sl) (H' : Hp) : Prop where
  l : ∀ a, M' a → M a
  k : ∀ a, M a → ¬ OwnS σ ς a → M' a
  o : ∀ a, OwnS σ ς' a → OwnS σ ς a
  m : ∀ a, OwnS σ ς a → M a
  e : Evo (OwnS σ ς) H H'
  f : ∀ p, H' p = none → H p = none
  S : Sim Z F M' σ ς' H'
theorem Nxt.em {ς' : List Sl} (n : Nxt Z F M σ ς H M' ς' H') : Evo M H H' := n.e.less n.m
/-- behind an expression -/
def Aft (Z : Zt) (F : Fm) (M : Mu) (σ : L2.St) (ς ς' : List Sl) (H H' : Hp) (d : D) (fr : Bool) (v : V) : Prop :=
  ∃ M' : Mu, Nxt Z F M σ ς H M' ς' H' ∧ Rep Z M' H' d v ∧ (fr = true → ∃ p, v = .ref p ∧ H p = none ∧ Sim Z F (ins M' p) σ ς' H' ∧ Own Z (ins M' p) H' p d)
theorem upd_free {p : Addr} {o : HO} : ∀ q, upd H p o q = none → H q = none := fun q h => by
  by_cases e : q = p
  · rw [e, upd_same] at h; cases h
  · rw [upd_ne e] at h; exact h
theorem Nxt.new {p : Addr} {o : HO} (n : Nxt Z F M σ ς H M' ς' H') (h : H' p = none) : Nxt Z F M σ ς H M' ς' (upd H' p o) := ⟨n.l, n.k, n.o, n.m, n.e.trans (Evo.new h), fun q z => n.f q (upd_free q z), n.S.new h⟩
theorem Mk.aft {fr : Bool} (k : Mk Z M' H1 d fr v H2) (n : Nxt Z F M σ ς H M' ς' H1) : Aft Z F M σ ς ς' H H2 d fr v := by
  have S := n.S
  cases k with
  | same r => exact ⟨M', n, r, fun q => by cases q⟩
  | @tup p ds vs h r =>
    refine ⟨M', n.new h, ?_, fun q => by cases q⟩
    simp only [Rep]
    exact ⟨p, vs, rfl, .new upd_same (S.nM h), RepL.carry (.evo (.new h)) _ _ r⟩
  | @lst p ds vs _ h r =>
    refine ⟨M', n.new h, ?_, fun q => ⟨p, rfl, n.f p h, S.newM h, vs, upd_same, RepL.carry (.trans (.ins h) (.evo (.new h))) _ _ r⟩⟩
    simp only [Rep]
    exact ⟨p, vs, rfl, .new upd_same (S.nM h), RepL.carry (.evo (.new h)) _ _ r⟩
  | @dic p ds vs _ h r =>
    refine ⟨M', n.new h, ?_, fun q => ⟨p, rfl, n.f p h, S.newM h, vs, upd_same, RepK.carry (.trans (.ins h) (.evo (.new h))) _ _ r⟩⟩
    simp only [Rep]
    exact ⟨p, vs, rfl, .inl ⟨upd_same, S.nM h⟩, RepK.carry (.evo (.new h)) _ _ r⟩

/-- an expression's reading by its meaning -/
def rdE (Z : Zt) (F : Fm) (f : List Sl → R (D × Bool × List Sl)) : TE := fun σ H Q =>
  ∃ (M : Mu) (ς : List Sl) (d : D) (fr : Bool) (ς' : List Sl), Sim Z F M σ ς H ∧ f ς = .ok (d, fr, ς') ∧ ∀ v H', Aft Z F M σ ς ς' H H' d fr v → Q v H'
/-- an operand's value -/
def HdV (Z : Zt) (M : Mu) (σ : L2.St) (H : Hp) : Hd → V → Prop
  | .val d, v => Rep Z M H d v
  | .sl i, v => σ[i]? = some (some v)
theorem Nxt.carry (n : Nxt Z F M σ ς H M' ς' H') : Carry Z M H M' H' := .trans (.evo n.em) (.less n.l)
theorem Nxt.rep (n : Nxt Z F M σ ς H M' ς' H') (h : Rep Z M H d v) : Rep Z M' H' d v := Rep.carry n.carry _ _ h
theorem Nxt.repL {ds : List D} {vs : List V} (n : Nxt Z F M σ ς H M' ς' H') (h : RepL Z M H ds vs) : RepL Z M' H' ds vs := RepL.carry n.carry _ _ h
theorem Nxt.hdv {h : Hd} (n : Nxt Z F M σ ς H M' ς' H') (q : HdV Z M σ H h v) : HdV Z M' σ H' h v := by
  cases h with
  | val d => exact n.rep q
  | sl i => exact q
theorem Sim.owns (S : Sim Z F M σ ς H) : ∀ a, OwnS σ ς a → M a := fun a ⟨i, b, d, h1, h2⟩ => by
  obtain ⟨a', h3, h4, _⟩ := S.own i b d h1
  rw [h2] at h3; cases h3; exact h4
theorem Nxt.refl (S : Sim Z F M σ ς H) : Nxt Z F M σ ς H M ς H := ⟨fun _ h => h, fun _ h _ => h, fun _ h => h, S.owns, .refl _ _, fun _ h => h, S⟩
theorem Nxt.trans {M1 M2 : Mu} {ς1 ς2 : List Sl} (a : Nxt Z F M σ ς H M1 ς1 H1) (b : Nxt Z F M1 σ ς1 H1 M2 ς2 H2) : Nxt Z F M σ ς H M2 ς2 H2 :=
  ⟨fun x h => a.l x (b.l x h), fun x h q => b.k x (a.k x h q) fun z => q (a.o x z), fun x h => a.o x (b.o x h), a.m, a.e.trans (b.e.less a.o), fun p h => a.f p (b.f p h), b.S⟩
def rdH (Z : Zt) (F : Fm) (f : List Sl → R (Hd × List Sl)) : TE := fun σ H Q =>
  ∃ (M : Mu) (ς : List Sl) (h : Hd) (ς' : List Sl), Sim Z F M σ ς H ∧ f ς = .ok (h, ς') ∧ ∀ v H' M', Nxt Z F M σ ς H M' ς' H' → HdV Z M' σ H' h v → Q v H'
theorem deref_pk {h : Hd} (S : Sim Z F M σ ς H) (q : HdV Z M σ H h v) (e : deref ς h = .ok d) : Pk Z M H d v := by
  cases h with
  | val x => cases e; exact .inl q
  | sl i =>
    simp only [deref] at e
    have q : σ[i]? = some (some v) := q
    split at e
    · cases e
      rename_i b hb
      obtain ⟨a, h1, _, _, h4⟩ := S.own _ _ _ hb
      rw [q] at h1; cases h1
      exact .inr ⟨a, rfl, h4⟩
    · cases e
      rename_i hb
      obtain ⟨u, h1, h2⟩ := S.shr _ _ hb
      rw [q] at h1; cases h1
      exact .inl h2
    · cases e

/-! ### operands and values -/
theorem rdH_of {f : List Sl → R (D × Bool × List Sl)} {Q : VK} (h : rdH Z F (fun ς => (f ς).bind fun r => .ok (.val r.1, r.2.2)) σ H Q) : rdE Z F f σ H Q := by
  obtain ⟨M, ς, g, ς', S, e, k⟩ := h
  obtain ⟨⟨d, fr, ς1⟩, e1, e2⟩ := R.bind_is e
  cases e2
  exact ⟨M, ς, d, fr, ς1, S, e1, fun v H' ⟨M', n, r, _⟩ => k v H' M' n r⟩
/-- two operands, from the left -/
theorem two {f g : List Sl → R (Hd × List Sl)} {h k : Hd × List Sl} {Q : V → V → Hp → Prop} (S : Sim Z F M σ ς H) (e1 : f ς = .ok h) (e2 : g h.2 = .ok k)
    (q : ∀ v u H' M', Nxt Z F M σ ς H M' k.2 H' → HdV Z M' σ H' h.1 v → HdV Z M' σ H' k.1 u → Q v u H') : rdH Z F f σ H fun v H1 => rdH Z F g σ H1 fun u H2 => Q v u H2 :=
  ⟨M, ς, h.1, h.2, S, e1, fun v H1 M1 n1 r1 => ⟨M1, h.2, k.1, k.2, n1.S, e2, fun u H2 M2 n2 r2 => q v u H2 M2 (n1.trans n2) (n2.hdv r1) r2⟩⟩

/-- a row of values; a test -/
def rdL (Z : Zt) (F : Fm) (f : List Sl → R (List D × List Sl)) : TA := fun σ H Q =>
  ∃ (M : Mu) (ς : List Sl) (ds : List D) (ς' : List Sl), Sim Z F M σ ς H ∧ f ς = .ok (ds, ς') ∧ ∀ vs H' M', Nxt Z F M σ ς H M' ς' H' → RepL Z M' H' ds vs → Q vs H'
def rdT (Z : Zt) (F : Fm) (f : List Sl → R (Bool × List Sl)) : TT := fun σ H Q =>
  ∃ (M : Mu) (ς : List Sl) (b : Bool) (ς' : List Sl), Sim Z F M σ ς H ∧ f ς = .ok (b, ς') ∧ ∀ H' M', Nxt Z F M σ ς H M' ς' H' → Q b H'
def HdVs (Z : Zt) (M : Mu) (σ : L2.St) (H : Hp) : List Hd → List V → Prop
  | [], vs => vs = []
  | h :: hs, vs => ∃ v r, vs = v :: r ∧ HdV Z M σ H h v ∧ HdVs Z M σ H hs r
theorem Nxt.hdvs (n : Nxt Z F M σ ς H M' ς' H') : ∀ {hs : List Hd} {vs : List V}, HdVs Z M σ H hs vs → HdVs Z M' σ H' hs vs
  | [], _, h => h
  | h :: hs, _, ⟨v, r, e, h1, h2⟩ => ⟨v, r, e, n.hdv h1, n.hdvs h2⟩
def rdA (Z : Zt) (F : Fm) (f : List Sl → R (List Hd × List Sl)) : TA := fun σ H Q =>
  ∃ (M : Mu) (ς : List Sl) (hs : List Hd) (ς' : List Sl), Sim Z F M σ ς H ∧ f ς = .ok (hs, ς') ∧ ∀ vs H' M', Nxt Z F M σ ς H M' ς' H' → HdVs Z M' σ H' hs vs → Q vs H'
def rdO (Z : Zt) (F : Fm) (f : List Sl → R (Option Int × List Sl)) : TO := fun σ H Q =>
  ∃ (M : Mu) (ς : List Sl) (o : Option Int) (ς' : List Sl), Sim Z F M σ ς H ∧ f ς = .ok (o, ς') ∧ ∀ H' M', Nxt Z F M σ ς H M' ς' H' → Q o H'

/-- a slot's own object is read: it is shared from now on -/
theorem Sim.freeze {i : Nat} {d : D} (S : Sim Z F M σ ς H) (h : ς[i]? = some (.own false d)) :
    ∃ a M', σ[i]? = some (some (.ref a)) ∧ Nxt Z F M σ ς H M' (ς.set i (.shr d)) H ∧ Rep Z M' H d (.ref a) := by
  obtain ⟨a, h1, h2, h3, h4⟩ := S.own i _ d h
  have hi : i < ς.length := (List.getElem?_eq_some_iff.mp h).1
  have L : ∀ b, (M b ∧ b ≠ a) → M b := fun b h => h.1
  have c : Carry Z M H (fun b => M b ∧ b ≠ a) H := .less L
  have ne : ∀ (j : Nat) b e, (ς.set i (.shr d))[j]? = some (.own b e) → i ≠ j ∧ ς[j]? = some (.own b e) := fun j b e q => by
    by_cases ij : i = j
    · subst ij
      rw [List.getElem?_set_self hi] at q; cases q
    · rw [List.getElem?_set_ne ij] at q; exact ⟨ij, q⟩
  have hr : Rep Z (fun b => M b ∧ b ≠ a) H d (.ref a) := Own.rep (fun q => q.2 rfl) (h4.carry c rfl)
  refine ⟨a, fun b => M b ∧ b ≠ a, h1, ⟨L, fun b q n => ⟨q, fun e => n ⟨i, false, d, h, by rw [e]; exact h1⟩⟩, fun b ⟨j, x, y, q1, q2⟩ => ⟨j, x, y, (ne j x y q1).2, q2⟩, S.owns, .refl _ _, fun _ q => q, ?_⟩, hr⟩
  refine ⟨by rw [List.length_set]; exact S.len, fun j e q => ?_, fun j b e q => ?_, fun j k b e b' e' x jk q1 q2 q3 => ?_, S.old, fun b q => S.dom b q.1, fun b q => ⟨S.sup b q, ?_⟩, S.wm, S.dm0⟩
  · by_cases ij : i = j
    · subst ij
      rw [List.getElem?_set_self hi] at q; cases q
      exact ⟨_, h1, hr⟩
    · rw [List.getElem?_set_ne ij] at q
      obtain ⟨v, q1, q2⟩ := S.shr j e q
      exact ⟨v, q1, Rep.carry c _ _ q2⟩
  · obtain ⟨ij, q'⟩ := ne j b e q
    obtain ⟨a', q1, q2, q3, q4⟩ := S.own j b e q'
    refine ⟨a', q1, ⟨q2, fun z => ?_⟩, q3, q4.carry c rfl⟩
    subst z
    exact S.sep i j _ _ _ _ _ ij h q' h1 q1
  · exact S.sep j k _ _ _ _ x jk (ne j _ _ q1).2 (ne k _ _ q2).2 q3
  · rintro rfl
    obtain ⟨o, z⟩ := S.dm0 b q
    have h3 : F.H0 b = none := h3
    rw [h3] at z; cases z

/-- an object that is nobody's, but no value's either, changes -/
theorem Sim.poke {p : Addr} {o : HO} (S : Sim Z F M σ ς H) (hm : M p) (hn : ¬ OwnS σ ς p) (h0 : F.H0 p = none) : Sim Z F M σ ς (upd H p o) := by
  have cr : Carry Z M H M (upd H p o) := .evo fun a u na q => by rw [upd_ne (fun z => na (by rw [z]; exact hm))]; exact q
  refine ⟨S.len, fun i d h => let ⟨v, h1, h2⟩ := S.shr i d h; ⟨v, h1, Rep.carry cr _ _ h2⟩, fun i b d h => ?_, S.sep, fun a u h w => ?_, fun a h => ?_, S.sup, S.wm, S.dm0⟩
  · obtain ⟨a, h1, h2, h3, h4⟩ := S.own i b d h
    exact ⟨a, h1, h2, h3, h4.carry cr (upd_ne fun z => hn ⟨i, b, d, h, by rw [← z]; exact h1⟩)⟩
  · rw [upd_ne fun z => by rw [z, h0] at h; cases h]
    exact S.old a u h w
  · by_cases z : a = p
    · rw [z]; exact ⟨_, upd_same⟩
    · rw [upd_ne z]; exact S.dom a h
theorem Sim.drop {p : Addr} (S : Sim Z F M σ ς H) (hn : ¬ OwnS σ ς p) (h0 : F.H0 p = none) : Sim Z F (fun a => M a ∧ a ≠ p) σ ς H := by
  have cr : Carry Z M H (fun a => M a ∧ a ≠ p) H := .less fun a h => h.1
  refine ⟨S.len, fun i d h => let ⟨v, h1, h2⟩ := S.shr i d h; ⟨v, h1, Rep.carry cr _ _ h2⟩, fun i b d h => ?_, S.sep, S.old, fun a h => S.dom a h.1, fun a h => ⟨S.sup a h, fun z => ?_⟩, S.wm, S.dm0⟩
  · obtain ⟨a, h1, h2, h3, h4⟩ := S.own i b d h
    exact ⟨a, h1, ⟨h2, fun z => hn ⟨i, b, d, h, by rw [← z]; exact h1⟩⟩, h3, h4.carry cr rfl⟩
  · obtain ⟨o, q⟩ := S.dm0 a h
    rw [z, h0] at q; cases q
theorem ins_drop {M2 : Mu} {p : Addr} (h : M2 p) : ins (fun a => M2 a ∧ a ≠ p) p = M2 := by
  funext a
  refine propext ⟨fun q => q.elim (·.1) fun z => by rw [z]; exact h, fun q => ?_⟩
  by_cases z : a = p
  · exact .inr z
  · exact .inl ⟨q, z⟩
/-- a new object p stood by while other things were made; now it is filled -/
structure Made (Z : Zt) (F : Fm) (M : Mu) (σ : L2.St) (ς : List Sl) (H : Hp) (p : Addr) (o2 : HO) (M2 : Mu) (ς' : List Sl) (H2 : Hp) : Prop where
  n : Nxt Z F M σ ς H (fun a => M2 a ∧ a ≠ p) ς' (upd H2 p o2)
  S : Sim Z F (ins (fun a => M2 a ∧ a ≠ p) p) σ ς' (upd H2 p o2)
  c : Carry Z M2 H2 (fun a => M2 a ∧ a ≠ p) (upd H2 p o2)
  d : Carry Z M2 H2 (ins (fun a => M2 a ∧ a ≠ p) p) (upd H2 p o2)
theorem made {p : Addr} {o1 o2 : HO} {M2 : Mu} (S : Sim Z F M σ ς H) (hp : H p = none) (n : Nxt Z F (ins M p) σ ς (upd H p o1) M2 ς' H2) : H2 p = some o1 ∧ Made Z F M σ ς H p o2 M2 ς' H2 := by
  have hO : ¬ OwnS σ ς p := fun q => S.nM hp (S.owns p q)
  have hO2 : ¬ OwnS σ ς' p := fun q => hO (n.o p q)
  have h0 : F.H0 p = none := S.n0 hp
  have hM : M2 p := n.k p (.inr rfl) hO
  have cr : Carry Z M2 H2 M2 (upd H2 p o2) := .evo fun a u na q => by rw [upd_ne (fun z => na (by rw [z]; exact hM))]; exact q
  have S2 : Sim Z F M2 σ ς' (upd H2 p o2) := n.S.poke hM hO2 h0
  refine ⟨n.e p _ hO upd_same, ⟨⟨fun a h => (n.l a h.1).elim id fun z => absurd z h.2, fun a h q => ⟨n.k a (.inl h) q, fun z => S.nM hp (by rw [← z]; exact h)⟩, n.o, S.owns, fun a o na q => ?_, fun q h => ?_, S2.drop hO2 h0⟩, by rw [ins_drop hM]; exact S2, .trans cr (.less fun a h => h.1), by rw [ins_drop hM]; exact cr⟩⟩
  · have ne := ne_of_none q hp
    rw [upd_ne ne]
    exact n.e a o na (by rw [upd_ne ne]; exact q)
  · by_cases z : q = p
    · rw [z]; exact hp
    · rw [upd_ne z] at h
      have := n.f q h
      rw [upd_ne z] at this; exact this
end
end Iq
set_option Elab.async false
set_option linter.all false
set_option maxRecDepth 100000
set_option maxHeartbeats 1000000
namespace Iq
open PySem L2

abbrev zt (X : Cx) (fa : Nat → Addr) : Zt := ⟨X.w, X.K, X.mg, fa⟩

/-! ### what is written stays short -/
section
variable {X : Cx} {fa : Nat → Addr} {M : Mu} {H : Hp}

theorem rep_int {Z : Zt} {i : Int} : Rep Z M H (.int i) (.int i) := by simp only [Rep]
theorem rep_bl {Z : Zt} {b : Bool} : Rep Z M H (.bl b) (.bl b) := by simp only [Rep]
theorem rep_str {Z : Zt} {x : Str} : Rep Z M H (.str x) (.str x) := by simp only [Rep]
theorem rep_non {Z : Zt} : Rep Z M H .non .non := by simp only [Rep]

/-- lists tracked in H, both -/
theorem op_catL : OpR X (binaryOp .Add) (fun x y H Q => ∃ l b xs zs, x = .ref l ∧ y = .ref b ∧ Rd H l (.lst xs) ∧ Rd H b (.lst zs) ∧ xs.length + zs.length ≤ sizeLine ∧ ∀ p, H p = none → Q (.ref p) (upd H p (.lst (xs ++ zs)))) := by
  intro pins s σ H x y v u Q I rx ry h
  obtain ⟨l, b, xs, zs, rfl, rfl, hH, hB, hz, q⟩ := h
  cases rx
  cases ry
  obtain ⟨z, its, n, r, e⟩ := hH.ok I.hok
  obtain ⟨z2, its2, n2, r2, e2⟩ := hB.ok I.hok
  have hl := r.length
  have hl2 := r2.length
  refine PySem.P.add_list e e2 ?_ (by rw [List.size_toArray, List.size_toArray]; omega)
  have ea : its.toArray ++ its2.toArray = (its ++ its2).toArray := by simp
  rw [ea]
  have hn : H s.heap.objs.size = none := I.hok.fresh (Nat.le_refl _)
  exact ⟨.ref s.heap.objs.size, _, I.laid (a := s.heap.objs.size) (o := .lst (xs ++ zs)) (t' := s.toks) (fun _ _ q => Heap.get?_push_of_some _ q) (Nat.le_refl _)
    ⟨by rw [List.length_append]; exact hz, its ++ its2, _, r.append r2, Heap.get?_push_size _ rfl⟩, rfl, q _ hn⟩
/-- text * int -/
theorem op_mulS : OpR X (binaryOp .Mult) (fun x y H Q => ∃ a j, x = .str a ∧ y = .int j ∧ 0 ≤ j ∧ j ≤ 1000 ∧ a.length ≤ 1000 ∧ Q (.str (Txt.mul a j)) H) := by
  intro pins s σ H x y v u Q I rx ry h
  obtain ⟨a, j, rfl, rfl, h0, h1, h2, q⟩ := h
  obtain ⟨t, rfl⟩ := rx
  obtain ⟨t', rfl⟩ := ry
  refine PySem.SB.mul ⟨?_, fun h3 _ => ?_, fun _ _ => ?_⟩ fun t' k => ⟨.str (Txt.mul a j), H, I.tok k, ⟨_, rfl⟩, q⟩
  · have a1 : ¬ j < -(2 ^ 63 : Int) := by omega
    have a2 : ¬ j ≥ 2 ^ 63 := by omega
    rw [decide_eq_false a1, decide_eq_false a2]; rfl
  · have h5 : (1000 : Int) * j ≤ 2 ^ 63 - 1 := by omega
    have h6 : (1000 : Int) ≤ (2 ^ 63 - 1) / j := (Int.le_ediv_iff_mul_le (by omega)).mpr h5
    omega
  · have h7 : a.length * j.toNat ≤ 1000 * 1000 := Nat.mul_le_mul h2 (by omega)
    have h8 : sizeLine = 16777216 := sizeLine_eq
    exact decide_eq_false (by omega)

def rBin (Z : Zt) (op : Operator) : R2 := fun x y H Q => ∃ M d1 d2 o, Pk Z M H d1 x ∧ Pk Z M H d2 y ∧ binD op d1 d2 = .ok o ∧ ∀ v H', Mk Z M H o.1 o.2 v H' → Q v H'
theorem op_bin (op : Operator) : OpR X (binaryOp op) (rBin (zt X fa) op) := by
  intro pins s σ H x y v u Q I rx ry h
  obtain ⟨M, d1, d2, o, h1, h2, e, k⟩ := h
  unfold binD at e
  split at e
  · cases e; cases h1.int; cases h2.int
    exact op_add pins s σ H _ _ v u Q I rx ry ⟨_, _, rfl, rfl, k _ _ (.same rep_int)⟩
  · split at e
    · cases e; cases h1.str; cases h2.str
      exact op_add_str pins s σ H _ _ v u Q I rx ry ⟨_, _, rfl, rfl, by assumption, k _ _ (.same rep_str)⟩
    · cases e
  · split at e
    · rename_i hz
      cases e
      obtain ⟨a, xs, rfl, t1, r1⟩ := h1.tup
      obtain ⟨b, ys, rfl, t2, r2⟩ := h2.tup
      have l1 := r1.length
      have l2 := r2.length
      refine op_catA pins s σ H _ _ v u Q I rx ry ⟨a, b, xs, ys, rfl, rfl, t1.sq, t2.sq, by omega, fun e => ?_, fun _ e => ?_, fun _ _ p hp => k _ _ (.tup hp (r1.append r2))⟩
      · subst e
        rename_i as bs
        cases as with
        | nil => refine k _ _ (.same ?_); simp only [List.nil_append, Rep]; exact ⟨b, ys, rfl, t2, r2⟩
        | cons _ _ => cases l1
      · subst e
        rename_i as bs _
        cases bs with
        | nil => refine k _ _ (.same ?_); simp only [List.append_nil, Rep]; exact ⟨a, xs, rfl, t1, r1⟩
        | cons _ _ => cases l2
    · cases e
  · split at e
    · rename_i hz
      cases e
      obtain ⟨a, xs, rfl, t1, r1⟩ := h1.lst
      obtain ⟨b, ys, rfl, t2, r2⟩ := h2.lst
      have l1 := r1.length
      have l2 := r2.length
      exact op_catL pins s σ H _ _ v u Q I rx ry ⟨a, b, xs, ys, rfl, rfl, t1, t2, by omega, fun p hp => k _ _ (.lst hp (r1.append r2))⟩
    · cases e
  · cases e; cases h1.int; cases h2.int
    exact op_sub pins s σ H _ _ v u Q I rx ry ⟨_, _, rfl, rfl, k _ _ (.same rep_int)⟩
  · split at e
    · rename_i hz
      cases e; cases h1.int; cases h2.int
      refine op_mul pins s σ H _ _ v u Q I rx ry ⟨_, _, rfl, rfl, ?_, k _ _ (.same rep_int)⟩
      simp only [Bool.or_eq_true, Bool.and_eq_true, decide_eq_true_eq] at hz
      exact hz
    · cases e
  · split at e
    · rename_i hz
      cases e; cases h1.str; cases h2.int
      exact op_mulS pins s σ H _ _ v u Q I rx ry ⟨_, _, rfl, rfl, hz.1, hz.2.1, hz.2.2, k _ _ (.same rep_str)⟩
    · cases e
  · split at e
    · rename_i hz
      cases e; cases h1.int; cases h2.int
      exact op_fdiv pins s σ H _ _ v u Q I rx ry ⟨_, _, rfl, rfl, hz, k _ _ (.same rep_int)⟩
    · cases e
  · split at e
    · rename_i hz
      cases e; cases h1.int; cases h2.int
      exact op_mod pins s σ H _ _ v u Q I rx ry ⟨_, _, rfl, rfl, hz, k _ _ (.same rep_int)⟩
    · cases e
  · split at e
    · rename_i hz
      cases e; cases h1.int; cases h2.int
      exact op_pow pins s σ H _ _ v u Q I rx ry ⟨_, _, rfl, rfl, hz, k _ _ (.same rep_int)⟩
    · cases e
  · cases e

/-! ### comparisons -/
mutual
theorem dp_of {Z : Zt} : ∀ (d : D) (v : V) (p : PyData), Rep Z M H d v → d.py = some p → Dp Z.K H v p
  | .non, v, p, h, e => by simp only [Rep] at h; simp only [D.py] at e; cases e; subst h; exact .non
  | .bl b, v, p, h, e => by simp only [Rep] at h; simp only [D.py] at e; cases e; subst h; exact .bl b
  | .int b, v, p, h, e => by simp only [Rep] at h; simp only [D.py] at e; cases e; subst h; exact .int b
  | .str b, v, p, h, e => by simp only [Rep] at h; simp only [D.py] at e; cases e; subst h; exact .str b
  | .tup ds, v, p, h, e => by
    simp only [Rep] at h
    simp only [D.py, Option.map_eq_some_iff] at e
    obtain ⟨ps, e, rfl⟩ := e
    obtain ⟨a, vs, rfl, t, r⟩ := h
    exact .tup t.sq (dp_ofL ds vs ps r e)
  | .lst ds, v, p, h, e => by
    simp only [Rep] at h
    simp only [D.py, Option.map_eq_some_iff] at e
    obtain ⟨ps, e, rfl⟩ := e
    obtain ⟨a, vs, rfl, t, r⟩ := h
    exact .lst t.sq (dp_ofL ds vs ps r e)
  | .dic _, v, p, h, e => by simp only [D.py] at e; cases e
  | .fn _, v, p, h, e => by simp only [D.py] at e; cases e
theorem dp_ofL {Z : Zt} : ∀ (ds : List D) (vs : List V) (ps : List PyData), RepL Z M H ds vs → D.pyL ds = some ps → DpAll Z.K H vs ps
  | [], vs, ps, h, e => by simp only [RepL] at h; simp only [D.pyL] at e; cases e; subst h; exact .nil
  | d :: ds, vs, ps, h, e => by
    simp only [RepL] at h
    obtain ⟨v, r, rfl, h1, h2⟩ := h
    simp only [D.pyL] at e
    split at e
    · cases e
      exact .cons (dp_of d v _ h1 (by assumption)) (dp_ofL ds r _ h2 (by assumption))
    · cases e
end
theorem dp_pk {Z : Zt} {d : D} {v : V} {p : PyData} (h : Pk Z M H d v) (e : d.py = some p) : Dp Z.K H v p := by
  rcases h with h | ⟨a, rfl, h⟩
  · exact dp_of d v p h e
  · cases d with
    | lst ds =>
      obtain ⟨vs, hv, r⟩ := h
      simp only [D.py, Option.map_eq_some_iff] at e
      obtain ⟨ps, e, rfl⟩ := e
      exact .lst (.of hv) (dp_ofL ds vs ps r e)
    | dic _ => simp only [D.py] at e; cases e
    | _ => exact h.elim
theorem flat_of {Z : Zt} {d : D} {v x : V} (h : Rep Z M H d v) (e : flat d = some x) : v = x ∧ flatV x = true := by
  cases d <;> simp only [flat] at e <;> cases e <;> simp only [Rep] at h <;> exact ⟨h, rfl⟩
theorem flats_of {Z : Zt} : ∀ {ds : List D} {vs xs : List V}, RepL Z M H ds vs → flats ds = some xs → vs = xs ∧ xs.all flatV = true
  | [], _, _, h, e => by simp only [RepL] at h; simp only [flats] at e; cases e; exact ⟨h, rfl⟩
  | d :: ds, vs, xs, h, e => by
    simp only [RepL] at h
    obtain ⟨v, r, rfl, h1, h2⟩ := h
    simp only [flats] at e
    split at e
    · cases e
      obtain ⟨rfl, f1⟩ := flat_of h1 (by assumption)
      obtain ⟨rfl, f2⟩ := flats_of h2 (by assumption)
      exact ⟨rfl, by simp [f1, f2]⟩
    · cases e
theorem flat_pk {Z : Zt} {d : D} {v x : V} (h : Pk Z M H d v) (e : flat d = some x) : v = x ∧ flatV x = true := by
  rcases h with h | ⟨a, rfl, h⟩
  · exact flat_of h e
  · cases d <;> simp only [flat] at e <;> first | exact h.elim | cases e
theorem repK_val {Z : Zt} {k : Key} : ∀ {kv : List (Key × D)} {kvs : List (Key × V)}, RepK Z M H kv kvs → (∀ d, valD kv k = some d → ∃ v, valV kvs k = some v ∧ Rep Z M H d v) ∧ (valD kv k = none → valV kvs k = none)
  | [], _, h => by simp only [RepK] at h; subst h; exact ⟨fun d e => by simp [valD] at e, fun _ => rfl⟩
  | (k0, d0) :: kv, kvs, h => by
    simp only [RepK] at h
    obtain ⟨v, r, rfl, h1, h2⟩ := h
    obtain ⟨i1, i2⟩ := repK_val h2
    by_cases e : k0 = k
    · have e1 : valD ((k0, d0) :: kv) k = some d0 := by simp [valD, List.find?_cons, e]
      rw [e1, valV_pos (p := (k0, v)) e]
      exact ⟨fun d q => by cases q; exact ⟨v, rfl, h1⟩, fun q => by cases q⟩
    · have e1 : valD ((k0, d0) :: kv) k = valD kv k := by simp [valD, List.find?_cons, e]
      rw [e1, valV_neg (p := (k0, v)) e]
      exact ⟨i1, i2⟩
theorem repK_some {Z : Zt} {k : Key} {kv : List (Key × D)} {kvs : List (Key × V)} (h : RepK Z M H kv kvs) : (valV kvs k).isSome = (valD kv k).isSome := by
  obtain ⟨h1, h2⟩ := repK_val (k := k) h
  cases e : valD kv k with
  | none => rw [h2 e]; rfl
  | some d => obtain ⟨v, e', _⟩ := h1 d e; rw [e']; rfl
theorem key_pk {Z : Zt} {d : D} {v : V} {k : Key} (h : Pk Z M H d v) (e : keyOf d = some k) : v = kV k := by
  cases d with
  | int i => simp only [keyOf] at e; cases e; exact h.int
  | str i => simp only [keyOf] at e; cases e; exact h.str
  | _ => simp only [keyOf] at e; cases e
theorem wd_key {Z : Zt} {a : Addr} {k : Key} {kv : List (Key × D)} {kvs : List (Key × V)} (w : Wd Z a kvs) (r : RepK Z M H kv kvs) (f : keyFit kv k = true) : ∃ z, k = Sum.inr z := by
  cases k with
  | inr z => exact ⟨z, rfl⟩
  | inl i =>
    obtain ⟨_, _, _, _, x, v, q, rfl⟩ := w
    cases kv with
    | nil => simp only [RepK] at r; cases r
    | cons p kv =>
      obtain ⟨k, d⟩ := p
      simp only [RepK] at r
      obtain ⟨_, _, e, _⟩ := r
      cases e
      simp [keyFit] at f
theorem op_inK (hu : X.A.units + 64 < cLine) : OpR X (compareOp .In) (fun x y H Q => ∃ M d1 kv t, Pk (zt X fa) M H d1 x ∧ Pk (zt X fa) M H (.dic kv) y ∧ inD d1 (.dic kv) = .ok t ∧ Q (.bl t) H) := by
  intro pins s σ H x y v u Q I rx ry h
  obtain ⟨M, d1, kv, t, h1, h2, e, q⟩ := h
  obtain ⟨a, kvs, rfl, hd, r⟩ := h2.dic
  simp only [inD] at e
  split at e
  · rename_i k hk
    cases hf : keyFit kv k <;> rw [hf] at e
    · cases e
    · cases e
      obtain rfl := key_pk h1 hk
      rcases hd with hd | hd
      · obtain rfl : u = Value.ref a := ry
        refine d_in (by omega) I (DGet.k hd) rx fun s' I' => ⟨.bl _, H, I', rfl, ?_⟩
        rw [repK_some r]; exact q
      · obtain ⟨z, rfl⟩ := wd_key hd r hf
        obtain ⟨es, n, kd, hr, _⟩ := hd
        obtain ⟨o, ho, hrel⟩ := hr z
        refine op_in_kd kd pins s σ H _ _ v u Q I rx ry ⟨z, o, rfl, rfl, ho, ?_⟩
        rw [← repK_some r] at q
        cases e1 : valV kvs (Sum.inr z) <;> cases o <;> rw [e1] at hrel q <;> first | exact q | exact hrel.elim
  · cases e
theorem op_notInK (hu : X.A.units + 64 < cLine) : OpR X (compareOp .NotIn) (fun x y H Q => ∃ M d1 kv t, Pk (zt X fa) M H d1 x ∧ Pk (zt X fa) M H (.dic kv) y ∧ inD d1 (.dic kv) = .ok t ∧ Q (.bl (!t)) H) := by
  intro pins s σ H x y v u Q I rx ry h
  obtain ⟨M, d1, kv, t, h1, h2, e, q⟩ := h
  obtain ⟨a, kvs, rfl, hd, r⟩ := h2.dic
  simp only [inD] at e
  split at e
  · rename_i k hk
    cases hf : keyFit kv k <;> rw [hf] at e
    · cases e
    · cases e
      obtain rfl := key_pk h1 hk
      rcases hd with hd | hd
      · obtain rfl : u = Value.ref a := ry
        refine d_notIn (by omega) I (DGet.k hd) rx fun s' I' => ⟨.bl _, H, I', rfl, ?_⟩
        rw [repK_some r]; exact q
      · obtain ⟨z, rfl⟩ := wd_key hd r hf
        obtain ⟨es, n, kd, hr, _⟩ := hd
        obtain ⟨o, ho, hrel⟩ := hr z
        refine op_notIn_kd kd pins s σ H _ _ v u Q I rx ry ⟨z, o, rfl, rfl, ho, ?_⟩
        rw [← repK_some r] at q
        cases e1 : valV kvs (Sum.inr z) <;> cases o <;> rw [e1] at hrel q <;> first | exact q | exact hrel.elim
  · cases e
theorem inSeq_ok {Z : Zt} {d : D} {ds : List D} {t : Bool} {x : V} {vs : List V} (h1 : Pk Z M H d x) (h2 : RepL Z M H ds vs) (e : inSeq d ds = .ok t) : flatV x = true ∧ vs.all flatV = true ∧ t = inV x vs := by
  unfold inSeq at e
  split at e
  · cases e
    obtain ⟨rfl, f1⟩ := flat_pk h1 (by assumption)
    obtain ⟨rfl, f2⟩ := flats_of h2 (by assumption)
    exact ⟨f1, f2, rfl⟩
  · cases e
theorem notR_is {r : R Bool} {t : Bool} (e : notR r = .ok t) : r = .ok (!t) := by
  cases r with
  | ok b => cases e; simp
  | bad => cases e
def rCmp (Z : Zt) (op : CmpOp) : R2 := fun x y H Q => ∃ M d1 d2 t, Pk Z M H d1 x ∧ Pk Z M H d2 y ∧ cmpD op d1 d2 = .ok t ∧ Q (.bl t) H
theorem pk_isN {Z : Zt} {d : D} {v : V} {t : Bool} {e : D} (h : Pk Z M H d v) (q : isN d e = .ok t) : e = .non ∧ t = decide (v = .non) := by
  unfold isN at q
  split at q
  · refine ⟨rfl, ?_⟩
    split at q
    · cases q; rw [h.non]; rfl
    · cases q
      rename_i hn
      refine (decide_eq_false fun z => ?_).symm
      subst z
      cases d with
      | non => exact hn rfl
      | bl _ => cases h.bl
      | int _ => cases h.int
      | str _ => cases h.str
      | tup _ => obtain ⟨_, _, z, _⟩ := h.tup; cases z
      | lst _ => obtain ⟨_, _, z, _⟩ := h.lst; cases z
      | dic _ => obtain ⟨_, _, z, _⟩ := h.dic; cases z
      | fn _ => cases h.fn
  · cases q
theorem op_cmp (hu : X.A.units + 64 < cLine) (op : CmpOp) : OpR X (compareOp op) (rCmp (zt X fa) op) := by
  intro pins s σ H x y v u Q I rx ry h
  obtain ⟨M, d1, d2, t, h1, h2, e, q⟩ := h
  cases op with
  | Eq =>
    simp only [cmpD, eqD] at e
    split at e
    · split at e
      · rename_i p1 p2 e1 e2 hs
        cases e
        simp only [Bool.and_eq_true] at hs
        exact op_eqD hu pins s σ H x y v u Q I rx ry ⟨_, _, dp_pk h1 e1, dp_pk h2 e2, hs.1, hs.2, q⟩
      · cases e
    · cases e
  | NotEq =>
    simp only [cmpD] at e
    have e := notR_is e
    unfold eqD at e
    split at e
    · split at e
      · rename_i p1 p2 e1 e2 hs
        simp only [Bool.and_eq_true] at hs
        have e : PyData.eqv p1 p2 = !t := by injection e
        refine op_neD hu pins s σ H x y v u Q I rx ry ⟨_, _, dp_pk h1 e1, dp_pk h2 e2, hs.1, hs.2, ?_⟩
        rw [e, Bool.not_not]; exact q
      · cases e
    · cases e
  | Lt =>
    simp only [cmpD, ltD] at e
    split at e
    · cases e; cases h1.int; cases h2.int
      exact op_lt pins s σ H _ _ v u Q I rx ry ⟨_, _, rfl, rfl, q⟩
    · cases e; cases h1.str; cases h2.str
      exact op_lt_str pins s σ H _ _ v u Q I rx ry ⟨_, _, rfl, rfl, q⟩
    · cases e
  | LtE =>
    simp only [cmpD, leI] at e
    split at e
    · cases e; cases h1.int; cases h2.int
      exact op_le pins s σ H _ _ v u Q I rx ry ⟨_, _, rfl, rfl, q⟩
    · cases e
  | Gt =>
    simp only [cmpD] at e
    split at e
    · cases e; cases h1.int; cases h2.int
      exact op_gt pins s σ H _ _ v u Q I rx ry ⟨_, _, rfl, rfl, q⟩
    · cases e
  | GtE =>
    simp only [cmpD] at e
    split at e
    · cases e; cases h1.int; cases h2.int
      exact op_ge pins s σ H _ _ v u Q I rx ry ⟨_, _, rfl, rfl, q⟩
    · cases e
  | Is =>
    simp only [cmpD] at e
    obtain ⟨rfl, rfl⟩ := pk_isN h1 e
    cases h2.non
    exact op_isN pins s σ H _ _ v u Q I rx ry ⟨rfl, q⟩
  | IsNot =>
    simp only [cmpD] at e
    obtain ⟨rfl, e5⟩ := pk_isN h1 (notR_is e)
    cases h2.non
    refine op_notN pins s σ H _ _ v u Q I rx ry ⟨rfl, ?_⟩
    rw [← e5, Bool.not_not]; exact q
  | In =>
    simp only [cmpD] at e
    cases d2 with
    | tup ys =>
      obtain ⟨a, vs, rfl, t2, r2⟩ := h2.tup
      obtain ⟨f1, f2, rfl⟩ := inSeq_ok h1 r2 (by simpa only [inD] using e)
      exact op_in_seq pins s σ H _ _ v u Q I rx ry ⟨a, vs, rfl, .inr t2.sq, f1, f2, q⟩
    | lst ys =>
      obtain ⟨a, vs, rfl, t2, r2⟩ := h2.lst
      obtain ⟨f1, f2, rfl⟩ := inSeq_ok h1 r2 (by simpa only [inD] using e)
      exact op_in_seq pins s σ H _ _ v u Q I rx ry ⟨a, vs, rfl, .inl (.inl t2), f1, f2, q⟩
    | str z =>
      simp only [inD] at e
      split at e
      · cases e; cases h1.str; cases h2.str
        exact op_in_str pins s σ H _ _ v u Q I rx ry ⟨_, _, rfl, rfl, q⟩
      · cases e
    | dic kv => exact op_inK hu pins s σ H _ _ v u Q I rx ry ⟨M, d1, kv, t, h1, h2, e, q⟩
    | _ => simp only [inD] at e; cases e
  | NotIn =>
    simp only [cmpD] at e
    have e := notR_is e
    cases d2 with
    | tup ys =>
      obtain ⟨a, vs, rfl, t2, r2⟩ := h2.tup
      obtain ⟨f1, f2, e3⟩ := inSeq_ok h1 r2 (by simpa only [inD] using e)
      refine op_notIn_seq pins s σ H _ _ v u Q I rx ry ⟨a, vs, rfl, .inr t2.sq, f1, f2, ?_⟩
      show Q (.bl (!inV x vs)) H
      rw [← e3, Bool.not_not]; exact q
    | lst ys =>
      obtain ⟨a, vs, rfl, t2, r2⟩ := h2.lst
      obtain ⟨f1, f2, e3⟩ := inSeq_ok h1 r2 (by simpa only [inD] using e)
      refine op_notIn_seq pins s σ H _ _ v u Q I rx ry ⟨a, vs, rfl, .inl (.inl t2), f1, f2, ?_⟩
      show Q (.bl (!inV x vs)) H
      rw [← e3, Bool.not_not]; exact q
    | str z =>
      simp only [inD] at e
      split at e
      · cases h1.str; cases h2.str
        refine op_notIn_str pins s σ H _ _ v u Q I rx ry ⟨_, _, rfl, rfl, ?_⟩
        have e4 := R.ok.inj e
        rw [e4, Bool.not_not]; exact q
      · cases e
    | dic kv =>
      refine op_notInK hu pins s σ H _ _ v u Q I rx ry ⟨M, d1, kv, !t, h1, h2, e, ?_⟩
      rw [Bool.not_not]; exact q
    | _ => simp only [inD] at e; cases e
end
end Iq
set_option Elab.async false
set_option linter.all false
set_option maxRecDepth 100000
set_option maxHeartbeats 1000000
namespace Iq
open PySem L2

section
variable {X : Cx} {fa : Nat → Addr} {M : Mu} {H : Hp}

/-! ### truth -/
theorem truth_pk {d : D} {v : V} {b : Bool} (h : Pk (zt X fa) M H d v) (e : truth d = .ok b) : TruV X.K v H b := by
  cases d with
  | non => cases h.non; simp only [truth] at e; cases e; rfl
  | bl _ => cases h.bl; simp only [truth] at e; cases e; rfl
  | int _ => cases h.int; simp only [truth] at e; cases e; rfl
  | str x =>
    cases h.str
    simp only [truth] at e
    split at e
    · cases e; exact ⟨by assumption, rfl⟩
    · cases e
  | tup ds =>
    obtain ⟨a, vs, rfl, t, r⟩ := h.tup
    simp only [truth] at e; cases e
    exact .inr (.inl ⟨vs, t.sq, by cases r' : ds <;> rw [r'] at r <;> have := r.length <;> cases vs <;> first | rfl | cases this⟩)
  | lst ds =>
    obtain ⟨a, vs, rfl, t, r⟩ := h.lst
    simp only [truth] at e; cases e
    exact .inl ⟨vs, .inl t, by cases r' : ds <;> rw [r'] at r <;> have := r.length <;> cases vs <;> first | rfl | cases this⟩
  | dic kv => simp only [truth] at e; cases e
  | fn _ => simp only [truth] at e; cases e

/-! ### subscripts -/
theorem atI_rep {Z : Zt} {ds : List D} {vs : List V} {i : Int} {d : D} (r : RepL Z M H ds vs) (e : atI ds i = some d) : ∃ v, atI vs i = some v ∧ Rep Z M H d v := by
  unfold atI at e ⊢
  rw [r.length] at e
  cases q : ixN vs.length i with
  | none => rw [q] at e; cases e
  | some j =>
    rw [q] at e
    exact r.get e
theorem ix_dK (hu : X.A.units + 64 < cLine) : IxR X (fun x y H Q => ∃ a v, x = .ref a ∧ DGet H a y (some v) ∧ Q v H) := by
  intro value slice pins s σ H x y v u Q I rx ry h hs
  obtain ⟨a, z, rfl, g, q⟩ := h
  obtain rfl : v = Value.ref a := rx
  exact PyProof.Rows.tail_any (dict_typeIs I g) PySem.F.slot_dict_getitem.lookup (d_getItem (by omega) I g ry fun w' s' I' r' => ⟨z, H, I', r', q⟩) hs
def rIdx (Z : Zt) : R2 := fun x y H Q => ∃ M d1 d2 d, Pk Z M H d1 x ∧ Pk Z M H d2 y ∧ idxD d1 d2 = .ok d ∧ ∀ v, Rep Z M H d v → Q v H
theorem ix_D (hu : X.A.units + 64 < cLine) : IxR X (rIdx (zt X fa)) := by
  intro value slice pins s σ H x y v u Q I rx ry h hs
  obtain ⟨M, d1, d2, d, h1, h2, e, k⟩ := h
  unfold idxD at e
  split at e
  · split at e
    · rename_i ha
      cases e
      obtain ⟨a, vs, rfl, t, r⟩ := h1.tup
      cases h2.int
      obtain ⟨z, e1, r1⟩ := atI_rep r ha
      exact ix_tup value slice pins s σ H _ _ v u Q I rx ry ⟨a, vs, _, z, rfl, rfl, t.sq, e1, k z r1⟩ hs
    · cases e
  · split at e
    · rename_i ha
      cases e
      obtain ⟨a, vs, rfl, t, r⟩ := h1.lst
      cases h2.int
      obtain ⟨z, e1, r1⟩ := atI_rep r ha
      exact ix_list value slice pins s σ H _ _ v u Q I rx ry ⟨a, vs, _, z, rfl, rfl, .inl t, e1, k z r1⟩ hs
    · cases e
  · split at e
    · split at e
      · cases e
        cases h1.str; cases h2.int
        exact ix_str value slice pins s σ H _ _ v u Q I rx ry ⟨_, _, _, rfl, rfl, by assumption, by assumption, k _ rep_str⟩ hs
      · cases e
    · cases e
  · rename_i kv
    split at e
    · rename_i kk hk
      cases hf : keyFit kv kk <;> rw [hf] at e
      · cases e
      · simp only [cond_true] at e
        split at e
        · rename_i hv
          cases e
          obtain ⟨a, kvs, rfl, hd, r⟩ := h1.dic
          obtain rfl := key_pk h2 hk
          obtain ⟨z, ez, rz⟩ := (repK_val (k := kk) r).1 _ hv
          rcases hd with hd | hd
          · refine ix_dK hu value slice pins s σ H _ _ v u Q I rx ry ⟨a, z, rfl, ?_, k z rz⟩ hs
            rw [← ez]; exact DGet.k hd
          · obtain ⟨y, rfl⟩ := wd_key hd r hf
            obtain ⟨es, n, kd, hr, _⟩ := hd
            obtain ⟨o, ho, hrel⟩ := hr y
            rw [ez] at hrel
            cases o with
            | none => exact hrel.elim
            | some u0 => exact PyProof.Rows.tail_any (by obtain rfl : v = Value.ref a := rx; exact kd_type kd I) PySem.F.slot_dict_getitem.lookup (op_item_kd kd pins s σ H _ _ v u Q I rx ry ⟨y, u0, z, rfl, rfl, ho, hrel, k z rz⟩) hs
        · cases e
    · cases e
  · cases e

/-! ### slices -/
theorem cut_rep {Z : Zt} {ds : List D} {vs : List V} {lo hi : Option Int} (r : RepL Z M H ds vs) : RepL Z M H (cutL ds lo hi) (cutV vs lo hi) := by
  unfold cutL cutV
  rw [r.length]
  exact RepL.take _ (RepL.drop _ r)
def rSli (Z : Zt) : V → Option Int → Option Int → Hp → VK → Prop := fun x lo hi H Q => ∃ M d o, Pk Z M H d x ∧ sliD d lo hi = .ok o ∧ ∀ v H', Mk Z M H o.1 o.2 v H' → Q v H'
theorem sl_D : SlR X (rSli (zt X fa)) := by
  intro pins s σ H x v vl vu lo hi sl Q I rx hs pl pu h
  obtain ⟨M, d, o, h1, e, k⟩ := h
  unfold sliD at e
  split at e
  · cases e
    obtain ⟨a, vs, rfl, t, r⟩ := h1.tup
    refine sl_tupA pins s σ H _ v vl vu lo hi sl Q I rx hs pl pu ⟨a, vs, rfl, t.sq, fun hw => k _ _ (.same ?_), fun _ p hp => k _ _ (.tup hp (cut_rep r))⟩
    have e1 : ∀ xs : List D, xs.length = vs.length → cutL xs lo hi = xs := fun xs hl => by
      unfold cutL
      rw [hl, hw.1, hw.2, List.drop_zero, Nat.sub_zero, ← hl, List.take_length]
    rw [e1 _ r.length]
    simp only [Rep]
    exact ⟨a, vs, rfl, t, r⟩
  · cases e
    obtain ⟨a, vs, rfl, t, r⟩ := h1.lst
    exact sl_list pins s σ H _ v vl vu lo hi sl Q I rx hs pl pu ⟨a, vs, rfl, .inl t, fun p hp => k _ _ (.lst hp (cut_rep r))⟩
  · split at e
    · cases e
      cases h1.str
      exact sl_str pins s σ H _ v vl vu lo hi sl Q I rx hs pl pu ⟨_, rfl, by assumption, k _ _ (.same rep_str)⟩
    · cases e
  · cases e

/-! ### built-ins of one argument -/
theorem bls_rep {Z : Zt} : ∀ {ds : List D} {vs : List V} {bs : List Bool}, RepL Z M H ds vs → bls ds = some bs → vs = bs.map V.bl
  | [], _, _, h, e => by simp only [RepL] at h; simp only [bls] at e; cases e; exact h
  | .bl b :: ds, vs, bs, h, e => by
    simp only [RepL, Rep] at h
    obtain ⟨v, r, rfl, rfl, h2⟩ := h
    simp only [bls, Option.map_eq_some_iff] at e
    obtain ⟨bs', e, rfl⟩ := e
    rw [bls_rep h2 e]; rfl
  | .non :: _, _, _, _, e => by simp only [bls] at e; cases e
  | .int _ :: _, _, _, _, e => by simp only [bls] at e; cases e
  | .str _ :: _, _, _, _, e => by simp only [bls] at e; cases e
  | .tup _ :: _, _, _, _, e => by simp only [bls] at e; cases e
  | .lst _ :: _, _, _, _, e => by simp only [bls] at e; cases e
  | .dic _ :: _, _, _, _, e => by simp only [bls] at e; cases e
  | .fn _ :: _, _, _, _, e => by simp only [bls] at e; cases e
theorem strL_rep {Z : Zt} : ∀ {ds : List D} {vs : List V} {bs : List Str}, RepL Z M H ds vs → strL ds = some bs → vs = bs.map V.str
  | [], _, _, h, e => by simp only [RepL] at h; simp only [strL] at e; cases e; exact h
  | .str b :: ds, vs, bs, h, e => by
    simp only [RepL, Rep] at h
    obtain ⟨v, r, rfl, rfl, h2⟩ := h
    simp only [strL, Option.map_eq_some_iff] at e
    obtain ⟨bs', e, rfl⟩ := e
    rw [strL_rep h2 e]; rfl
  | .non :: _, _, _, _, e => by simp only [strL] at e; cases e
  | .int _ :: _, _, _, _, e => by simp only [strL] at e; cases e
  | .bl _ :: _, _, _, _, e => by simp only [strL] at e; cases e
  | .tup _ :: _, _, _, _, e => by simp only [strL] at e; cases e
  | .lst _ :: _, _, _, _, e => by simp only [strL] at e; cases e
  | .dic _ :: _, _, _, _, e => by simp only [strL] at e; cases e
  | .fn _ :: _, _, _, _, e => by simp only [strL] at e; cases e
def biV : Bi → Value
  | .len => .builtin "len"
  | .int => .type "int"
  | .list => .type "list"
  | .tuple => .type "tuple"
  | .all => .builtin "all"
  | .any => .builtin "any"
def rBi (Z : Zt) (f : Bi) : List V → Hp → VK → Prop := fun xs H Q => ∃ M d o v, xs = [v] ∧ Pk Z M H d v ∧ biD f d = .ok o ∧ ∀ v' H', Mk Z M H o.1 o.2 v' H' → Q v' H'
theorem cr_bi (hc : X.calm = true) (f : Bi) : CallR X (biV f) (rBi (zt X fa) f) := by
  intro pins s σ H xs us Q I rx h
  obtain ⟨M, d, o, v, rfl, h1, e, k⟩ := h
  unfold biD at e
  split at e
  · split at e
    · cases e; cases h1.str
      exact call_len_str pins s σ H _ us Q I rx ⟨_, rfl, by assumption, k _ _ (.same rep_int)⟩
    · cases e
  · cases e
    obtain ⟨a, vs, rfl, t, r⟩ := h1.tup
    refine call_len_seq pins s σ H _ us Q I rx ⟨a, vs, rfl, .inr t.sq, k _ _ ?_⟩
    rw [r.length]; exact .same rep_int
  · cases e
    obtain ⟨a, vs, rfl, t, r⟩ := h1.lst
    refine call_len_seq pins s σ H _ us Q I rx ⟨a, vs, rfl, .inl (.inl t), k _ _ ?_⟩
    rw [r.length]; exact .same rep_int
  · cases e; cases h1.int
    exact call_int1 pins s σ H _ us Q I rx (.inl ⟨_, rfl, k _ _ (.same rep_int)⟩)
  · cases e; cases h1.bl
    exact call_int1 pins s σ H _ us Q I rx (.inr ⟨_, rfl, k _ _ (.same rep_int)⟩)
  · cases e
    obtain ⟨a, vs, rfl, t, r⟩ := h1.tup
    exact call_list_of pins s σ H _ us Q I rx ⟨a, vs, rfl, .inr t.sq, fun l hl => k _ _ (.lst hl r)⟩
  · cases e
    obtain ⟨a, vs, rfl, t, r⟩ := h1.lst
    exact call_list_of pins s σ H _ us Q I rx ⟨a, vs, rfl, .inl (.inl t), fun l hl => k _ _ (.lst hl r)⟩
  · cases e
    obtain ⟨a, vs, rfl, t, r⟩ := h1.tup
    refine call_tuple_of pins s σ H _ us Q I rx ⟨a, vs, rfl, .inr ⟨t.sq, k _ _ (.same ?_)⟩⟩
    simp only [Rep]; exact ⟨a, vs, rfl, t, r⟩
  · cases e
    obtain ⟨a, vs, rfl, t, r⟩ := h1.lst
    exact call_tuple_of pins s σ H _ us Q I rx ⟨a, vs, rfl, .inl ⟨.inl t, fun l hl => k _ _ (.tup hl r)⟩⟩
  · split at e
    · rename_i hb
      cases e
      obtain ⟨a, vs, rfl, t, r⟩ := h1.lst
      obtain rfl := bls_rep r hb
      exact cr_all hc pins s σ H _ us Q I rx ⟨a, _, rfl, .inl t, k _ _ (.same rep_bl)⟩
    · cases e
  · split at e
    · rename_i hb
      cases e
      obtain ⟨a, vs, rfl, t, r⟩ := h1.lst
      obtain rfl := bls_rep r hb
      exact cr_any hc pins s σ H _ us Q I rx ⟨a, _, rfl, .inl t, k _ _ (.same rep_bl)⟩
    · cases e
  · cases e

/-! ### isinstance -/
def kindS : D → Option String
  | .non => some "NoneType"
  | .bl _ => some "bool"
  | .int _ => some "int"
  | .str _ => some "str"
  | .tup _ => some "tuple"
  | .lst _ => some "list"
  | .dic _ => some "dict"
  | .fn _ => none
def tyS : Ty → String
  | .int => "int"
  | .bool => "bool"
  | .str => "str"
  | .tuple => "tuple"
  | .list => "list"
theorem kind_ty {d : D} {v : V} {T : String} (h : Pk (zt X fa) M H d v) (e : kindS d = some T) : TyX X.K H v (.type T) := by
  cases d with
  | non => cases h.non; cases e; exact .base .non
  | bl b => cases h.bl; cases e; exact .base (.bl b)
  | int b => cases h.int; cases e; exact .base (.int b)
  | str b => cases h.str; cases e; exact .base (.str b)
  | tup ds =>
    cases e
    obtain ⟨a, vs, rfl, t, r⟩ := h.tup
    rcases t with ⟨t | ⟨o, t⟩, _⟩ | ⟨o, its, n, hk, hc, _⟩
    · exact .base (.tup t)
    · exact .fTuple t
    · exact .kTuple hk hc
  | lst ds =>
    cases e
    obtain ⟨a, vs, rfl, t, r⟩ := h.lst
    rcases t with t | ⟨o, t⟩
    · exact .base (.lst t)
    · exact .base (.frz t)
  | dic ds =>
    cases e
    obtain ⟨a, vs, rfl, t, r⟩ := h.dic
    rcases t with t | ⟨es, n, kd, _⟩
    · exact .base (.dK t)
    · exact .kDict kd.at_ rfl
  | fn _ => cases e
theorem isTy_kit {d : D} {t : Ty} {b : Bool} (e : isTy d t = some b) : ∃ T, kindS d = some T ∧ kitB T (tyS t) = some b := by
  cases d <;> cases t <;> first
    | (cases e; exact ⟨_, rfl, by decide +kernel⟩)
    | cases e
theorem isTys_kit {K : PySem.W.Frag} {d : D} {T : String} (hT : kindS d = some T) : ∀ {ts : List Ty} {b : Bool}, isTys d ts = some b → PySem.W.kitAny K (.type T) (ts.map fun t => .type (tyS t)) = some b
  | [], b, e => by simp only [isTys] at e; cases e; rfl
  | t :: ts, b, e => by
    simp only [isTys] at e
    split at e
    · rename_i x y e1 e2
      cases e
      obtain ⟨T', h1, h2⟩ := isTy_kit e1
      rw [hT] at h1; cases h1
      refine kitAny_cons (kit_ty h2) (fun hb => ?_) fun hb => by rw [hb]; rfl
      rw [hb, Bool.false_or]
      exact isTys_kit hT e2
    · cases e
end
end Iq
set_option Elab.async false
set_option linter.all false
set_option maxRecDepth 100000
set_option maxHeartbeats 1000000
namespace Iq
open PySem L2

/-! ### a term agrees with the text -/
/-- the module's names: constants, defs -/
structure Gt where
  cn : List Str
  fnm : List Str
def isG (sc : Scope) (x : Str) : Bool := decide (sc.names.lookup x = some .globalImplicit) && !(x == ("__debug__" : Str))
def isV (N : List Str) (sc : Scope) (i : Nat) (x : Str) : Bool := decide (N[i]? = some x) && !(x == ("__debug__" : Str)) && !(x == ("__classdict__" : Str)) &&
  (decide (sc.names.lookup x = some .local) || decide (sc.names.lookup x = some .cell) || decide (sc.names.lookup x = some .free))
def isL (N : List Str) (sc : Scope) (fnc : Str → Bool) (i : Nat) (x : Str) : Bool := decide (N[i]? = some x) && (decide (sc.names.lookup x = some .local) || (decide (sc.names.lookup x = some .cell) && fnc x))
/-- no star, no set display -/
def nst : Expr → Bool
  | .Starred _ _ => false
  | .Set _ _ _ => false
  | .Slice _ _ _ _ => false
  | _ => true
def isCon : D → Expr → Bool
  | .non, .Constant .none _ _ => true
  | .bl b, .Constant (.bool c) _ _ => b == c
  | .int i, .Constant (.int j) _ _ => decide (i = j)
  | .str x, .Constant (.str y) _ _ => decide (x = y)
  | _, _ => false
def biS : Bi → Str
  | .len => "len"
  | .int => "int"
  | .list => "list"
  | .tuple => "tuple"
  | .all => "all"
  | .any => "any"
def tyN : Ty → Str
  | .int => "int"
  | .bool => "bool"
  | .str => "str"
  | .tuple => "tuple"
  | .list => "list"
def agTy (sc : Scope) (t : Ty) : Expr → Bool
  | .Name x _ => decide (x = tyN t) && isG sc x
  | _ => false
def agTys (sc : Scope) : List Ty → List Expr → Bool
  | [], [] => true
  | t :: ts, e :: es => agTy sc t e && agTys sc ts es
  | _, _ => false
def nameOf : Expr → Option Str
  | .Name x _ => some x
  | _ => none
theorem nameOf_is {e : Expr} {x : Str} (h : nameOf e = some x) : ∃ p, e = .Name x p := by
  unfold nameOf at h
  split at h
  · cases h; exact ⟨_, rfl⟩
  · cases h
def agNms (N : List Str) (sc : Scope) (fnc : Str → Bool) : List Nat → List Expr → Bool
  | [], [] => true
  | i :: is, e :: es => match nameOf e with
    | some x => isL N sc fnc i x && agNms N sc fnc is es
    | none => false
  | _, _ => false
def agTg (N : List Str) (sc : Scope) (fnc : Str → Bool) : Tg → Expr → Bool
  | .nm i, .Name x _ => isL N sc fnc i x
  | .tp is, .Tuple es _ _ => agNms N sc fnc is es
  | _, _ => false
def isTup : Expr → Bool
  | .Tuple _ _ _ => true
  | _ => false
def strOf : Option Expr → Option Str
  | some (.Constant (.str y) _ _) => some y
  | _ => none
theorem strOf_is {e : Option Expr} {x : Str} (h : strOf e = some x) : ∃ c p, e = some (.Constant (.str x) c p) := by
  unfold strOf at h
  split at h
  · cases h; exact ⟨_, _, rfl⟩
  · cases h
def agKeys : List Str → List (Option Expr) → Bool
  | [], [] => true
  | x :: xs, e :: es => decide (strOf e = some x) && agKeys xs es
  | _, _ => false
def ownOf (N : List Str) : List Nat → List (Str × Nat)
  | [] => []
  | i :: is => match N[i]? with
    | some x => (x, i) :: ownOf N is
    | none => ownOf N is
def inN (N : List Str) (is : List Nat) : Bool := is.all fun i => decide (i < N.length)
def agOne (sc : Scope) : List Ty → Expr → Bool
  | [t], e => agTy sc t e
  | _, _ => false
def agTup (sc : Scope) (ts : List Ty) : Expr → Bool
  | .Tuple es _ _ => agTys sc ts es && decide (es.length ≤ 1000)
  | _ => false
/-- a test that is no boolean form of its own -/
def plainT : Expr → Bool
  | .UnaryOp .Not _ _ => false
  | .BoolOp _ _ _ => false
  | .IfExp _ _ _ _ => false
  | .Compare _ _ _ _ => false
  | _ => true

mutual
def agE (Γ : Gt) (N : List Str) (sc : Scope) : Ex → Expr → Bool
  | .var i, .Name x _ => isV N sc i x
  | .con d, e => isCon d e
  | .glo j, .Name x _ => isG sc x && decide (Γ.cn[j]? = some x)
  | .fnv k, .Name x _ => isG sc x && decide (Γ.fnm[k]? = some x)
  | .tup as, .Tuple es _ _ => agL Γ N sc as es && decide (es.length ≤ 1000)
  | .lst as, .List es _ => agL Γ N sc as es && decide (es.length ≤ 1000)
  | .dct ks as, .Dict kes es _ => agKeys ks kes && agL Γ N sc as es && decide (ks.length ≤ 15) && decide (ks.Nodup) && decide (0 < ks.length) && decide (ks.length = as.length)
  | .neg a, .UnaryOp .USub x _ => agE Γ N sc a x
  | .nt a, .UnaryOp .Not x _ => agE Γ N sc a x
  | .and a b, .BoolOp .And (x :: y :: r) pos => agE Γ N sc a x && (match r with
    | [] => agE Γ N sc b y
    | _ => agE Γ N sc b (.BoolOp .And (y :: r) pos))
  | .or a b, .BoolOp .Or (x :: y :: r) pos => agE Γ N sc a x && (match r with
    | [] => agE Γ N sc b y
    | _ => agE Γ N sc b (.BoolOp .Or (y :: r) pos))
  | .ite c a b, .IfExp z x y _ => agT Γ N sc c z && agE Γ N sc a x && agE Γ N sc b y
  | .bin op a b, .BinOp x o y _ => decide (o = op) && agE Γ N sc a x && agE Γ N sc b y
  | .cmp op a b, .Compare x [o] [y] _ => decide (o = op) && agE Γ N sc a x && agE Γ N sc b y && nst y
  | .chn o1 o2 a b c, .Compare x [p1, p2] [y, z] _ => decide (p1 = o1) && decide (p2 = o2) && agE Γ N sc a x && agE Γ N sc b y && agE Γ N sc c z && nst z
  | .sli a lo hi, .Subscript x (.Slice l u none _) _ => agE Γ N sc a x && agO Γ N sc lo l && agO Γ N sc hi u
  | .idx a b, .Subscript x y _ => agE Γ N sc a x && agE Γ N sc b y && nst y
  | .call k as, .Call (.Name f _) es [] _ => isG sc f && decide (Γ.fnm[k]? = some f) && agL Γ N sc as es
  | .calv i as, .Call (.Name f _) es [] _ => isV N sc i f && agL Γ N sc as es && decide (0 < es.length)
  | .bi f a, .Call (.Name x _) [y] [] _ => isG sc x && decide (x = biS f) && agE Γ N sc a y && nst y
  | .isi a ts, .Call (.Name x _) [y, z] [] _ => isG sc x && decide (x = "isinstance") && agE Γ N sc a y && nst y && decide (0 < ts.length) && (agOne sc ts z || agTup sc ts z)
  | .join s b, .Call (.Attribute (.Constant (.str z) _ _) m ap) [y] [] cp => decide (m = "join") && decide (s = z) && agE Γ N sc b y && nst y && (ap.endLine == cp.line)
  | .comp e t k ss c, .ListComp el [⟨tg, it, ifs, asy⟩] sco _ => decide (asy = 0) && agI Γ N sc k ss tg it && agTg N (relS sco sc) (fun x => sco.names.lookup x == some .cell) t tg &&
      blkC N sc sco (ownOf N (tgS t)) && inN N (tgS t) && decide ((tgS t).Nodup) && agQ Γ N (relS sco sc) c ifs && agE Γ N (relS sco sc) e el
  | _, _ => false
def agL (Γ : Gt) (N : List Str) (sc : Scope) : List Ex → List Expr → Bool
  | [], [] => true
  | a :: as, e :: es => agE Γ N sc a e && nst e && agL Γ N sc as es
  | _, _ => false
def agO (Γ : Gt) (N : List Str) (sc : Scope) : Option Ex → Option Expr → Bool
  | none, none => true
  | some a, some e => agE Γ N sc a e
  | _, _ => false
def agQ (Γ : Gt) (N : List Str) (sc : Scope) : Option Tx → List Expr → Bool
  | none, [] => true
  | some a, [e] => agT Γ N sc a e
  | _, _ => false
def agT (Γ : Gt) (N : List Str) (sc : Scope) : Tx → Expr → Bool
  | .nt a, .UnaryOp .Not x _ => agT Γ N sc a x
  | .and a b, .BoolOp .And (x :: y :: r) pos => agT Γ N sc a x && (match r with
    | [] => agT Γ N sc b y
    | _ => agT Γ N sc b (.BoolOp .And (y :: r) pos))
  | .or a b, .BoolOp .Or (x :: y :: r) pos => agT Γ N sc a x && (match r with
    | [] => agT Γ N sc b y
    | _ => agT Γ N sc b (.BoolOp .Or (y :: r) pos))
  | .at (.cmp op a b), .Compare x [o] [y] _ => decide (o = op) && agE Γ N sc a x && agE Γ N sc b y && nst y
  | .at (.chn o1 o2 a b c), .Compare x [p1, p2] [y, z] _ => decide (p1 = o1) && decide (p2 = o2) && agE Γ N sc a x && agE Γ N sc b y && agE Γ N sc c z && nst z
  | .at (.cmp _ _ _), _ => false
  | .at (.chn _ _ _ _ _), _ => false
  | .at a, e => agE Γ N sc a e && plainT e
  | _, _ => false
def agI (Γ : Gt) (N : List Str) (sc : Scope) : Ik → List Ex → Expr → Expr → Bool
  | .seq, [a], _, e => agE Γ N sc a e && nst e
  | .rng, [a], _, .Call (.Name x _) [y] [] _ => isG sc x && decide (x = "range") && agE Γ N sc a y && nst y
  | .rng2, [a, b], _, .Call (.Name x _) [y, z] [] _ => isG sc x && decide (x = "range") && agE Γ N sc a y && nst y && agE Γ N sc b z && nst z
  | .zip, [a, b], tg, .Call (.Name x _) [y, z] [] _ => isTup tg && isG sc x && decide (x = "zip") && agE Γ N sc a y && nst y && agE Γ N sc b z && nst z
  | .enu, [a], tg, .Call (.Name x _) [y] [] _ => isTup tg && isG sc x && decide (x = "enumerate") && agE Γ N sc a y && nst y
  | _, _, _, _ => false
end
def bnames : List Str := ["len", "int", "list", "tuple", "all", "any", "isinstance", "bool", "str", "range", "zip", "enumerate"]
end Iq
set_option Elab.async false
set_option linter.all false
set_option maxRecDepth 100000
set_option maxHeartbeats 1000000
namespace Iq
open PySem L2

/-! ### a call, by its meaning -/
def OwnsL (Z : Zt) (M : Mu) (H : Hp) : List Addr → List D → Prop
  | [], ds => ds = []
  | a :: as, ds => ∃ d r, ds = d :: r ∧ Own Z M H a d ∧ OwnsL Z M H as r
/-- the arguments: values, and the objects of callers -/
def ArgV (Z : Zt) (M : Mu) (H : Hp) : List Sl → List V → List Addr → Prop
  | [], vs, os => vs = [] ∧ os = []
  | .shr d :: as, vs, os => ∃ v r, vs = v :: r ∧ Rep Z M H d v ∧ ArgV Z M H as r os
  | .own true d :: as, vs, os => ∃ a r q, vs = .ref a :: r ∧ os = a :: q ∧ M a ∧ Own Z M H a d ∧ ArgV Z M H as r q
  | _ :: _, _, _ => False
structure Called (Z : Zt) (M : Mu) (H : Hp) (os : List Addr) (d : D) (fr : Bool) (outs : List D) (v : V) (H' : Hp) : Prop where
  e : Evo (· ∈ os) H H'
  f : ∀ p, H' p = none → H p = none
  r : Rep Z M H' d v
  o : OwnsL Z M H' os outs
  n : fr = true → ∃ p, v = .ref p ∧ H p = none ∧ Own Z (ins M p) H' p d ∧ OwnsL Z (ins M p) H' os outs
def spF (Z : Zt) (fn : List Sl → R (D × Bool × List D)) : Sp := fun vs H Q _ =>
  ∃ (M : Mu) (as : List Sl) (os : List Addr) (d : D) (fr : Bool) (outs : List D), ArgV Z M H as vs os ∧ os.Nodup ∧ (∀ a, M a → ∃ o, H a = some o) ∧ fn as = .ok (d, fr, outs) ∧ ∀ v H', Called Z M H os d fr outs v H' → Q v H'

structure Gd (X : Cx) (fa : Nat → Addr) (Γ : Gt) (P : Pr) (n : Nat) : Prop where
  calm : X.calm = true
  nd : X.N.Nodup
  room : Room n X.A
  free : ∀ x ∈ bnames, X.mg x = none
  con : ∀ (j : Nat) x d, Γ.cn[j]? = some x → P.cs[j]? = some d → ∃ u v, X.mg x = some u ∧ RelV v u ∧ ∀ M H, Rep (zt X fa) M H d v
  fns : ∀ (k : Nat) x, Γ.fnm[k]? = some x → X.mg x = some (.ref (fa k)) ∧ PySem.W.keepIn X.K (.ref (fa k)) = true ∧ ∃ fd ps, Binds X.K fd ps [] ∧ FnOk X.prog X.w X.K X.mg X.base CX0 n (fa k) fd ps (spF (zt X fa) (P.fn k))
  fnk : ∀ (k : Nat) as r, P.fn k as = .ok r → ∃ x, Γ.fnm[k]? = some x
theorem Gd.blk {X : Cx} {fa : Nat → Addr} {Γ : Gt} {P : Pr} {n : Nat} (G : Gd X fa Γ P n) (s : Shared) (H : Hp) (sc : Scope) (ce : Env) (fp : List Addr) : Gd (X.blk s H sc ce fp) fa Γ P n :=
  ⟨G.calm, G.nd, G.room, G.free, G.con, G.fns, G.fnk⟩

/-! ### side conditions of the text -/
section
variable {env : Env} {e : Expr} {es : List Expr} {pos : Pos}
theorem star_cons (h : nst e = true) : starEach (e :: es) env = (false, eval e env) :: starEach es env := by
  cases e <;> first | rfl | cases h
theorem star_any : ∀ {es : List Expr}, es.all nst = true → (backTo pos (starEach es env)).any (·.1) = false
  | [], _ => rfl
  | e :: es, h => by
    simp only [List.all_cons, Bool.and_eq_true] at h
    rw [star_cons h.1]
    show (false || (backTo pos (starEach es env)).any (·.1)) = false
    rw [star_any h.2]; rfl
theorem plain_ix (h : nst e = true) : PlainIx e := fun o i => by
  cases e <;> first | rfl | cases h
theorem no_marks {op : CmpOp} (h : nst e = true) : behindInMarks op e = false := by
  cases e <;> first | rfl | cases h
theorem no_fold (h : nst e = true) : ∀ x, foldedSetIterable e env x = pure x := fun x => by
  cases e <;> first | rfl | cases h
theorem base_con {c : Const} {k : Nat} {p : Pos} {m : Str} : attributeBase (.Constant c k p) m env (eval (.Constant c k p) env) = eval (.Constant c k p) env := rfl
end

section
variable {X : Cx} {fa : Nat → Addr} {Γ : Gt} {P : Pr} {n : Nat} {F : Fm} {e x y z : Expr} {pos : Pos}
theorem isG_gl {sc : Scope} {x : Str} (hs : X.env.scope = sc) (h : isG sc x = true) : Gl X x ∧ (x == ("__debug__" : Str)) = false := by
  simp only [isG, Bool.and_eq_true, decide_eq_true_eq, Bool.not_eq_true'] at h
  exact ⟨by unfold Gl Env.kindOf; rw [hs]; exact h.1, h.2⟩

/-! ### names and constants -/
theorem s_var {sc : Scope} {i : Nat} {x : Str} (hs : X.env.scope = sc) (h : isV X.N sc i x = true) : PE X (.Name x pos) (tVar i) := by
  simp only [isV, Bool.and_eq_true, decide_eq_true_eq, Bool.not_eq_true', Bool.or_eq_true] at h
  obtain ⟨⟨⟨h1, h2⟩, h3⟩, h4⟩ := h
  refine pe_var h1 ?_ h2 h3
  unfold Vis
  rw [hs]
  rcases h4 with (h4 | h4) | h4
  · exact .inl h4
  · exact .inr (.inl h4)
  · exact .inr (.inr h4)
theorem rd_varE {Z : Zt} {i : Nat} {σ : L2.St} {H : Hp} {Q : VK} (h : rdE Z F (evE P (.var i)) σ H Q) : tVar i σ H Q := by
  obtain ⟨M, ς, d, fr, ς', S, e, k⟩ := h
  simp only [evE] at e
  split at e
  · cases e
    obtain ⟨v, h1, h2⟩ := S.shr i _ (by assumption)
    exact ⟨v, h1, k v H ⟨M, .refl S, h2, fun q => by cases q⟩⟩
  · cases e
    obtain ⟨a, M', h1, h2, h3⟩ := S.freeze (by assumption)
    exact ⟨_, h1, k _ H ⟨M', h2, h3, fun q => by cases q⟩⟩
  · cases e
theorem rd_varH {Z : Zt} {i : Nat} {f : List Sl → R (D × Bool × List Sl)} {σ : L2.St} {H : Hp} {Q : VK} (h : rdH Z F (hd (.var i) f) σ H Q) : tVar i σ H Q := by
  obtain ⟨M, ς, g, ς', S, e, k⟩ := h
  simp only [hd] at e
  split at e
  · cases e
    obtain ⟨a, h1, _⟩ := S.own i _ _ (by assumption)
    exact ⟨_, h1, k _ H M (.refl S) h1⟩
  · cases e
    obtain ⟨v, h1, h2⟩ := S.shr i _ (by assumption)
    exact ⟨v, h1, k v H M (.refl S) h2⟩
  · cases e
theorem rd_same {Z : Zt} {d : D} {v : V} {f : List Sl → R (D × Bool × List Sl)} (hf : ∀ ς, f ς = .ok (d, false, ς)) (hr : ∀ M H, Rep Z M H d v) {σ : L2.St} {H : Hp} {Q : VK} (h : rdE Z F f σ H Q) : tC v σ H Q := by
  obtain ⟨M, ς, g, fr, ς', S, e, k⟩ := h
  rw [hf] at e; cases e
  exact k v H ⟨M, .refl S, hr _ _, fun q => by cases q⟩
theorem s_con {d : D} (h : isCon d e = true) : PE X e (rdE (zt X fa) F (evE P (.con d))) := by
  have hf : ∀ ς, evE P (.con d) ς = .ok (d, false, ς) := fun ς => by simp only [evE]
  unfold isCon at h
  split at h
  · exact pimp pe_non fun σ H Q q => rd_same hf (fun _ _ => rep_non) q
  · rw [← beq_iff_eq.mp h]; rw [← beq_iff_eq.mp h] at *; exact pimp pe_bl fun σ H Q q => rd_same hf (fun _ _ => rep_bl) q
  · rw [← of_decide_eq_true h]; exact pimp pe_int fun σ H Q q => rd_same hf (fun _ _ => rep_int) q
  · rw [← of_decide_eq_true h]; exact pimp pe_str fun σ H Q q => rd_same hf (fun _ _ => rep_str) q
  · cases h
theorem s_glo (G : Gd X fa Γ P n) {sc : Scope} {j : Nat} {x : Str} (hs : X.env.scope = sc) (h : isG sc x = true) (hx : Γ.cn[j]? = some x) : PE X (.Name x pos) (rdE (zt X fa) F (evE P (.glo j))) := by
  obtain ⟨hg, hd⟩ := isG_gl hs h
  cases hd' : P.cs[j]? with
  | none => exact ⟨fun pins s σ H Q I ⟨M, ς, g, fr, ς', S, e, k⟩ => by simp only [evE, hd'] at e; cases e⟩
  | some d =>
    obtain ⟨u, v, h1, h2, h3⟩ := G.con j x d hx hd'
    exact pimp (pe_glob hg h1 h2 hd) fun σ H Q q => rd_same (fun ς => by simp only [evE, hd']) h3 q
theorem s_fnv (G : Gd X fa Γ P n) {sc : Scope} {k : Nat} {x : Str} (hs : X.env.scope = sc) (h : isG sc x = true) (hx : Γ.fnm[k]? = some x) : PE X (.Name x pos) (rdE (zt X fa) F (evE P (.fnv k))) := by
  obtain ⟨hg, hd⟩ := isG_gl hs h
  obtain ⟨h1, _⟩ := G.fns k x hx
  exact pimp (pe_glob (v := .ref (fa k)) hg h1 rfl hd) fun σ H Q q => rd_same (d := .fn k) (fun ς => by simp only [evE]) (fun M H => by simp only [Rep]) q

/-! ### rows -/
theorem l_nil {Z : Zt} : PA X [] (rdL Z F (evL P [])) := ⟨fun pos pins s σ H Q I ⟨M, ς, ds, ς', S, e, k⟩ => by
  simp only [evL] at e; cases e
  exact pa_nil.run pos pins s σ H Q I (k [] H M (.refl S) (by simp only [RepL]))⟩
theorem l_cons {Z : Zt} {a : Ex} {as : List Ex} {es : List Expr} (h1 : PE X e (rdE Z F (evE P a))) (h2 : PA X es (rdL Z F (evL P as))) (hn : nst e = true) : PA X (e :: es) (rdL Z F (evL P (a :: as))) := ⟨fun pos pins s σ H Q I ⟨M, ς, ds, ς', S, e, k⟩ => by
  simp only [evL] at e
  obtain ⟨⟨d, fr, ς1⟩, e1, e⟩ := R.bind_is e
  obtain ⟨⟨ds2, ς2⟩, e2, e⟩ := R.bind_is e
  cases e
  refine (pa_cons h1 h2 (star_cons hn)).run pos pins s σ H Q I ⟨M, ς, d, fr, ς1, S, e1, fun v H1 ⟨M1, n1, r1, _⟩ => ⟨M1, ς1, ds2, _, n1.S, e2, fun vs H2 M2 n2 r2 => k _ H2 M2 (n1.trans n2) ?_⟩⟩
  simp only [RepL]
  exact ⟨v, vs, rfl, n2.rep r1, r2⟩⟩
theorem evL_len {P : Pr} : ∀ {as : List Ex} {ς : List Sl} {ds : List D} {ς' : List Sl}, evL P as ς = .ok (ds, ς') → ds.length = as.length
  | [], ς, ds, ς', e => by simp only [evL] at e; cases e; rfl
  | a :: as, ς, ds, ς', e => by
    simp only [evL] at e
    obtain ⟨_, e1, e⟩ := R.bind_is e
    obtain ⟨⟨ds2, ς2⟩, e2, e⟩ := R.bind_is e
    cases e
    simp [evL_len e2]
theorem s_tup {as : List Ex} {es : List Expr} {k1 : Nat} (h : PA X es (rdL (zt X fa) F (evL P as))) (hl : as.length ≤ 1000) : PE X (.Tuple es k1 pos) (rdE (zt X fa) F (evE P (.tup as))) :=
  pimp (pe_tup h) fun σ H Q ⟨M, ς, d, fr, ς', S, e, k⟩ => by
    simp only [evE] at e
    obtain ⟨⟨ds, ς1⟩, e1, e⟩ := R.bind_is e
    cases e
    refine ⟨M, ς, ds, _, S, e1, fun vs H1 M1 n1 r1 => ⟨?_, fun p hp => k _ _ (Mk.aft (.tup hp r1) n1)⟩⟩
    rw [← r1.length, evL_len e1]; exact Nat.le_trans hl (by decide)
theorem s_lst {as : List Ex} {es : List Expr} (h : PA X es (rdL (zt X fa) F (evL P as))) (hl : as.length ≤ 1000) : PE X (.List es pos) (rdE (zt X fa) F (evE P (.lst as))) :=
  pimp (pe_lst h) fun σ H Q ⟨M, ς, d, fr, ς', S, e, k⟩ => by
    simp only [evE] at e
    obtain ⟨⟨ds, ς1⟩, e1, e⟩ := R.bind_is e
    cases e
    refine ⟨M, ς, ds, _, S, e1, fun vs H1 M1 n1 r1 => ⟨?_, fun p hp => k _ _ (Mk.aft (.lst hp r1) n1)⟩⟩
    rw [← r1.length, evL_len e1]; exact Nat.le_trans hl (by decide)

/-! ### operators -/
theorem s_bin {op : Operator} {a b : Ex} (ha : PE X x (rdH (zt X fa) F (hd a (evE P a)))) (hb : PE X y (rdH (zt X fa) F (hd b (evE P b)))) : PE X (.BinOp x op y pos) (rdE (zt X fa) F (evE P (.bin op a b))) :=
  pimp (pe_op (op_bin (fa := fa) op) ha hb) fun σ H Q ⟨M, ς, d, fr, ς', S, e, k⟩ => by
    simp only [evE] at e
    obtain ⟨h, e1, e⟩ := R.bind_is e
    obtain ⟨g, e2, e⟩ := R.bind_is e
    obtain ⟨d1, e3, e⟩ := R.bind_is e
    obtain ⟨d2, e4, e⟩ := R.bind_is e
    obtain ⟨o, e5, e⟩ := R.bind_is e
    cases e
    exact two S e1 e2 fun v u H2 M2 n2 r1 r2 => ⟨M2, d1, d2, o, deref_pk n2.S r1 e3, deref_pk n2.S r2 e4, e5, fun w H3 m => k _ _ (m.aft n2)⟩
theorem s_cmp (G : Gd X fa Γ P n) {op : CmpOp} {a b : Ex} (ha : PE X x (rdH (zt X fa) F (hd a (evE P a)))) (hb : PE X y (rdH (zt X fa) F (hd b (evE P b)))) (hn : nst y = true) : PE X (.Compare x [op] [y] pos) (rdE (zt X fa) F (evE P (.cmp op a b))) :=
  pimp (pe_cmpR (op_cmp (fa := fa) G.room.units op) ha hb (no_marks hn)) fun σ H Q ⟨M, ς, d, fr, ς', S, e, k⟩ => by
    simp only [evE] at e
    obtain ⟨h, e1, e⟩ := R.bind_is e
    obtain ⟨g, e2, e⟩ := R.bind_is e
    obtain ⟨d1, e3, e⟩ := R.bind_is e
    obtain ⟨d2, e4, e⟩ := R.bind_is e
    obtain ⟨o, e5, e⟩ := R.bind_is e
    cases e
    exact two S e1 e2 fun v u H2 M2 n2 r1 r2 => ⟨M2, d1, d2, o, deref_pk n2.S r1 e3, deref_pk n2.S r2 e4, e5, k _ _ (Mk.aft (.same rep_bl) n2)⟩
theorem t_cmp (G : Gd X fa Γ P n) {op : CmpOp} {a b : Ex} (ha : PE X x (rdH (zt X fa) F (hd a (evE P a)))) (hb : PE X y (rdH (zt X fa) F (hd b (evE P b)))) (hn : nst y = true) : PT X (.Compare x [op] [y] pos) (rdT (zt X fa) F (evT P (.at (.cmp op a b)))) :=
  timp (pt_cmpR (op_cmp (fa := fa) G.room.units op) ha hb (no_marks hn)) fun σ H Q ⟨M, ς, b, ς', S, e, k⟩ => by
    simp only [evT, hd, evE] at e
    obtain ⟨_, e0, e⟩ := R.bind_is e
    obtain ⟨_, e0, ee⟩ := R.bind_is e0
    obtain ⟨h, e1, e0⟩ := R.bind_is e0
    obtain ⟨g, e2, e0⟩ := R.bind_is e0
    obtain ⟨d1, e3, e0⟩ := R.bind_is e0
    obtain ⟨d2, e4, e0⟩ := R.bind_is e0
    obtain ⟨o, e5, e0⟩ := R.bind_is e0
    cases e0; cases ee
    simp only [deref, R.bind_ok, truth] at e
    cases e
    exact two S e1 e2 fun v u H2 M2 n2 r1 r2 => ⟨M2, d1, d2, _, deref_pk n2.S r1 e3, deref_pk n2.S r2 e4, e5, _, rfl, k _ _ n2⟩
theorem chain_go {o1 o2 : CmpOp} {a b c : Ex} {σ : L2.St} {H : Hp} {Q : VK} (h : rdE (zt X fa) F (evE P (.chn o1 o2 a b c)) σ H Q) :
    tChain (rCmp (zt X fa) o1) (rCmp (zt X fa) o2) (rdH (zt X fa) F (hd a (evE P a))) (rdH (zt X fa) F (hd b (evE P b))) (rdH (zt X fa) F (hd c (evE P c))) σ H Q := by
  obtain ⟨M, ς, d, fr, ς', S, e, k⟩ := h
  simp only [evE] at e
  obtain ⟨h, e1, e⟩ := R.bind_is e
  obtain ⟨g, e2, e⟩ := R.bind_is e
  obtain ⟨d1, e3, e⟩ := R.bind_is e
  obtain ⟨d2, e4, e⟩ := R.bind_is e
  obtain ⟨t, e5, e⟩ := R.bind_is e
  refine two S e1 e2 fun v u H2 M2 n2 r1 r2 => ⟨M2, d1, d2, t, deref_pk n2.S r1 e3, deref_pk n2.S r2 e4, e5, t, rfl, ?_⟩
  cases t with
  | false =>
    simp only [cond_false] at e; cases e
    rw [if_neg Bool.false_ne_true]
    exact k _ _ (Mk.aft (.same rep_bl) n2)
  | true =>
    simp only [cond_true] at e
    obtain ⟨f, e6, e⟩ := R.bind_is e
    obtain ⟨d3, e7, e⟩ := R.bind_is e
    obtain ⟨d4, e8, e⟩ := R.bind_is e
    obtain ⟨t2, e9, e⟩ := R.bind_is e
    cases e
    rw [if_pos rfl]
    exact ⟨M2, g.2, f.1, f.2, n2.S, e6, fun w H3 M3 n3 r3 => ⟨M3, d3, d4, t2, deref_pk n3.S (n3.hdv r2) e7, deref_pk n3.S r3 e8, e9, k _ _ (Mk.aft (.same rep_bl) (n2.trans n3))⟩⟩
theorem s_chn (G : Gd X fa Γ P n) {o1 o2 : CmpOp} {a b c : Ex} (ha : PE X x (rdH (zt X fa) F (hd a (evE P a)))) (hb : PE X y (rdH (zt X fa) F (hd b (evE P b)))) (hc : PE X z (rdH (zt X fa) F (hd c (evE P c)))) (hn : nst z = true) :
    PE X (.Compare x [o1, o2] [y, z] pos) (rdE (zt X fa) F (evE P (.chn o1 o2 a b c))) :=
  pimp (pe_chain (op_cmp (fa := fa) G.room.units o1) (op_cmp (fa := fa) G.room.units o2) ha hb hc (no_marks hn)) fun σ H Q h => chain_go h
theorem t_chn (G : Gd X fa Γ P n) {o1 o2 : CmpOp} {a b c : Ex} (ha : PE X x (rdH (zt X fa) F (hd a (evE P a)))) (hb : PE X y (rdH (zt X fa) F (hd b (evE P b)))) (hc : PE X z (rdH (zt X fa) F (hd c (evE P c)))) (hn : nst z = true) :
    PT X (.Compare x [o1, o2] [y, z] pos) (rdT (zt X fa) F (evT P (.at (.chn o1 o2 a b c)))) :=
  timp (pt_chain (op_cmp (fa := fa) G.room.units o1) (op_cmp (fa := fa) G.room.units o2) ha hb hc (no_marks hn)) fun σ H Q ⟨M, ς, b, ς', S, e, k⟩ => by
    simp only [evT, hd] at e
    obtain ⟨_, e9, e⟩ := R.bind_is e
    obtain ⟨⟨d, fr, ς1⟩, e0, ee⟩ := R.bind_is e9
    cases ee
    simp only [deref, R.bind_ok] at e
    obtain ⟨t, e1, e⟩ := R.bind_is e
    cases e
    refine chain_go ⟨M, ς, d, fr, _, S, e0, fun v H' ⟨M', n', r', _⟩ => ?_⟩
    have hb : ∃ t', d = .bl t' := by
      clear e9
      simp only [evE] at e0
      obtain ⟨h, e1, e0⟩ := R.bind_is e0
      obtain ⟨g, e2, e0⟩ := R.bind_is e0
      obtain ⟨d1, e3, e0⟩ := R.bind_is e0
      obtain ⟨d2, e4, e0⟩ := R.bind_is e0
      obtain ⟨t, e5, e0⟩ := R.bind_is e0
      cases t with
      | false => simp only [cond_false] at e0; cases e0; exact ⟨_, rfl⟩
      | true =>
        simp only [cond_true] at e0
        obtain ⟨f, e6, e0⟩ := R.bind_is e0
        obtain ⟨d3, e7, e0⟩ := R.bind_is e0
        obtain ⟨d4, e8, e0⟩ := R.bind_is e0
        obtain ⟨t2, e9, e0⟩ := R.bind_is e0
        cases e0; exact ⟨_, rfl⟩
    obtain ⟨t', rfl⟩ := hb
    simp only [truth] at e1; cases e1
    simp only [Rep] at r'
    exact ⟨_, r', k _ _ n'⟩
theorem s_neg {a : Ex} (ha : PE X x (rdH (zt X fa) F (hd a (evE P a)))) : PE X (.UnaryOp .USub x pos) (rdE (zt X fa) F (evE P (.neg a))) :=
  pimp (pe_un un_neg ha) fun σ H Q ⟨M, ς, d, fr, ς', S, e, k⟩ => by
    simp only [evE] at e
    obtain ⟨h, e1, e⟩ := R.bind_is e
    obtain ⟨d1, e3, e⟩ := R.bind_is e
    obtain ⟨i, e4, e⟩ := R.bind_is e
    cases e
    refine ⟨M, ς, h.1, h.2, S, e1, fun v H1 M1 n1 r1 => ?_⟩
    have p := deref_pk n1.S r1 e3
    cases d1 <;> simp only [intOf] at e4 <;> cases e4
    exact ⟨_, p.int, k _ _ (Mk.aft (.same rep_int) n1)⟩
theorem s_nt {a : Ex} (ha : PE X x (rdH (zt X fa) F (hd a (evE P a)))) : PE X (.UnaryOp .Not x pos) (rdE (zt X fa) F (evE P (.nt a))) :=
  pimp (pe_notT ha) fun σ H Q ⟨M, ς, d, fr, ς', S, e, k⟩ => by
    simp only [evE] at e
    obtain ⟨h, e1, e⟩ := R.bind_is e
    obtain ⟨d1, e3, e⟩ := R.bind_is e
    obtain ⟨b, e4, e⟩ := R.bind_is e
    cases e
    exact ⟨M, ς, h.1, h.2, S, e1, fun v H1 M1 n1 r1 => ⟨b, truth_pk (deref_pk n1.S r1 e3) e4, k _ _ (Mk.aft (.same rep_bl) n1)⟩⟩
theorem s_and {a b : Ex} {r : List Expr} (ha : PE X x (rdE (zt X fa) F (evE P a))) (hb : PE X (.BoolOp .And (y :: r) pos) (rdE (zt X fa) F (evE P b))) : PE X (.BoolOp .And (x :: y :: r) pos) (rdE (zt X fa) F (evE P (.and a b))) :=
  pimp (pe_andT ha hb) fun σ H Q ⟨M, ς, d, fr, ς', S, e, k⟩ => by
    simp only [evE] at e
    obtain ⟨⟨d1, f1, ς1⟩, e1, e⟩ := R.bind_is e
    obtain ⟨t, e2, e⟩ := R.bind_is e
    refine ⟨M, ς, d1, f1, ς1, S, e1, fun v H1 ⟨M1, n1, r1, _⟩ => ⟨t, truth_pk r1.pk e2, ?_⟩⟩
    cases t with
    | true =>
      rw [if_pos rfl]
      simp only [cond_true] at e
      exact ⟨M1, ς1, d, fr, ς', n1.S, e, fun w H2 ⟨M2, n2, r2, q2⟩ => k w H2 ⟨M2, n1.trans n2, r2, fun z => let ⟨p, h1, h2, h3⟩ := q2 z; ⟨p, h1, n1.f p h2, h3⟩⟩⟩
    | false =>
      rw [if_neg Bool.false_ne_true]
      simp only [cond_false] at e; cases e
      exact k v H1 ⟨M1, n1, r1, fun q => by cases q⟩
theorem s_or {a b : Ex} {r : List Expr} (ha : PE X x (rdE (zt X fa) F (evE P a))) (hb : PE X (.BoolOp .Or (y :: r) pos) (rdE (zt X fa) F (evE P b))) : PE X (.BoolOp .Or (x :: y :: r) pos) (rdE (zt X fa) F (evE P (.or a b))) :=
  pimp (pe_orT ha hb) fun σ H Q ⟨M, ς, d, fr, ς', S, e, k⟩ => by
    simp only [evE] at e
    obtain ⟨⟨d1, f1, ς1⟩, e1, e⟩ := R.bind_is e
    obtain ⟨t, e2, e⟩ := R.bind_is e
    refine ⟨M, ς, d1, f1, ς1, S, e1, fun v H1 ⟨M1, n1, r1, _⟩ => ⟨t, truth_pk r1.pk e2, ?_⟩⟩
    cases t with
    | false =>
      rw [if_neg Bool.false_ne_true]
      simp only [cond_false] at e
      exact ⟨M1, ς1, d, fr, ς', n1.S, e, fun w H2 ⟨M2, n2, r2, q2⟩ => k w H2 ⟨M2, n1.trans n2, r2, fun z => let ⟨p, h1, h2, h3⟩ := q2 z; ⟨p, h1, n1.f p h2, h3⟩⟩⟩
    | true =>
      rw [if_pos rfl]
      simp only [cond_true] at e; cases e
      exact k v H1 ⟨M1, n1, r1, fun q => by cases q⟩
theorem s_ite {c : Tx} {a b : Ex} (hc : PT X z (rdT (zt X fa) F (evT P c))) (ha : PE X x (rdE (zt X fa) F (evE P a))) (hb : PE X y (rdE (zt X fa) F (evE P b))) : PE X (.IfExp z x y pos) (rdE (zt X fa) F (evE P (.ite c a b))) :=
  pimp (pe_ifExp hc ha hb) fun σ H Q ⟨M, ς, d, fr, ς', S, e, k⟩ => by
    simp only [evE] at e
    obtain ⟨⟨t, ς1⟩, e1, e⟩ := R.bind_is e
    refine ⟨M, ς, t, ς1, S, e1, fun H1 M1 n1 => ?_⟩
    cases t with
    | true =>
      rw [if_pos rfl]
      simp only [cond_true] at e
      exact ⟨M1, ς1, d, fr, ς', n1.S, e, fun w H2 ⟨M2, n2, r2, q2⟩ => k w H2 ⟨M2, n1.trans n2, r2, fun z => let ⟨p, h1, h2, h3⟩ := q2 z; ⟨p, h1, n1.f p h2, h3⟩⟩⟩
    | false =>
      rw [if_neg Bool.false_ne_true]
      simp only [cond_false] at e
      exact ⟨M1, ς1, d, fr, ς', n1.S, e, fun w H2 ⟨M2, n2, r2, q2⟩ => k w H2 ⟨M2, n1.trans n2, r2, fun z => let ⟨p, h1, h2, h3⟩ := q2 z; ⟨p, h1, n1.f p h2, h3⟩⟩⟩
theorem s_idx (G : Gd X fa Γ P n) {a b : Ex} (ha : PE X x (rdH (zt X fa) F (hd a (evE P a)))) (hb : PE X y (rdH (zt X fa) F (hd b (evE P b)))) (hn : nst y = true) : PE X (.Subscript x y pos) (rdE (zt X fa) F (evE P (.idx a b))) :=
  pimp (pe_ix (ix_D (fa := fa) G.room.units) ha hb (plain_ix hn)) fun σ H Q ⟨M, ς, d, fr, ς', S, e, k⟩ => by
    simp only [evE] at e
    obtain ⟨h, e1, e⟩ := R.bind_is e
    obtain ⟨g, e2, e⟩ := R.bind_is e
    obtain ⟨d1, e3, e⟩ := R.bind_is e
    obtain ⟨d2, e4, e⟩ := R.bind_is e
    obtain ⟨o, e5, e⟩ := R.bind_is e
    cases e
    exact two S e1 e2 fun v u H2 M2 n2 r1 r2 => ⟨M2, d1, d2, _, deref_pk n2.S r1 e3, deref_pk n2.S r2 e4, e5, fun w r => k _ _ (Mk.aft (.same r) n2)⟩
theorem o_none {Z : Zt} : PO X none (rdO Z F (evO P none)) := ⟨fun pins s σ H Q I ⟨M, ς, o, ς', S, e, k⟩ => by
  simp only [evO] at e; cases e
  exact po_none.run pins s σ H Q I (k H M (.refl S))⟩
theorem o_some {a : Ex} (ha : PE X x (rdH (zt X fa) F (hd a (evE P a)))) : PO X (some x) (rdO (zt X fa) F (evO P (some a))) := ⟨fun pins s σ H Q I ⟨M, ς, o, ς', S, e, k⟩ => by
  simp only [evO] at e
  obtain ⟨h, e1, e⟩ := R.bind_is e
  obtain ⟨d, e2, e⟩ := R.bind_is e
  obtain ⟨i, e3, e⟩ := R.bind_is e
  cases e
  refine (po_some ha).run pins s σ H Q I ⟨M, ς, h.1, h.2, S, e1, fun v H1 M1 n1 r1 => ?_⟩
  have p := deref_pk n1.S r1 e2
  cases d <;> simp only [intOf] at e3 <;> cases e3
  exact ⟨_, p.int, k _ _ n1⟩⟩
theorem s_sli {a : Ex} {lo hi : Option Ex} {l u : Option Expr} {p2 : Pos} (ha : PE X x (rdH (zt X fa) F (hd a (evE P a)))) (hl : PO X l (rdO (zt X fa) F (evO P lo))) (hu : PO X u (rdO (zt X fa) F (evO P hi))) :
    PE X (.Subscript x (.Slice l u none p2) pos) (rdE (zt X fa) F (evE P (.sli a lo hi))) :=
  pimp (pe_slice (sl_D (fa := fa)) ha hl hu) fun σ H Q ⟨M, ς, d, fr, ς', S, e, k⟩ => by
    simp only [evE] at e
    obtain ⟨h, e1, e⟩ := R.bind_is e
    obtain ⟨⟨o1, ς1⟩, e2, e⟩ := R.bind_is e
    obtain ⟨⟨o2, ς2⟩, e3, e⟩ := R.bind_is e
    obtain ⟨d1, e4, e⟩ := R.bind_is e
    obtain ⟨o, e5, e⟩ := R.bind_is e
    cases e
    exact ⟨M, ς, h.1, h.2, S, e1, fun v H1 M1 n1 r1 => ⟨M1, h.2, o1, ς1, n1.S, e2, fun H2 M2 n2 => ⟨M2, ς1, o2, ς2, n2.S, e3, fun H3 M3 n3 =>
      ⟨M3, d1, o, deref_pk n3.S (n3.hdv (n2.hdv r1)) e4, e5, fun w H4 m => k _ _ (m.aft ((n1.trans n2).trans n3))⟩⟩⟩⟩
end
end Iq
set_option Elab.async false
set_option linter.all false
set_option maxRecDepth 100000
set_option maxHeartbeats 1000000
namespace Iq
open PySem L2

section
variable {X : Cx} {fa : Nat → Addr} {Γ : Gt} {P : Pr} {n : Nat} {F : Fm} {e x y z : Expr} {pos : Pos}

theorem HdV.new {Z : Zt} {M : Mu} {σ : L2.St} {H : Hp} {h : Hd} {v : V} {p : Addr} {o : HO} (r : HdV Z M σ H h v) (hp : H p = none) : HdV Z M σ (upd H p o) h v := by
  cases h with
  | val d => exact Rep.carry (.evo (.new hp)) _ _ r
  | sl i => exact r

/-! ### tests -/
theorem plain_true {env : Env} (h : plainT e = true) : ∀ whole, isTrue e env whole = (do let v ← whole; standAt e.pos; holding [v] (truthy v)) := fun whole => by
  cases e with
  | UnaryOp op a p => cases op <;> first | rfl | cases h
  | _ => first | rfl | cases h
theorem t_at {a : Ex} (ha : PE X x (rdH (zt X fa) F (hd a (evE P a)))) (hp : plainT x = true) : PT X x (rdT (zt X fa) F (evT P (.at a))) :=
  timp (pt_truth ha (plain_true hp)) fun σ H Q ⟨M, ς, b, ς', S, e, k⟩ => by
    simp only [evT] at e
    obtain ⟨h, e1, e⟩ := R.bind_is e
    obtain ⟨d, e2, e⟩ := R.bind_is e
    obtain ⟨t, e3, e⟩ := R.bind_is e
    cases e
    exact ⟨M, ς, h.1, h.2, S, e1, fun v H1 M1 n1 r1 => ⟨_, truth_pk (deref_pk n1.S r1 e2) e3, k _ _ n1⟩⟩
theorem t_nt {a : Tx} (ha : PT X x (rdT (zt X fa) F (evT P a))) : PT X (.UnaryOp .Not x pos) (rdT (zt X fa) F (evT P (.nt a))) :=
  timp (pt_not ha) fun σ H Q ⟨M, ς, b, ς', S, e, k⟩ => by
    simp only [evT] at e
    obtain ⟨⟨t, ς1⟩, e1, e⟩ := R.bind_is e
    cases e
    exact ⟨M, ς, _, _, S, e1, fun H1 M1 n1 => k _ _ n1⟩
theorem go_and {Z : Zt} {a b : Tx} {σ : L2.St} {H : Hp} {Q : Bool → Hp → Prop} (h : rdT Z F (evT P (.and a b)) σ H Q) : tAnd (rdT Z F (evT P a)) (rdT Z F (evT P b)) σ H Q := by
  obtain ⟨M, ς, t, ς', S, e, k⟩ := h
  simp only [evT] at e
  obtain ⟨⟨t1, ς1⟩, e1, e⟩ := R.bind_is e
  refine ⟨M, ς, t1, ς1, S, e1, fun H1 M1 n1 => ?_⟩
  cases t1 with
  | true =>
    rw [if_pos rfl]
    simp only [cond_true] at e
    exact ⟨M1, ς1, t, ς', n1.S, e, fun H2 M2 n2 => k H2 M2 (n1.trans n2)⟩
  | false =>
    rw [if_neg Bool.false_ne_true]
    simp only [cond_false] at e; cases e
    exact k _ _ n1
theorem go_or {Z : Zt} {a b : Tx} {σ : L2.St} {H : Hp} {Q : Bool → Hp → Prop} (h : rdT Z F (evT P (.or a b)) σ H Q) : tOr (rdT Z F (evT P a)) (rdT Z F (evT P b)) σ H Q := by
  obtain ⟨M, ς, t, ς', S, e, k⟩ := h
  simp only [evT] at e
  obtain ⟨⟨t1, ς1⟩, e1, e⟩ := R.bind_is e
  refine ⟨M, ς, t1, ς1, S, e1, fun H1 M1 n1 => ?_⟩
  cases t1 with
  | false =>
    rw [if_neg Bool.false_ne_true]
    simp only [cond_false] at e
    exact ⟨M1, ς1, t, ς', n1.S, e, fun H2 M2 n2 => k H2 M2 (n1.trans n2)⟩
  | true =>
    rw [if_pos rfl]
    simp only [cond_true] at e; cases e
    exact k _ _ n1
theorem wimp {t t' : TT} (h : PW X e t) (i : ∀ σ H Q, t' σ H Q → t σ H Q) : PW X e t' := ⟨fun wh pins s σ H Q I q => h.run wh pins s σ H Q I (i σ H Q q)⟩

/-! ### built-ins -/
theorem mem_bn {x : Str} (h : bnames.contains x = true) : x ∈ bnames := by simpa using h
theorem s_bi (G : Gd X fa Γ P n) {sc : Scope} {f : Bi} {a : Ex} {x : Str} {p : Pos} (hs : X.env.scope = sc) (h : isG sc x = true) (hx : x = biS f) (ha : PE X y (rdH (zt X fa) F (hd a (evE P a)))) (hn : nst y = true) :
    PE X (.Call (.Name x p) [y] [] pos) (rdE (zt X fa) F (evE P (.bi f a))) := by
  obtain ⟨hg, hd⟩ := isG_gl hs h
  have hm : X.mg x = none := G.free x (by rw [hx]; cases f <;> exact mem_bn (by decide +kernel))
  have go : ∀ σ H Q, rdE (zt X fa) F (evE P (.bi f a)) σ H Q → tCB (rBi (zt X fa) f) (tCons (rdH (zt X fa) F (Iq.hd a (evE P a))) tNil) σ H Q := fun σ H Q ⟨M, ς, d, fr, ς', S, e, k⟩ => by
    simp only [evE] at e
    obtain ⟨h, e1, e⟩ := R.bind_is e
    obtain ⟨d1, e2, e⟩ := R.bind_is e
    obtain ⟨o, e3, e⟩ := R.bind_is e
    cases e
    exact ⟨M, ς, h.1, h.2, S, e1, fun v H1 M1 n1 r1 => ⟨M1, d1, o, v, rfl, deref_pk n1.S r1 e2, e3, fun w H2 m => k _ _ (m.aft n1)⟩⟩
  have pa : PA X [y] (tCons (rdH (zt X fa) F (Iq.hd a (evE P a))) tNil) := pa_cons ha pa_nil (star_cons hn)
  have hnn : x ≠ "__name__" := by rw [hx]; cases f <;> decide +kernel
  cases f with
  | len => exact pimp (pe_callB (id := "len") (cr_bi G.calm .len) hg hm (by rw [hx]; decide +kernel) pa hnn hd (star_cons hn) rfl) go
  | all => exact pimp (pe_callB (id := "all") (cr_bi G.calm .all) hg hm (by rw [hx]; decide +kernel) pa hnn hd (star_cons hn) rfl) go
  | any => exact pimp (pe_callB (id := "any") (cr_bi G.calm .any) hg hm (by rw [hx]; decide +kernel) pa hnn hd (star_cons hn) rfl) go
  | int => exact pimp (pe_callTy (T := "int") (cr_bi G.calm .int) hg hm (by rw [hx]; decide +kernel) pa hnn hd (star_cons hn) rfl) go
  | list => exact pimp (pe_callTy (T := "list") (cr_bi G.calm .list) hg hm (by rw [hx]; decide +kernel) pa hnn hd (star_cons hn) rfl) go
  | tuple => exact pimp (pe_callTy (T := "tuple") (cr_bi G.calm .tuple) hg hm (by rw [hx]; decide +kernel) pa hnn hd (star_cons hn) rfl) go

/-! ### isinstance -/
theorem s_ty (G : Gd X fa Γ P n) {sc : Scope} {t : Ty} (hs : X.env.scope = sc) (h : agTy sc t e = true) : PE X e (tC (.ty (tyS t))) := by
  unfold agTy at h
  split at h
  · simp only [Bool.and_eq_true, decide_eq_true_eq] at h
    obtain ⟨hx, h⟩ := h
    obtain ⟨hg, hd⟩ := isG_gl hs h
    rename_i xx _
    have hm : X.mg xx = none := G.free xx (by rw [hx]; cases t <;> exact mem_bn (by decide +kernel))
    refine pe_bltn (v := .ty (tyS t)) (u := .type (tyS t)) hg hm ?_ rfl ?_ hd
    · rw [hx]; cases t <;> decide +kernel
    · rw [hx]; cases t <;> decide +kernel
  · cases h
def tTys : List Ty → TA
  | [] => tNil
  | t :: ts => tCons (tC (.ty (tyS t))) (tTys ts)
theorem ty_nst {sc : Scope} {t : Ty} (h : agTy sc t e = true) : nst e = true := by
  unfold agTy at h
  split at h
  · rfl
  · cases h
theorem s_tys (G : Gd X fa Γ P n) {sc : Scope} (hs : X.env.scope = sc) : ∀ {ts : List Ty} {es : List Expr}, agTys sc ts es = true → PA X es (tTys ts)
  | [], [], _ => pa_nil
  | t :: ts, e :: es, h => by
    simp only [agTys, Bool.and_eq_true] at h
    exact pa_cons (s_ty G hs h.1) (s_tys G hs h.2) (star_cons (ty_nst h.1))
  | [], _ :: _, h => by simp only [agTys] at h; cases h
  | _ :: _, [], h => by simp only [agTys] at h; cases h
theorem tys_go {σ : L2.St} {H : Hp} {Q : List V → Hp → Prop} : ∀ {ts : List Ty} , Q (ts.map fun t => .ty (tyS t)) H → tTys ts σ H Q
  | [], h => h
  | t :: ts, h => tys_go (ts := ts) (Q := fun vs H => Q (.ty (tyS t) :: vs) H) h
theorem tys_len {sc : Scope} : ∀ {ts : List Ty} {es : List Expr}, agTys sc ts es = true → ts.length = es.length
  | [], [], _ => rfl
  | t :: ts, e :: es, h => by
    simp only [agTys, Bool.and_eq_true] at h
    simp [tys_len h.2]
  | [], _ :: _, h => by simp only [agTys] at h; cases h
  | _ :: _, [], h => by simp only [agTys] at h; cases h
theorem cls_tys : ∀ ts : List Ty, Paired ClsV (ts.map fun t => .ty (tyS t)) (ts.map fun t => .type (tyS t))
  | [] => .nil
  | t :: ts => .cons (.ty _) (cls_tys ts)
theorem isTys_kind {d : D} {ts : List Ty} {b : Bool} (h0 : ts ≠ []) (e : isTys d ts = some b) : ∃ T, kindS d = some T := by
  cases ts with
  | nil => exact absurd rfl h0
  | cons t ts =>
    simp only [isTys] at e
    split at e
    · obtain ⟨T, h, _⟩ := isTy_kit (by assumption)
      exact ⟨T, h⟩
    · cases e
theorem boot_isi : bootBuiltins ("isinstance" : Str) = some (.builtin "isinstance") := by decide +kernel
theorem s_isi1 (G : Gd X fa Γ P n) {sc : Scope} {t : Ty} {a : Ex} {x : Str} {p : Pos} (hs : X.env.scope = sc) (h : isG sc x = true) (hx : x = "isinstance") (ha : PE X y (rdH (zt X fa) F (hd a (evE P a)))) (hn : nst y = true) (hz : agTy sc t z = true) :
    PE X (.Call (.Name x p) [y, z] [] pos) (rdE (zt X fa) F (evE P (.isi a [t]))) := by
  obtain ⟨hg, hd⟩ := isG_gl hs h
  have hm : X.mg x = none := G.free x (by rw [hx]; exact mem_bn (by decide +kernel))
  have hn2 := ty_nst hz
  have pa : PA X [y, z] (tCons (rdH (zt X fa) F (Iq.hd a (evE P a))) (tCons (tC (.ty (tyS t))) tNil)) := pa_cons ha (pa_cons (s_ty G hs hz) pa_nil (star_cons hn2)) (star_cons hn)
  refine pimp (pe_callB call_isi hg hm (by rw [hx]; exact boot_isi) pa (by rw [hx]; decide +kernel) hd (star_cons hn) (star_any (by simp [hn2]))) fun σ H Q ⟨M, ς, d, fr, ς', S, e, k⟩ => ?_
  simp only [evE] at e
  obtain ⟨h, e1, e⟩ := R.bind_is e
  obtain ⟨d1, e2, e⟩ := R.bind_is e
  split at e
  · rename_i b hb
    cases e
    refine ⟨M, ς, h.1, h.2, S, e1, fun v H1 M1 n1 r1 => ?_⟩
    simp only [isTys] at hb
    split at hb
    · rename_i b1 b2 hb1 hb2
      cases hb
      cases hb2
      obtain ⟨T, hT, hk⟩ := isTy_kit hb1
      refine ⟨v, .ty (tyS t), .type T, .type (tyS t), b1, rfl, .ty _, kind_ty (deref_pk n1.S r1 e2) hT, kit_ty hk, ?_⟩
      rw [Bool.or_false] at k
      exact k _ _ (Mk.aft (.same rep_bl) n1)
    · cases hb
  · cases e
theorem s_isiN (G : Gd X fa Γ P n) {sc : Scope} {ts : List Ty} {a : Ex} {x : Str} {p : Pos} {es : List Expr} {k1 : Nat} {p2 : Pos} (hs : X.env.scope = sc) (h : isG sc x = true) (hx : x = "isinstance") (ha : PE X y (rdH (zt X fa) F (hd a (evE P a)))) (hn : nst y = true) (hz : agTys sc ts es = true) (h0 : ts ≠ []) (hl : es.length ≤ 1000) :
    PE X (.Call (.Name x p) [y, .Tuple es k1 p2] [] pos) (rdE (zt X fa) F (evE P (.isi a ts))) := by
  obtain ⟨hg, hd⟩ := isG_gl hs h
  have hm : X.mg x = none := G.free x (by rw [hx]; exact mem_bn (by decide +kernel))
  have pa : PA X [y, .Tuple es k1 p2] (tCons (rdH (zt X fa) F (Iq.hd a (evE P a))) (tCons (tTup (tTys ts)) tNil)) := pa_cons ha (pa_cons (pe_tup (s_tys G hs hz)) pa_nil rfl) (star_cons hn)
  refine pimp (pe_callB call_isiT hg hm (by rw [hx]; exact boot_isi) pa (by rw [hx]; decide +kernel) hd (star_cons hn) rfl) fun σ H Q ⟨M, ς, d, fr, ς', S, e, k⟩ => ?_
  simp only [evE] at e
  obtain ⟨h, e1, e⟩ := R.bind_is e
  obtain ⟨d1, e2, e⟩ := R.bind_is e
  split at e
  · rename_i b hb
    cases e
    refine ⟨M, ς, h.1, h.2, S, e1, fun v H1 M1 n1 r1 => tys_go ⟨?_, fun q hq => ?_⟩⟩
    · rw [List.length_map, tys_len hz]; exact Nat.le_trans hl (by decide)
    · have n2 := n1.new (o := .tup (ts.map fun t => .ty (tyS t))) hq
      have pk := deref_pk n2.S (r1.new hq) e2
      obtain ⟨T, hT⟩ := isTys_kind h0 hb
      exact ⟨v, q, _, .type T, _, b, rfl, upd_same, cls_tys ts, kind_ty pk hT, isTys_kit hT hb, k _ _ (Mk.aft (.same rep_bl) n2)⟩
  · cases e

/-! ### join -/
theorem s_join {s : Str} {b : Ex} {kk : Nat} {p ap : Pos} (hb : PE X y (rdH (zt X fa) F (hd b (evE P b)))) (hn : nst y = true) (hl : (ap.endLine == pos.line) = true) :
    PE X (.Call (.Attribute (.Constant (.str s) kk p) "join" ap) [y] [] pos) (rdE (zt X fa) F (evE P (.join s b))) :=
  pimp (pe_join pe_str hb (star_cons hn) base_con hl) fun σ H Q ⟨M, ς, d, fr, ς', S, e, k⟩ => by
    simp only [evE] at e
    obtain ⟨g, e2, e⟩ := R.bind_is e
    obtain ⟨d2, e4, e⟩ := R.bind_is e
    obtain ⟨o, e5, e⟩ := R.bind_is e
    cases e
    unfold joinD at e5
    split at e5
    · split at e5
      · rename_i ys hy
        split at e5
        · rename_i hz
          cases e5
          refine ⟨⟨s, rfl⟩, M, ς, g.1, g.2, S, e2, fun u H2 M2 n2 r2 => ?_⟩
          obtain ⟨l, vs, rfl, hl, r⟩ := (deref_pk n2.S r2 e4).lst
          obtain rfl := strL_rep r hy
          refine ⟨s, l, ys, rfl, rfl, .inl (.inl hl), ?_, k _ _ (Mk.aft (.same rep_str) n2)⟩
          have e6 : (ys.map (·.length)).sum = (ys.map Str.length).sum := rfl
          rw [e6]
          omega
        · cases e5
      · cases e5
    · cases e5

/-! ### a dict's display -/
def tKV : List Str → List TE → List (TE × TE)
  | k :: ks, t :: ts => (tC (.str k), t) :: tKV ks ts
  | _, _ => []
def evTs (Z : Zt) (F : Fm) (P : Pr) (as : List Ex) : List TE := as.map fun a => rdE Z F (evE P a)
inductive PEs (X : Cx) : List Expr → List TE → Prop
  | nil : PEs X [] []
  | cons {e : Expr} {es : List Expr} {t : TE} {ts : List TE} : PE X e t → PEs X es ts → PEs X (e :: es) (t :: ts)
theorem pps_of : ∀ {ks : List Str} {kes : List (Option Expr)} {es : List Expr} {ts : List TE}, agKeys ks kes = true → ks.length = es.length → PEs X es ts → PPs X pos kes es (tKV ks ts)
  | [], [], [], _, _, _, .nil => pps_nil
  | k :: ks, ke :: kes, e :: es, _, h, hl, .cons p q => by
    simp only [agKeys, Bool.and_eq_true, decide_eq_true_eq] at h
    obtain ⟨c, p0, rfl⟩ := strOf_is h.1
    exact pps_cons pe_str p (pps_of h.2 (by simpa using hl) q)
  | _ :: _, [], _, _, h, _, _ => by simp only [agKeys] at h; cases h
  | [], _ :: _, [], _, h, _, _ => by simp only [agKeys] at h; cases h
  | [], _, _ :: _, _, _, hl, _ => by cases hl
  | _ :: _, _, [], _, _, hl, _ => by cases hl
theorem pairs_go {Z : Zt} {σ : L2.St} : ∀ {ks : List Str} {as : List Ex} {M : Mu} {ς : List Sl} {H : Hp} {ds : List D} {ς' : List Sl} {Q : List (V × V) → Hp → Prop}, ks.length = as.length → Sim Z F M σ ς H → evL P as ς = .ok (ds, ς') →
    (∀ vs H' M', Nxt Z F M σ ς H M' ς' H' → RepL Z M' H' ds vs → Q (ks.zip vs |>.map fun p => (.str p.1, p.2)) H') → tPairs (tKV ks (evTs Z F P as)) σ H Q
  | [], [], M, ς, H, ds, ς', Q, _, S, e, k => by
    simp only [evL] at e; cases e
    exact k [] H M (.refl S) (by simp only [RepL])
  | x :: ks, a :: as, M, ς, H, ds, ς', Q, hl, S, e, k => by
    simp only [evL] at e
    obtain ⟨⟨d, fr, ς1⟩, e1, e⟩ := R.bind_is e
    obtain ⟨⟨ds2, ς2⟩, e2, e⟩ := R.bind_is e
    cases e
    refine ⟨M, ς, d, fr, ς1, S, e1, fun v H1 ⟨M1, n1, r1, _⟩ => pairs_go (by simpa using hl) n1.S e2 fun vs H2 M2 n2 r2 => ?_⟩
    have := k (v :: vs) H2 M2 (n1.trans n2) (by simp only [RepL]; exact ⟨v, vs, rfl, n2.rep r1, r2⟩)
    exact this
  | [], _ :: _, _, _, _, _, _, _, hl, _, _, _ => by cases hl
  | _ :: _, [], _, _, _, _, _, _, hl, _, _, _ => by cases hl

theorem zip_rep {Z : Zt} {M : Mu} {H : Hp} : ∀ {ks : List Str} {ds : List D} {vs : List V}, RepL Z M H ds vs → RepK Z M H ((ks.map Sum.inr).zip ds) ((ks.map Sum.inr).zip vs)
  | [], _, _, _ => by simp [RepK]
  | _ :: _, [], _, h => by simp only [RepL] at h; subst h; simp [RepK]
  | k :: ks, d :: ds, vs, h => by
    simp only [RepL] at h
    obtain ⟨v, r, rfl, h1, h2⟩ := h
    simp only [List.map_cons, List.zip_cons_cons, RepK]
    exact ⟨v, _, rfl, h1, zip_rep h2⟩
theorem merge_nodup : ∀ (more kvs : List (Key × V)), (more.map (·.1)).Nodup → (∀ k ∈ more.map (·.1), k ∉ kvs.map (·.1)) → mergeK kvs more = kvs ++ more
  | [], kvs, _, _ => by simp [mergeK]
  | p :: r, kvs, hn, hd => by
    simp only [List.map_cons, List.nodup_cons] at hn
    have h0 : (kvs.any fun kv => decide (kv.1 = p.1)) = false := by
      rw [List.any_eq_false]
      intro q hq e
      exact hd p.1 (by simp) (by rw [← of_decide_eq_true e]; exact List.mem_map_of_mem hq)
    have h1 : putK kvs p.1 p.2 = kvs ++ [p] := by
      unfold putK
      rw [if_neg (by rw [h0]; decide)]
    show mergeK (putK kvs p.1 p.2) r = _
    rw [h1, merge_nodup r (kvs ++ [p]) hn.2 ?_]
    · simp
    · intro k hk
      simp only [List.map_append, List.map_cons, List.map_nil, List.mem_append, List.mem_singleton, not_or]
      exact ⟨hd k (by simp only [List.map_cons]; exact List.mem_cons_of_mem _ hk), fun e => hn.1 (e ▸ hk)⟩
theorem s_dct {ks : List Str} {as : List Ex} {kes : List (Option Expr)} {es : List Expr} (hk : agKeys ks kes = true) (h15 : ks.length ≤ 15) (hnd : ks.Nodup) (h0 : 0 < ks.length) (hl : ks.length = as.length) (hle : ks.length = es.length) (ps : PEs X es (evTs (zt X fa) F P as)) :
    PE X (.Dict kes es pos) (rdE (zt X fa) F (evE P (.dct ks as))) := by
  have hkl : ∀ {ks : List Str} {kes : List (Option Expr)}, agKeys ks kes = true → kes.length = ks.length ∧ kes.all (·.isSome) = true := by
    intro ks
    induction ks with
    | nil => intro kes h; cases kes with
      | nil => exact ⟨rfl, rfl⟩
      | cons _ _ => simp only [agKeys] at h; cases h
    | cons k ks ih => intro kes h; cases kes with
      | nil => simp only [agKeys] at h; cases h
      | cons e kes =>
        simp only [agKeys, Bool.and_eq_true, decide_eq_true_eq] at h
        obtain ⟨i1, i2⟩ := ih h.2
        obtain ⟨c, p, rfl⟩ := strOf_is h.1
        exact ⟨by simp [i1], by simpa using i2⟩
  obtain ⟨l1, l2⟩ := hkl hk
  refine pimp (pe_disp (pps_of hk hle ps) l2 (by omega) (by intro e; rw [e] at l1; simp at l1; omega) (by omega)) fun σ H Q ⟨M, ς, d, fr, ς', S, e, k⟩ p hp => ?_
  simp only [evE] at e
  obtain ⟨⟨ds, ς1⟩, e1, e⟩ := R.bind_is e
  cases e
  refine pairs_go hl (S.newM (o := .dK []) hp) e1 fun vs H2 M2 n2 r2 => ?_
  obtain ⟨hd, md⟩ := made (o2 := .dK ((ks.map Sum.inr).zip vs)) S hp n2
  refine ⟨hd, (ks.map Sum.inr).zip vs, ?_, ?_, ?_⟩
  · have : ∀ (ks : List Str) (vs : List V), (ks.zip vs).map (fun p => (V.str p.1, p.2)) = ((ks.map Sum.inr).zip vs).map fun kv : Key × V => (kV kv.1, kv.2) := by
      intro ks
      induction ks with
      | nil => intro vs; rfl
      | cons k ks ih => intro vs; cases vs with
        | nil => rfl
        | cons v vs => simp only [List.zip_cons_cons, List.map_cons, ih]; rfl
    exact this ks vs
  · rw [List.length_zip, List.length_map]; omega
  · have hv : vs.length = ks.length := by rw [← r2.length, evL_len e1, hl]
    have hm : mergeK [] ((ks.map (Sum.inr : Str → Key)).zip vs) = (ks.map Sum.inr).zip vs := by
      rw [merge_nodup]
      · rfl
      · rw [List.map_fst_zip (by simp; omega)]
        exact List.Pairwise.map _ (fun a b h e => h (Sum.inr.inj e)) hnd
      · intro k _; simp
    rw [hm]
    have rk : RepK (zt X fa) M2 H2 ((ks.map Sum.inr).zip ds) ((ks.map Sum.inr).zip vs) := zip_rep r2
    refine k _ _ ⟨_, md.n, ?_, fun _ => ⟨p, rfl, hp, md.S, _, upd_same, RepK.carry md.d _ _ rk⟩⟩
    simp only [Rep]
    exact ⟨p, _, rfl, .inl ⟨upd_same, fun q => q.2 rfl⟩, RepK.carry md.c _ _ rk⟩
end
end Iq
set_option Elab.async false
set_option linter.all false
set_option maxRecDepth 100000
set_option maxHeartbeats 1000000
namespace Iq
open PySem L2

section
variable {Z : Zt} {F : Fm} {M M2 : Mu} {σ : L2.St} {ς ς' : List Sl} {H H' : Hp}

/-- slots is own the objects os -/
def SlA (σ : L2.St) (ς : List Sl) : List Nat → List Addr → Prop
  | [], os => os = []
  | i :: is, os => ∃ a r b d, os = a :: r ∧ ς[i]? = some (.own b d) ∧ σ[i]? = some (some (.ref a)) ∧ SlA σ ς is r
theorem SlA.own : ∀ {is : List Nat} {os : List Addr}, SlA σ ς is os → ∀ a ∈ os, ∃ i ∈ is, ∃ b d, ς[i]? = some (.own b d) ∧ σ[i]? = some (some (.ref a))
  | [], _, h, a, ha => by simp only [SlA] at h; subst h; cases ha
  | i :: is, _, ⟨a', r, b, d, e, h1, h2, h3⟩, a, ha => by
    subst e
    rcases List.mem_cons.mp ha with rfl | ha
    · exact ⟨i, by simp, b, d, h1, h2⟩
    · obtain ⟨j, hj, q⟩ := SlA.own h3 a ha
      exact ⟨j, List.mem_cons_of_mem _ hj, q⟩
theorem SlA.nodup (S : Sim Z F M σ ς H) : ∀ {is : List Nat} {os : List Addr}, SlA σ ς is os → is.Nodup → os.Nodup
  | [], _, h, _ => by simp only [SlA] at h; subst h; exact List.nodup_nil
  | i :: is, _, ⟨a, r, b, d, e, h1, h2, h3⟩, hn => by
    subst e
    rw [List.nodup_cons] at hn ⊢
    refine ⟨fun ha => ?_, SlA.nodup S h3 hn.2⟩
    obtain ⟨j, hj, b', d', q1, q2⟩ := h3.own a ha
    exact S.sep i j _ _ _ _ a (fun e => hn.1 (e ▸ hj)) h1 q1 h2 q2
theorem arg_of (S : Sim Z F M σ ς H) : ∀ {hs : List Hd} {vs : List V} {as : List Sl}, HdVs Z M σ H hs vs → argsS ς hs = .ok as → ∃ os, ArgV Z M H as vs os ∧ SlA σ ς (hdS hs) os
  | [], vs, as, h, e => by
    simp only [HdVs] at h; simp only [argsS] at e; cases e; subst h
    exact ⟨[], ⟨rfl, rfl⟩, rfl⟩
  | .val d :: hs, vs, as, ⟨v, r, e0, h1, h2⟩, e => by
    subst e0
    simp only [argsS, argS, R.bind_ok] at e
    obtain ⟨as', e1, e⟩ := R.bind_is e
    cases e
    obtain ⟨os, q1, q2⟩ := arg_of S h2 e1
    exact ⟨os, ⟨v, r, rfl, h1, q1⟩, q2⟩
  | .sl i :: hs, vs, as, ⟨v, r, e0, h1, h2⟩, e => by
    subst e0
    simp only [argsS] at e
    obtain ⟨a1, e1, e⟩ := R.bind_is e
    obtain ⟨as', e2, e⟩ := R.bind_is e
    cases e
    simp only [argS] at e1
    split at e1
    · rename_i b d hb
      cases e1
      obtain ⟨os, q1, q2⟩ := arg_of S h2 e2
      obtain ⟨a, p1, p2, _, p4⟩ := S.own i b d hb
      have h1 : σ[i]? = some (some v) := h1
      rw [p1] at h1; cases h1
      exact ⟨a :: os, ⟨a, r, os, rfl, rfl, p2, p4, q1⟩, ⟨a, os, b, d, rfl, hb, p1, q2⟩⟩
    · cases e1
theorem setOwn_len {i : Nat} {d : D} : (setOwn ς i d).length = ς.length := by
  unfold setOwn
  split
  · rw [List.length_set]
  · rfl
theorem setOwn_ne {i j : Nat} {d : D} (h : i ≠ j) : (setOwn ς i d)[j]? = ς[j]? := by
  unfold setOwn
  split
  · rw [List.getElem?_set_ne h]
  · rfl
theorem setOwn_self {i : Nat} {d d0 : D} {b : Bool} (h : ς[i]? = some (.own b d0)) : (setOwn ς i d)[i]? = some (.own b d) := by
  unfold setOwn
  rw [h]
  simp only []
  rw [List.getElem?_set_self (List.getElem?_eq_some_iff.mp h).1]
/-- the state with each object's new value -/
theorem put_ok : ∀ {is : List Nat} {outs : List D} {os : List Addr} {ς ς' : List Sl}, putOuts is outs ς = .ok ς' → is.Nodup → SlA σ ς is os → OwnsL Z M2 H' os outs →
    ς'.length = ς.length ∧ (∀ j, j ∉ is → ς'[j]? = ς[j]?) ∧ ∀ j ∈ is, ∃ a b d0 d, a ∈ os ∧ ς[j]? = some (.own b d0) ∧ σ[j]? = some (some (.ref a)) ∧ ς'[j]? = some (.own b d) ∧ Own Z M2 H' a d
  | [], outs, os, ς, ς', e, _, h, ow => by
    cases outs with
    | nil => simp only [putOuts] at e; cases e; exact ⟨rfl, fun _ _ => rfl, fun j hj => by cases hj⟩
    | cons _ _ => simp only [putOuts] at e; cases e
  | i :: is, outs, os, ς, ς', e, hn, ⟨a, r, b, d0, e0, h1, h2, h3⟩, ow => by
    subst e0
    obtain ⟨d, rd, e1, o1, o2⟩ := ow
    subst e1
    simp only [putOuts] at e
    rw [List.nodup_cons] at hn
    have h3' : ∀ {is : List Nat} {os : List Addr}, i ∉ is → SlA σ ς is os → SlA σ (setOwn ς i d) is os := by
      intro is
      induction is with
      | nil => intro os _ h; exact h
      | cons j is ih =>
        intro os hi ⟨a, r, b, d, e0, q1, q2, q3⟩
        simp only [List.mem_cons, not_or] at hi
        exact ⟨a, r, b, d, e0, by rw [setOwn_ne hi.1]; exact q1, q2, ih hi.2 q3⟩
    obtain ⟨l, k1, k2⟩ := put_ok e hn.2 (h3' hn.1 h3) o2
    refine ⟨l.trans setOwn_len, fun j hj => ?_, fun j hj => ?_⟩
    · simp only [List.mem_cons, not_or] at hj
      rw [k1 j hj.2, setOwn_ne (Ne.symm hj.1)]
    · rcases List.mem_cons.mp hj with rfl | hj'
      · exact ⟨a, b, d0, d, by simp, h1, h2, by rw [k1 j hn.1, setOwn_self h1], o1⟩
      · obtain ⟨a', b', d0', d', m, q1, q2, q3, q4⟩ := k2 j hj'
        have ne : i ≠ j := fun e => hn.1 (e ▸ hj')
        rw [setOwn_ne ne] at q1
        exact ⟨a', b', d0', d', List.mem_cons_of_mem _ m, q1, q2, q3, q4⟩
theorem Sim.put {is : List Nat} {outs : List D} {os : List Addr} (S : Sim Z F M σ ς H) (hp : putOuts is outs ς = .ok ς') (hn : is.Nodup) (ho : SlA σ ς is os) (ow : OwnsL Z M2 H' os outs) (c : Carry Z M H M2 H') (m : ∀ a, M a → M2 a)
    (dm : ∀ a, M2 a → ∃ o, H' a = some o) (e : Evo (· ∈ os) H H') : Sim Z F M2 σ ς' H' ∧ ∀ a, OwnS σ ς' a → OwnS σ ς a := by
  obtain ⟨l, k1, k2⟩ := put_ok (Z := Z) (σ := σ) hp hn ho ow
  have back : ∀ (j : Nat) b d, ς'[j]? = some (.own b d) → ∃ d0, ς[j]? = some (.own b d0) := fun j b d h => by
    by_cases hj : j ∈ is
    · obtain ⟨a, b', d0, d', _, q1, _, q3, _⟩ := k2 j hj
      rw [h] at q3; cases q3
      exact ⟨d0, q1⟩
    · rw [k1 j hj] at h; exact ⟨d, h⟩
  refine ⟨⟨S.len.trans l.symm, fun i d h => ?_, fun i b d h => ?_, fun i j b d b' d' a ij h1 h2 h3 => ?_, fun a o h w => ?_, dm, fun a h => m a (S.sup a h), S.wm, S.dm0⟩, fun a ⟨i, b, d, h1, h2⟩ => ?_⟩
  · by_cases hj : i ∈ is
    · obtain ⟨a, b', d0, d', _, q1, _, q3, _⟩ := k2 i hj
      rw [h] at q3; cases q3
    · rw [k1 i hj] at h
      obtain ⟨v, q1, q2⟩ := S.shr i d h
      exact ⟨v, q1, Rep.carry c _ _ q2⟩
  · by_cases hj : i ∈ is
    · obtain ⟨a, b', d0, d', _, q1, q2, q3, q4⟩ := k2 i hj
      rw [h] at q3; cases q3
      obtain ⟨a', p1, p2, p3, _⟩ := S.own i _ _ q1
      rw [q2] at p1; cases p1
      exact ⟨a, q2, m a p2, p3, q4⟩
    · rw [k1 i hj] at h
      obtain ⟨a, p1, p2, p3, p4⟩ := S.own i b d h
      refine ⟨a, p1, m a p2, p3, p4.carry c ?_⟩
      obtain ⟨o, q⟩ := p4.there
      rw [q]
      refine e a o (fun ha => ?_) q
      obtain ⟨j, hj', b', d', q1, q2⟩ := ho.own a ha
      exact S.sep i j _ _ _ _ a (fun z => hj (z ▸ hj')) h q1 p1 q2
  · obtain ⟨_, q1⟩ := back i b d h1
    obtain ⟨_, q2⟩ := back j b' d' h2
    exact S.sep i j _ _ _ _ a ij q1 q2 h3
  · refine e a o (fun ha => ?_) (S.old a o h w)
    obtain ⟨j, hj', b', d', q1, q2⟩ := ho.own a ha
    obtain ⟨a', p1, p2, p3, _⟩ := S.own j _ _ q1
    rw [q2] at p1; cases p1
    cases b' with
    | true => exact w p3.1
    | false => have p3 : F.H0 a = none := p3; rw [p3] at h; cases h
  · obtain ⟨d0, q⟩ := back i b d h1
    exact ⟨i, b, d0, q, h2⟩

/-- a call's promise, used at a state -/
theorem call_go {fn : List Sl → R (D × Bool × List D)} {P : Pr} {k : Nat} {hs : List Hd} {vs : List V} {d : D} {fr : Bool} {Q : VK} {E : XK} {M0 : Mu} {ς0 : List Sl} {H0 : Hp} (n : Nxt Z F M0 σ ς0 H0 M ς H) (hv : HdVs Z M σ H hs vs)
    (e : callG P k hs ς = .ok (d, fr, ς')) (q : ∀ v H', Aft Z F M0 σ ς0 ς' H0 H' d fr v → Q v H') : spF Z (P.fn k) vs H Q E := by
  have S := n.S
  unfold callG at e
  split at e
  · rename_i hnd
    obtain ⟨as, e1, e⟩ := R.bind_is e
    obtain ⟨⟨d1, f1, outs⟩, e2, e⟩ := R.bind_is e
    obtain ⟨ς1, e3, e⟩ := R.bind_is e
    cases e
    obtain ⟨os, av, sa⟩ := arg_of S hv e1
    have osM : ∀ a ∈ os, M a := fun a ha => by
      obtain ⟨j, _, b, d, q1, q2⟩ := sa.own a ha
      exact S.owns a ⟨j, b, d, q1, q2⟩
    refine ⟨M, as, os, _, _, outs, av, sa.nodup S hnd, S.dom, e2, fun v H' c => q v H' ?_⟩
    have em : Evo M H H' := c.e.less osM
    have dmM : ∀ a, M a → ∃ o, H' a = some o := fun a h => by
      obtain ⟨o, ho⟩ := S.dom a h
      cases z : H' a with
      | some o => exact ⟨o, rfl⟩
      | none => rw [c.f a z] at ho; cases ho
    obtain ⟨S1, ow1⟩ := S.put e3 hnd sa c.o (.evo em) (fun _ h => h) dmM c.e
    have n2 : Nxt Z F M σ ς H M ς' H' := ⟨fun _ h => h, fun _ h _ => h, ow1, S.owns, c.e.less fun a ha => by
      obtain ⟨j, _, b, d, q1, q2⟩ := sa.own a ha
      exact ⟨j, b, d, q1, q2⟩, c.f, S1⟩
    refine ⟨M, n.trans n2, c.r, fun hf => ?_⟩
    obtain ⟨p, hv', hp, o1, o2⟩ := c.n hf
    refine ⟨p, hv', n.f p hp, (S.put e3 hnd sa o2 (.trans (.ins hp) (.evo (c.e.less fun a ha => .inl (osM a ha)))) (fun _ h => .inl h) (fun a h => h.elim (dmM a) fun z => ?_) c.e).1, o1⟩
    rw [z]; exact o1.there
  · cases e
end

section
variable {X : Cx} {fa : Nat → Addr} {Γ : Gt} {P : Pr} {n : Nat} {F : Fm} {e x y z : Expr} {pos : Pos}
/-! ### argument rows -/
inductive SEs (X : Cx) (Z : Zt) (F : Fm) (P : Pr) : List Ex → List Expr → Prop
  | nil : SEs X Z F P [] []
  | cons {a : Ex} {as : List Ex} {e : Expr} {es : List Expr} : PE X e (rdE Z F (evE P a)) → PE X e (rdH Z F (hd a (evE P a))) → nst e = true → SEs X Z F P as es → SEs X Z F P (a :: as) (e :: es)
theorem SEs.rows {Z : Zt} : ∀ {as : List Ex} {es : List Expr}, SEs X Z F P as es → PA X es (rdL Z F (evL P as))
  | _, _, .nil => l_nil
  | _, _, .cons h _ hn t => l_cons h t.rows hn
theorem SEs.pes {Z : Zt} : ∀ {as : List Ex} {es : List Expr}, SEs X Z F P as es → PEs X es (evTs Z F P as)
  | _, _, .nil => .nil
  | _, _, .cons h _ hn t => .cons h t.pes
theorem SEs.len {Z : Zt} : ∀ {as : List Ex} {es : List Expr}, SEs X Z F P as es → as.length = es.length
  | _, _, .nil => rfl
  | _, _, .cons h _ hn t => by simp [t.len]
theorem SEs.nst {Z : Zt} : ∀ {as : List Ex} {es : List Expr}, SEs X Z F P as es → es.all Iq.nst = true
  | _, _, .nil => rfl
  | _, _, .cons h _ hn t => by simp only [List.all_cons, hn, t.nst, Bool.and_self]
theorem SEs.args {Z : Zt} : ∀ {as : List Ex} {es : List Expr} (io : List Bool), SEs X Z F P as es → PA X es (rdA Z F (evA P as io))
  | _, _, io, .nil => ⟨fun pos pins s σ H Q I ⟨M, ς, hs, ς', S, e, k⟩ => by
    simp only [evA] at e; cases e
    exact pa_nil.run pos pins s σ H Q I (k [] H M (.refl S) rfl)⟩
  | a :: as, e :: es, true :: io, .cons h1 h2 hn t => ⟨fun pos pins s σ H Q I ⟨M, ς, hs, ς', S, e, k⟩ => by
    simp only [evA] at e
    obtain ⟨⟨g, ς1⟩, e1, e⟩ := R.bind_is e
    cases g with
    | val d => cases e
    | sl i =>
      simp only [] at e
      obtain ⟨⟨gs, ς2⟩, e2, e⟩ := R.bind_is e
      cases e
      exact (pa_cons h2 (t.args io) (star_cons hn)).run pos pins s σ H Q I ⟨M, ς, .sl i, ς1, S, e1, fun v H1 M1 n1 r1 => ⟨M1, ς1, gs, _, n1.S, e2, fun vs H2 M2 n2 r2 => k _ H2 M2 (n1.trans n2) ⟨v, vs, rfl, n2.hdv r1, r2⟩⟩⟩⟩
  | a :: as, e :: es, false :: io, .cons h1 h2 hn t => ⟨fun pos pins s σ H Q I ⟨M, ς, hs, ς', S, e, k⟩ => by
    simp only [evA, List.tail_cons] at e
    obtain ⟨⟨d, fr, ς1⟩, e1, e⟩ := R.bind_is e
    obtain ⟨⟨gs, ς2⟩, e2, e⟩ := R.bind_is e
    cases e
    exact (pa_cons h1 (t.args io) (star_cons hn)).run pos pins s σ H Q I ⟨M, ς, d, fr, ς1, S, e1, fun v H1 ⟨M1, n1, r1, _⟩ => ⟨M1, ς1, gs, _, n1.S, e2, fun vs H2 M2 n2 r2 => k _ H2 M2 (n1.trans n2) ⟨v, vs, rfl, n2.rep r1, r2⟩⟩⟩⟩
  | a :: as, e :: es, [], .cons h1 h2 hn t => ⟨fun pos pins s σ H Q I ⟨M, ς, hs, ς', S, e, k⟩ => by
    simp only [evA, List.tail_nil] at e
    obtain ⟨⟨d, fr, ς1⟩, e1, e⟩ := R.bind_is e
    obtain ⟨⟨gs, ς2⟩, e2, e⟩ := R.bind_is e
    cases e
    exact (pa_cons h1 (t.args []) (star_cons hn)).run pos pins s σ H Q I ⟨M, ς, d, fr, ς1, S, e1, fun v H1 ⟨M1, n1, r1, _⟩ => ⟨M1, ς1, gs, _, n1.S, e2, fun vs H2 M2 n2 r2 => k _ H2 M2 (n1.trans n2) ⟨v, vs, rfl, n2.rep r1, r2⟩⟩⟩⟩
theorem s_call (G : Gd X fa Γ P n) {sc : Scope} {k : Nat} {as : List Ex} {es : List Expr} {f : Str} {p : Pos} (hs : X.env.scope = sc) (h : isG sc f = true) (hx : Γ.fnm[k]? = some f) (ps : SEs X (zt X fa) F P as es) :
    PE X (.Call (.Name f p) es [] pos) (rdE (zt X fa) F (evE P (.call k as))) := by
  obtain ⟨hg, hd⟩ := isG_gl hs h
  obtain ⟨hm, hk, fd, prs, hb, hF⟩ := G.fns k f hx
  have go : ∀ σ H Q, rdE (zt X fa) F (evE P (.call k as)) σ H Q → tCall (spF (zt X fa) (P.fn k)) [] E0 (rdA (zt X fa) F (evA P as (P.io k))) σ H Q := fun σ H Q ⟨M, ς, d, fr, ς', S, e, q⟩ => by
    simp only [evE] at e
    obtain ⟨⟨gs, ς1⟩, e1, e⟩ := R.bind_is e
    refine ⟨M, ς, gs, ς1, S, e1, fun vs H1 M1 n1 r1 => ?_⟩
    show spF (zt X fa) (P.fn k) (vs ++ []) H1 Q E0
    rw [List.append_nil]
    exact call_go (fn := P.fn k) n1 r1 e q
  cases es with
  | nil =>
    cases ps
    exact pimp (pe_call0 hF G.room hg hm hk hb .nil pass0 hd) fun σ H Q q => by
      obtain ⟨M, ς, gs, ς1, S, e1, q1⟩ := go σ H Q q
      simp only [evA] at e1; cases e1
      exact q1 [] H M (.refl S) rfl
  | cons e es =>
    have hn := ps.nst
    simp only [List.all_cons, Bool.and_eq_true] at hn
    exact pimp (pe_call hF G.room hg hm hk hb .nil pass0 (ps.args (P.io k)) hd (star_cons hn.1) (star_any hn.2)) go
theorem s_calv (G : Gd X fa Γ P n) {sc : Scope} {i : Nat} {as : List Ex} {es : List Expr} {f : Str} {p : Pos} (hs : X.env.scope = sc) (h : isV X.N sc i f = true) (h0 : 0 < es.length) (ps : SEs X (zt X fa) F P as es) :
    PE X (.Call (.Name f p) es [] pos) (rdE (zt X fa) F (evE P (.calv i as))) := by
  refine ⟨fun pins s σ H Q I ⟨M, ς, d, fr, ς', S, e, q⟩ => ?_⟩
  simp only [evE] at e
  split at e
  · rename_i k hk
    split at e
    · obtain ⟨⟨gs, ς1⟩, e1, e⟩ := R.bind_is e
      have hx : ∃ x, Γ.fnm[k]? = some x := by
        unfold callG at e
        split at e
        · obtain ⟨as, _, e⟩ := R.bind_is e
          obtain ⟨r, e2, e⟩ := R.bind_is e
          exact G.fnk k as r e2
        · cases e
      obtain ⟨x, hx⟩ := hx
      obtain ⟨hm, hkp, fd, prs, hb, hF⟩ := G.fns k x hx
      simp only [isV, Bool.and_eq_true, decide_eq_true_eq, Bool.not_eq_true', Bool.or_eq_true] at h
      obtain ⟨⟨⟨h1, h2⟩, h3⟩, h4⟩ := h
      have hv : Vis X.env.scope f := by
        unfold Vis
        rw [hs]
        rcases h4 with (h4 | h4) | h4
        · exact .inl h4
        · exact .inr (.inl h4)
        · exact .inr (.inr h4)
      obtain ⟨v, hv1, hv2⟩ := S.shr i _ hk
      simp only [Rep] at hv2
      subst hv2
      cases es with
      | nil => cases h0
      | cons e0 es =>
        have hn := ps.nst
        simp only [List.all_cons, Bool.and_eq_true] at hn
        refine (pe_callL (E := E0) hF G.room h1 hv hkp hb .nil pass0 (ps.args []) h2 h3 (star_cons hn.1) (star_any hn.2)).run pins s σ H Q I ⟨hv1, M, ς, gs, ς1, S, e1, fun vs H1 M1 n1 r1 => ?_⟩
        show spF (zt X fa) (P.fn k) (vs ++ []) H1 Q E0
        rw [List.append_nil]
        exact call_go (fn := P.fn k) n1 r1 e q
    · cases e
  · cases e
end
end Iq
set_option Elab.async false
set_option linter.all false
set_option maxRecDepth 100000
set_option maxHeartbeats 1000000
namespace Iq
open PySem L2

section
variable {Z : Zt} {F : Fm} {M M' : Mu} {σ : L2.St} {ς ς' : List Sl} {H H' : Hp} {d : D} {v : V}

/-! ### storing a shared value -/
theorem Sim.setShr {i : Nat} (S : Sim Z F M σ ς H) (r : Rep Z M H d v) : Sim Z F M (σ.set i (some v)) (ς.set i (.shr d)) H := by
  have ne : ∀ (j : Nat) b e, (ς.set i (.shr d))[j]? = some (.own b e) → i ≠ j ∧ ς[j]? = some (.own b e) := fun j b e q => by
    by_cases ij : i = j
    · subst ij
      by_cases hi : i < ς.length
      · rw [List.getElem?_set_self hi] at q; cases q
      · rw [List.set_eq_of_length_le (by omega)] at q
        exact absurd (List.getElem?_eq_some_iff.mp q).1 hi
    · rw [List.getElem?_set_ne ij] at q; exact ⟨ij, q⟩
  refine ⟨by simp [S.len], fun j e q => ?_, fun j b e q => ?_, fun j k b e b' e' x jk q1 q2 q3 => ?_, S.old, S.dom, S.sup, S.wm, S.dm0⟩
  · by_cases ij : i = j
    · subst ij
      by_cases hi : i < ς.length
      · rw [List.getElem?_set_self hi] at q; cases q
        exact ⟨v, by rw [List.getElem?_set_self (by rw [S.len]; exact hi)], r⟩
      · rw [List.getElem?_eq_none (by simp; omega)] at q; cases q
    · rw [List.getElem?_set_ne ij] at q
      rw [List.getElem?_set_ne ij]
      exact S.shr j e q
  · obtain ⟨ij, q'⟩ := ne j b e q
    obtain ⟨a, q1, q2, q3, q4⟩ := S.own j b e q'
    refine ⟨a, by rw [List.getElem?_set_ne ij]; exact q1, q2, ?_, q4⟩
    cases b with
    | true => exact ⟨q3.1, by rw [List.getElem?_set_ne ij]; exact q3.2⟩
    | false => exact q3
  · obtain ⟨ij, q1⟩ := ne j _ _ q1
    obtain ⟨ik, q2⟩ := ne k _ _ q2
    rw [List.getElem?_set_ne ij] at q3
    rw [List.getElem?_set_ne ik]
    exact S.sep j k _ _ _ _ x jk q1 q2 q3
theorem own_setShr {i : Nat} {x : Option V} : ∀ a, OwnS (σ.set i x) (ς.set i (.shr d)) a → OwnS σ ς a := fun a ⟨j, b, e, q1, q2⟩ => by
  by_cases ij : i = j
  · subst ij
    by_cases hi : i < ς.length
    · rw [List.getElem?_set_self hi] at q1; cases q1
    · rw [List.getElem?_eq_none (by simp; omega)] at q1; cases q1
  · rw [List.getElem?_set_ne ij] at q1 q2
    exact ⟨j, b, e, q1, q2⟩

/-! ### targets -/
def gNms : List Nat → TGs
  | [] => gNil
  | i :: is => gCons (gName i) (gNms is)
def gOf (K : PySem.W.Frag) : Tg → TG
  | .nm i => gName i
  | .tp is => gTup K is.length (gNms is)
theorem wipe_set {vs : List Nat} {j : Nat} {x : Option V} (h : j ∈ vs) : wipe (σ.set j x) vs = wipe σ vs := by
  apply List.ext_getElem?
  intro i
  have g : ∀ (σ : L2.St), (wipe σ vs)[i]? = if i ∈ vs then (if i < σ.length then some none else none) else σ[i]? := by
    intro σ
    clear h
    induction vs with
    | nil => simp [wipe]
    | cons v vs ih =>
      unfold wipe
      by_cases e : v = i
      · subst e
        simp only [List.mem_cons, true_or, if_true]
        by_cases l : v < σ.length
        · rw [List.getElem?_set_self (by rw [wipe_length]; exact l), if_pos l]
        · rw [List.getElem?_eq_none (by rw [List.length_set, wipe_length]; omega), if_neg l]
      · rw [List.getElem?_set_ne e, ih]
        have : ¬ i = v := fun z => e z.symm
        simp [this]
  rw [g, g]
  by_cases e : i ∈ vs
  · simp [e]
  · have : j ≠ i := fun z => e (z ▸ h)
    simp [e, List.getElem?_set_ne this]
theorem set_go {Q : L2.St → Hp → Prop} : ∀ {is : List Nat} {ds : List D} {vs : List V} {σ : L2.St} {ς ς' : List Sl}, Sim Z F M σ ς H → RepL Z M H ds vs → setAll is ds ς = .ok ς' →
    (∀ σ', Sim Z F M σ' ς' H → (∀ a, OwnS σ' ς' a → OwnS σ ς a) → (∀ ws, (∀ i ∈ is, i ∈ ws) → wipe σ' ws = wipe σ ws) → Q σ' H) → vs.length = is.length ∧ gNms is vs σ H Q
  | [], ds, vs, σ, ς, ς', S, r, e, k => by
    cases ds with
    | nil =>
      simp only [setAll] at e; cases e
      simp only [RepL] at r; subst r
      exact ⟨rfl, rfl, k σ S (fun _ h => h) fun _ _ => rfl⟩
    | cons _ _ => simp only [setAll] at e; cases e
  | i :: is, ds, vs, σ, ς, ς', S, r, e, k => by
    cases ds with
    | nil => simp only [setAll] at e; cases e
    | cons d ds =>
      simp only [setAll] at e
      simp only [RepL] at r
      obtain ⟨v, w, rfl, r1, r2⟩ := r
      obtain ⟨l, g⟩ := set_go (Q := Q) (S.setShr (i := i) r1) r2 e fun σ' S' o w' => k σ' S' (fun a h => own_setShr a (o a h)) fun ws hw => (w' ws fun j hj => hw j (List.mem_cons_of_mem _ hj)).trans (wipe_set (hw i (by simp)))
      exact ⟨by simp [l], v, w, rfl, g⟩
theorem bind_go {t : Tg} {Q : L2.St → Hp → Prop} (S : Sim Z F M σ ς H) (r : Rep Z M H d v) (e : bindT t d ς = .ok ς')
    (k : ∀ σ', Sim Z F M σ' ς' H → (∀ a, OwnS σ' ς' a → OwnS σ ς a) → (∀ ws, (∀ i ∈ tgS t, i ∈ ws) → wipe σ' ws = wipe σ ws) → Q σ' H) : gOf Z.K t v σ H Q := by
  cases t with
  | nm i =>
    simp only [bindT] at e; cases e
    exact k _ (S.setShr r) (fun a h => own_setShr a h) fun ws hw => wipe_set (hw i (by simp [tgS]))
  | tp is =>
    cases d <;> simp only [bindT] at e <;> try (cases e; done)
    simp only [Rep] at r
    obtain ⟨a, vs, rfl, t, r⟩ := r
    obtain ⟨l, g⟩ := set_go (Q := Q) S r e k
    exact ⟨a, vs, rfl, t.sq, l, g⟩
end

section
variable {X : Cx} {N : List Str} {sc : Scope} {fnc : Str → Bool}
theorem g_name {i : Nat} {x : Str} {pos : Pos} (hs : X.env.scope = sc) (hn : X.N.Nodup) (hf : ∀ x, fnc x = true → X.fn x = true) (h : isL X.N sc fnc i x = true) : PG X (.Name x pos) (gName i) := by
  simp only [isL, Bool.and_eq_true, decide_eq_true_eq, Bool.or_eq_true] at h
  obtain ⟨h1, h2⟩ := h
  rcases h2 with h2 | ⟨h2, h3⟩
  · exact pg_name hn h1 (.inl (by rw [hs]; exact h2)) (.inr (by rw [hs]; exact h2))
  · exact pg_name hn h1 (.inr (by rw [hs]; exact h2)) (.inl (hf x h3))
theorem g_nms (hs : X.env.scope = sc) (hn : X.N.Nodup) (hf : ∀ x, fnc x = true → X.fn x = true) : ∀ {is : List Nat} {es : List Expr}, agNms X.N sc fnc is es = true →
    PGs X es (gNms is) ∧ (assignEach es X.env).length = is.length ∧ (assignEach es X.env).findIdx? (·.1) = none
  | [], [], _ => ⟨pgs_nil, rfl, rfl⟩
  | i :: is, e :: es, h => by
    simp only [agNms] at h
    split at h
    · rename_i x hx
      obtain ⟨p, rfl⟩ := nameOf_is hx
      simp only [Bool.and_eq_true] at h
      obtain ⟨g1, g2, g3⟩ := g_nms hs hn hf h.2
      refine ⟨pgs_cons (g_name hs hn hf h.1) g1 rfl, ?_, ?_⟩
      · show (assignEach es X.env).length + 1 = _
        rw [g2]; rfl
      · show List.findIdx? (·.1) ((false, assign (.Name x p) X.env) :: assignEach es X.env) = none
        rw [List.findIdx?_cons]
        simp [g3]
    · cases h
  | [], _ :: _, h => by simp only [agNms] at h; cases h
  | _ :: _, [], h => by simp only [agNms] at h; cases h
theorem g_tg (hc : X.calm = true) (hs : X.env.scope = sc) (hn : X.N.Nodup) (hf : ∀ x, fnc x = true → X.fn x = true) {t : Tg} {e : Expr} (h : agTg X.N sc fnc t e = true) : PG X e (gOf X.K t) := by
  unfold agTg at h
  split at h
  · exact g_name hs hn hf h
  · obtain ⟨g1, g2, g3⟩ := g_nms hs hn hf h
    exact pg_tup hc g1 g2 g3
  · cases h
end
end Iq
set_option Elab.async false
set_option linter.all false
set_option maxRecDepth 100000
set_option maxHeartbeats 1000000
namespace Iq
open PySem L2 PyProof.Rows

/-! ### zip of a tuple and a list -/
/-- the tuple at a, the list at b, as they stand at each turn; new pairs -/
def ItM (K : PySem.W.Frag) (a b : Addr) : It where
  go := fun i H => ∃ (xs ys : List V), SqT K H a xs ∧ SqL K H b ys ∧ i < xs.length ∧ i < ys.length
  yld := fun i H v H' => ∃ T x y, v = .ref T ∧ H T = none ∧ H' = upd H T (.tup [x, y]) ∧ (∀ xs, SqT K H a xs → xs[i]? = some x) ∧ ∀ ys, SqL K H b ys → ys[i]? = some y
  stop := fun i H => ∃ (xs ys : List V), SqT K H a xs ∧ SqL K H b ys ∧ i = min xs.length ys.length
def stM (z TI TO i1 i2 a b : Addr) (i : Nat) (h : Heap) : Prop := IsZip h z TI TO .none ∧ IsTupOf2 h TI (.ref i1) (.ref i2) ∧ (∃ x y, IsTupOf2 h TO x y) ∧ h.IsTupleIter i1 a i ∧ h.IsListIter i2 b i
theorem turn_zipM {P : Program} {w : World} {K : PySem.W.Frag} {elts : List Expr} {kk : Nat} {tpos : Pos} {a b z TI TO i1 i2 : Addr} (D : ZipSep2 z TI TO i1 i2 [i1, a] [i2, b]) (n1 : a ≠ i1) (n2 : b ≠ i2) :
    Turn P w K (.Tuple elts kk tpos) (ItM K a b) [z, TI, TO, i1, i2] z (stM z TI TO i1 i2 a b) where
  mem := by simp
  obj := fun i h st c hc => by
    obtain ⟨hz, hTI, ⟨x, y, hTO⟩, ⟨o1, e1, _, d1⟩, ⟨o2, e2, _, d2⟩⟩ := st
    have e' : c = z ∨ c = TI ∨ c = TO ∨ c = i1 ∨ c = i2 := by simpa using hc
    rcases e' with rfl | rfl | rfl | rfl | rfl
    · exact ⟨_, hz, fun v q => nomatch q⟩
    · exact ⟨_, hTI, fun v q => nomatch q⟩
    · exact ⟨_, hTO, fun v q => nomatch q⟩
    · exact ⟨o1, e1, fun v q => by rw [d1] at q; cases q⟩
    · exact ⟨o2, e2, fun v q => by rw [d2] at q; cases q⟩
  keep := fun i h h' st k => by
    obtain ⟨hz, hTI, ⟨x, y, hTO⟩, h1, h2⟩ := st
    refine ⟨k z (by simp) _ hz, k TI (by simp) _ hTI, ⟨x, y, k TO (by simp) _ hTO⟩, h1.at fun o q => k i1 (by simp) o q, h2.at fun o q => k i2 (by simp) o q⟩
  item := by
    intro X hP hw hK hc i pins s σ H E I hf st hg
    subst hP hw hK
    obtain ⟨hz, hTI, hTO, h1, h2⟩ := st
    obtain ⟨xs, ys, hqx, hqy, li, lj⟩ := hg
    obtain ⟨its, rv, p, _⟩ := I.tuple hqx
    obtain ⟨its2, rv2, p2, _⟩ := I.list hqy
    have hh : X.A.in1.handled = none := I.ok.hd hc
    have W := GoesN.zip2 (elts := elts) (x1 := kk) (pos := tpos) D (Draws.tuple (prog := X.prog) (w := X.w) (A := X.A.in1) hh i1 a n1 its.toArray) (Draws.list (prog := X.prog) (w := X.w) (A := X.A.in1) hh i2 b n2 its2.toArray)
    have l1 := rv.length
    have l2 := rv2.length
    refine wpAny_mono (W.goes i s (fun u s2 => ∃ x H', Inv X pins σ H' s2 ∧ RelV x u ∧ (ItM X.K a b).yld i H x H' ∧ stM z TI TO i1 i2 a b (i + 1) s2.heap ∧ ∀ b ∈ [z, TI, TO, i1, i2], H' b = none) E (by simp; omega) ⟨hz, hTI, hTO, ⟨h1, p⟩, h2, p2.isList⟩ fun v h' tk hY st' hk htk => ?_) (fun _ _ h => h) fun _ _ e => e
    obtain ⟨T, u, u2, rfl, hT, hu, hu2, q⟩ := hY
    obtain ⟨hz', hTI', hTO', ⟨h1', _⟩, h2', _⟩ := st'
    obtain ⟨x, hx⟩ : ∃ x, xs[i]? = some x := ⟨xs[i], by simp [li]⟩
    obtain ⟨y, hy⟩ : ∃ y, ys[i]? = some y := ⟨ys[i], by simp [lj]⟩
    obtain ⟨u', g1, ru⟩ := rv.get hx
    obtain ⟨u2', g2, ru2⟩ := rv2.get hy
    simp only [List.getElem?_toArray] at hu hu2
    rw [hu] at g1; cases g1
    rw [hu2] at g2; cases g2
    have new : ObjOk X.prog X.w (upd H T (.tup [x, y])) h' T (.tup [x, y]) := ⟨by show 2 ≤ sizeLine; decide, [u, u2], .cons ru (.cons ru2 .nil), q⟩
    have I1 : Inv X pins σ (upd H T (.tup [x, y])) { s with heap := h', toks := tk } :=
      I.turnedNew (ch := [z, TI, TO, i1, i2]) (fun c o hb e => hk c o (fun m => hb (by simp only [List.mem_cons, List.not_mem_nil, or_false] at m ⊢; rcases m with h | h | h | h <;> simp [h])) e) hf hT new
    refine ⟨.ref T, _, I1, rfl, ⟨T, x, y, rfl, I.hok.fresh hT, rfl, fun l hl => by rw [I.tuple_inj hl hqx]; exact hx, fun l hl => by rw [I.list_inj hl hqy]; exact hy⟩, ⟨hz', hTI', hTO', h1', h2'⟩, fun c hcm => ?_⟩
    have hlt : c < s.heap.objs.size := by
      have e' : c = z ∨ c = TI ∨ c = TO ∨ c = i1 ∨ c = i2 := by simpa using hcm
      obtain ⟨_, _, hTO⟩ := hTO
      rcases e' with rfl | rfl | rfl | rfl | rfl
      · exact Heap.lt_size hz
      · exact Heap.lt_size hTI
      · exact Heap.lt_size hTO
      · obtain ⟨_, e1, _⟩ := h1; exact Heap.lt_size e1
      · obtain ⟨_, e2, _⟩ := h2; exact Heap.lt_size e2
    rw [upd_ne (Nat.ne_of_lt (Nat.lt_of_lt_of_le hlt hT))]
    exact (hf c hcm).1
  done := by
    intro X hP hw hK hc i pins s σ H E I hf st hg
    subst hP hw hK
    obtain ⟨hz, hTI, hTO, h1, h2⟩ := st
    obtain ⟨xs, ys, hqx, hqy, rfl⟩ := hg
    obtain ⟨its, rv, p, _⟩ := I.tuple hqx
    obtain ⟨its2, rv2, p2, _⟩ := I.list hqy
    have hh : X.A.in1.handled = none := I.ok.hd hc
    have W := GoesN.zip2 (elts := elts) (x1 := kk) (pos := tpos) D (Draws.tuple (prog := X.prog) (w := X.w) (A := X.A.in1) hh i1 a n1 its.toArray) (Draws.list (prog := X.prog) (w := X.w) (A := X.A.in1) hh i2 b n2 its2.toArray)
    have e1 : min its.toArray.size its2.toArray.size = min xs.length ys.length := by simp [rv.length, rv2.length]
    refine W.stops s (fun s1 => Inv X pins σ H s1) E ?_ fun h' tk hk _ => ?_
    · rw [e1]; exact ⟨hz, hTI, hTO, ⟨h1, p⟩, h2, p2.isList⟩
    · exact I.turnedL (ch := [z, TI, TO, i1, i2]) (fun c o hb e => hk c o (fun m => hb (by simp only [List.mem_cons, List.not_mem_nil, or_false] at m ⊢; rcases m with h | h | h | h <;> simp [h])) e) hf
  self := fun A i s Q E st h => wpAny_pyIter_zip st.1 h
def iZipM (K : PySem.W.Frag) (ta : TA) : TI := fun σ H R => ta σ H fun vs H1 => ∃ a b xs ys, vs = [.ref a, .ref b] ∧ SqT K H1 a xs ∧ SqL K H1 b ys ∧ R (ItM K a b) H1
theorem pi_zipM {X : Cx} {e e2 : Expr} {ta : TA} {p pos tpos : Pos} {elts : List Expr} {kk : Nat} (hg : Gl X "zip") (hm : X.mg "zip" = none) (ha : PA X [e, e2] ta)
    (hs : starEach [e, e2] X.env = (false, eval e X.env) :: starEach [e2] X.env) (hpl : (backTo pos (starEach [e2] X.env)).any (·.1) = false) :
    PI X (.Tuple elts kk tpos) (.Call (.Name "zip" p) [e, e2] [] pos) (iZipM X.K ta) := by
  refine ⟨fun pins s σ H R I h => ?_⟩
  refine Call_ (ld_blt I hg hm PyProof.Rows.boot_zip (PyProof.Rows.callWith_type1 (thn (ha.run pos pins s σ H _ I h) fun us s1 ⟨vs, H1, I1, r1, q1⟩ => ?_) hs hpl))
  obtain ⟨a, b, xs, ys, rfl, hqx, hqy, q⟩ := q1
  cases r1 with
  | cons r rr =>
    cases rr with
    | cons r' rr =>
      cases rr
      cases r
      cases r'
      obtain ⟨its, rv, p1, _⟩ := I1.tuple hqx
      obtain ⟨its2, rv2, p2, _⟩ := I1.list hqy
      have la : a < s1.heap.objs.size := by obtain ⟨o, ho, _⟩ := id p1; exact Heap.lt_size ho
      have lb : b < s1.heap.objs.size := p2.lt
      refine zip_begins2 (begins_tuple a its.toArray) (begins_list b its2.toArray) p1 p2.isList fun h' hz hTI hTO h1 h2 _ hk => wpAny_pyIter_zip hz ?_
      have I2 : Inv X pins σ H1 { s1 with heap := h' } := I1.kept (t' := s1.toks) hk
      refine ⟨s1.heap.objs.size + 4, [s1.heap.objs.size + 4, s1.heap.objs.size + 2, s1.heap.objs.size + 3, s1.heap.objs.size, s1.heap.objs.size + 1], _, _, H1, rfl, I2, turn_zipM (zip_sep2 (fp1 := [a]) (fp2 := [b]) (by simpa using la) (by simpa using lb)) (Nat.ne_of_lt la) (Nat.ne_of_lt (Nat.lt_succ_of_lt lb)), ⟨hz, hTI, ⟨_, _, hTO⟩, ⟨_, h1, rfl, rfl⟩, ⟨_, h2, rfl, rfl⟩⟩, fun c hcm => ?_, q⟩
      have hle : s1.heap.objs.size ≤ c := by
        have e' : c = s1.heap.objs.size + 4 ∨ c = s1.heap.objs.size + 2 ∨ c = s1.heap.objs.size + 3 ∨ c = s1.heap.objs.size ∨ c = s1.heap.objs.size + 1 := by simpa using hcm
        rcases e' with z | z | z | z | z <;> (rw [z]; first | exact Nat.le_refl _ | exact Nat.le_add_right _ _)
      exact I1.fpOk hle (I1.hok.fresh hle)
end Iq
set_option Elab.async false
set_option linter.all false
set_option maxRecDepth 100000
set_option maxHeartbeats 1000000
namespace Iq
open PySem L2

/-! ### what is walked -/
structure Wk (Z : Zt) (J : It) (ds : List D) (Sr : Mu → Hp → Prop) : Prop where
  stay : ∀ M H M' H', Sr M H → Carry Z M H M' H' → Sr M' H'
  go : ∀ i M H, Sr M H → i < ds.length → J.go i H
  stop : ∀ i M H, Sr M H → i = ds.length → J.stop i H
  yld : ∀ i M H x H', Sr M H → i < ds.length → J.yld i H x H' → ∃ d, ds[i]? = some d ∧ Mk Z M H d false x H'
def rdI (Z : Zt) (F : Fm) (f : List Sl → R (List D × List Sl)) : TI := fun σ H Q =>
  ∃ (M : Mu) (ς : List Sl) (ds : List D) (ς' : List Sl), Sim Z F M σ ς H ∧ f ς = .ok (ds, ς') ∧ ∀ J H' M' Sr, Nxt Z F M σ ς H M' ς' H' → Wk Z J ds Sr → Sr M' H' → ds.length ≤ sizeLine → Q J H'
def evI (P : Pr) (k : Ik) (ss : List Ex) (ς : List Sl) : R (List D × List Sl) := (evL P ss ς).bind fun r => (walk k r.1).bind fun xs => .ok (xs, r.2)

/-- lengths of what stands in the heap -/
def Fct (K : PySem.W.Frag) (H : Hp) : Prop := (∀ a xs, SqL K H a xs → xs.length ≤ sizeLine) ∧ ∀ a xs, SqT K H a xs → xs.length ≤ sizeLine
section
variable {X : Cx} {e : Expr} {es : List Expr}
theorem fct_of {pins : List (Addr × Obj)} {σ : L2.St} {H : Hp} {s : Shared} (I : L2.Inv X pins σ H s) : Fct X.K H :=
  ⟨fun a xs h => let ⟨_, _, _, q⟩ := I.list h; q, fun a xs h => let ⟨_, _, _, q⟩ := I.tuple h; q⟩
theorem pe_fct {t : TE} (h : PE X e t) : PE X e (fun σ H Q => t σ H fun v H' => Fct X.K H' → Q v H') :=
  ⟨fun pins s σ H Q I q => thn (h.run pins s σ H _ I q) fun u s' ⟨v, H', I', r, k⟩ => ⟨v, H', I', r, k (fct_of I')⟩⟩
theorem pa_fct {t : TA} (h : PA X es t) : PA X es (fun σ H Q => t σ H fun v H' => Fct X.K H' → Q v H') :=
  ⟨fun pos pins s σ H Q I q => thn (h.run pos pins s σ H _ I q) fun u s' ⟨v, H', I', r, k⟩ => ⟨v, H', I', r, k (fct_of I')⟩⟩
theorem pior {tg : Expr} {w w' : TI} (h : PI X tg e w) (k : PI X tg e w') : PI X tg e (fun σ H R => w σ H R ∨ w' σ H R) := ⟨fun pins s σ H R I q => q.elim (h.run pins s σ H R I) (k.run pins s σ H R I)⟩
theorem piimp {tg : Expr} {w w' : TI} (h : PI X tg e w) (i : ∀ σ H Q, w' σ H Q → w σ H Q) : PI X tg e w' := ⟨fun pins s σ H R I q => h.run pins s σ H R I (i _ _ _ q)⟩
end

section
variable {Z : Zt}
theorem wk_list {a : Addr} {ds : List D} : Wk Z (Itl Z.K a) ds (fun M H => ∃ vs, Li Z M H a vs ∧ RepL Z M H ds vs) where
  stay := fun M H M' H' ⟨vs, h1, h2⟩ c => ⟨vs, c.li a vs h1, RepL.carry c _ _ h2⟩
  go := fun i M H ⟨vs, h1, h2⟩ hi => ⟨vs, vs[i]'(by rw [← h2.length]; exact hi), h1.sq, by simp⟩
  stop := fun i M H ⟨vs, h1, h2⟩ hi => ⟨vs, h1.sq, by rw [← h2.length]; exact Nat.le_of_eq hi.symm⟩
  yld := fun i M H x H' ⟨vs, h1, h2⟩ hi ⟨e, y⟩ => by
    subst e
    obtain ⟨d, e, r⟩ := h2.get' (y vs h1.sq)
    exact ⟨d, e, .same r⟩
theorem wk_tup {a : Addr} {ds : List D} : Wk Z (Itt Z.K a) ds (fun M H => ∃ vs, Tu Z M H a vs ∧ RepL Z M H ds vs) where
  stay := fun M H M' H' ⟨vs, h1, h2⟩ c => ⟨vs, c.tu a vs h1, RepL.carry c _ _ h2⟩
  go := fun i M H ⟨vs, h1, h2⟩ hi => ⟨vs, vs[i]'(by rw [← h2.length]; exact hi), h1.sq, by simp⟩
  stop := fun i M H ⟨vs, h1, h2⟩ hi => ⟨vs, h1.sq, by rw [← h2.length]; exact Nat.le_of_eq hi.symm⟩
  yld := fun i M H x H' ⟨vs, h1, h2⟩ hi ⟨e, y⟩ => by
    subst e
    obtain ⟨d, e, r⟩ := h2.get' (y vs h1.sq)
    exact ⟨d, e, .same r⟩
theorem chars_len (z : Str) : (chars z).length = z.cps.size := by simp [chars]
theorem wk_str {z : Str} : Wk Z (Its z) (chars z) (fun _ _ => True) where
  stay := fun _ _ _ _ _ _ => trivial
  go := fun i _ _ _ hi => by rw [chars_len] at hi; exact hi
  stop := fun i _ _ _ hi => by rw [chars_len] at hi; exact Nat.le_of_eq hi.symm
  yld := fun i M H x H' _ hi ⟨e, c, hc, hx⟩ => by
    subst e hx
    refine ⟨.str ⟨#[c]⟩, ?_, .same rep_str⟩
    simp only [chars, List.getElem?_map]
    rw [show z.cps.toList[i]? = some c by simpa using hc]; rfl
theorem wk_rng {lo : Int} {n : Nat} : Wk Z (Itr lo n) (upTo lo n) (fun _ _ => True) where
  stay := fun _ _ _ _ _ _ => trivial
  go := fun i _ _ _ hi => by show i < n; simpa [upTo] using hi
  stop := fun i _ _ _ hi => by show n ≤ i; simp [upTo] at hi; omega
  yld := fun i M H x H' _ hi ⟨e, hx⟩ => by
    subst e hx
    refine ⟨.int (lo + (i : Nat)), ?_, .same rep_int⟩
    simp only [upTo, List.length_map, List.length_range] at hi
    simp only [upTo, List.getElem?_map]
    rw [List.getElem?_range hi]; rfl
theorem zipD_len : ∀ (as bs : List D), (zipD as bs).length = min as.length bs.length
  | [], bs => by cases bs <;> simp [zipD]
  | _ :: _, [] => by simp [zipD]
  | a :: as, b :: bs => by simp only [zipD, List.length_cons, zipD_len as bs]; omega
theorem zipD_get : ∀ (as bs : List D) (i : Nat) (a b : D), as[i]? = some a → bs[i]? = some b → (zipD as bs)[i]? = some (.tup [a, b])
  | [], _, i, _, _, h, _ => by simp at h
  | _ :: _, [], i, _, _, _, h => by simp at h
  | a :: as, b :: bs, 0, x, y, h1, h2 => by simp at h1 h2; subst h1 h2; simp [zipD]
  | a :: as, b :: bs, i + 1, x, y, h1, h2 => by
    simp only [zipD, List.getElem?_cons_succ] at *
    exact zipD_get as bs i x y h1 h2
theorem rep2 {M : Mu} {H : Hp} {a b : D} {x y : V} (h1 : Rep Z M H a x) (h2 : Rep Z M H b y) : RepL Z M H [a, b] [x, y] := by
  simp only [RepL]
  exact ⟨x, _, rfl, h1, y, _, rfl, h2, rfl⟩
theorem wk_zipL {a b : Addr} {as bs : List D} : Wk Z (Itz Z.K a b) (zipD as bs) (fun M H => ∃ vs us, Li Z M H a vs ∧ Li Z M H b us ∧ RepL Z M H as vs ∧ RepL Z M H bs us) where
  stay := fun M H M' H' ⟨vs, us, h1, h2, h3, h4⟩ c => ⟨vs, us, c.li _ _ h1, c.li _ _ h2, RepL.carry c _ _ h3, RepL.carry c _ _ h4⟩
  go := fun i M H ⟨vs, us, h1, h2, h3, h4⟩ hi => by
    rw [zipD_len, h3.length, h4.length] at hi
    exact ⟨vs, us, vs[i]'(by omega), us[i]'(by omega), h1.sq, h2.sq, by simp, by simp⟩
  stop := fun i M H ⟨vs, us, h1, h2, h3, h4⟩ hi => by
    rw [zipD_len, h3.length, h4.length] at hi
    exact ⟨vs, us, h1.sq, h2.sq, by omega⟩
  yld := fun i M H x H' ⟨vs, us, h1, h2, h3, h4⟩ hi ⟨T, p, q, e1, e2, e3, y1, y2⟩ => by
    subst e1 e3
    obtain ⟨d1, g1, r1⟩ := h3.get' (y1 vs h1.sq)
    obtain ⟨d2, g2, r2⟩ := h4.get' (y2 us h2.sq)
    exact ⟨_, zipD_get as bs i d1 d2 g1 g2, .tup e2 (rep2 r1 r2)⟩
theorem wk_zipT {a b : Addr} {as bs : List D} : Wk Z (RZ.ItzT Z.K a b) (zipD as bs) (fun M H => ∃ vs us, Tu Z M H a vs ∧ Tu Z M H b us ∧ RepL Z M H as vs ∧ RepL Z M H bs us) where
  stay := fun M H M' H' ⟨vs, us, h1, h2, h3, h4⟩ c => ⟨vs, us, c.tu _ _ h1, c.tu _ _ h2, RepL.carry c _ _ h3, RepL.carry c _ _ h4⟩
  go := fun i M H ⟨vs, us, h1, h2, h3, h4⟩ hi => by
    rw [zipD_len, h3.length, h4.length] at hi
    exact ⟨vs, us, vs[i]'(by omega), us[i]'(by omega), h1.sq, h2.sq, by simp, by simp⟩
  stop := fun i M H ⟨vs, us, h1, h2, h3, h4⟩ hi => by
    rw [zipD_len, h3.length, h4.length] at hi
    exact ⟨vs, us, h1.sq, h2.sq, by omega⟩
  yld := fun i M H x H' ⟨vs, us, h1, h2, h3, h4⟩ hi ⟨T, p, q, e1, e2, e3, y1, y2⟩ => by
    subst e1 e3
    obtain ⟨d1, g1, r1⟩ := h3.get' (y1 vs h1.sq)
    obtain ⟨d2, g2, r2⟩ := h4.get' (y2 us h2.sq)
    exact ⟨_, zipD_get as bs i d1 d2 g1 g2, .tup e2 (rep2 r1 r2)⟩
theorem wk_zipM {a b : Addr} {as bs : List D} : Wk Z (ItM Z.K a b) (zipD as bs) (fun M H => ∃ vs us, Tu Z M H a vs ∧ Li Z M H b us ∧ RepL Z M H as vs ∧ RepL Z M H bs us) where
  stay := fun M H M' H' ⟨vs, us, h1, h2, h3, h4⟩ c => ⟨vs, us, c.tu _ _ h1, c.li _ _ h2, RepL.carry c _ _ h3, RepL.carry c _ _ h4⟩
  go := fun i M H ⟨vs, us, h1, h2, h3, h4⟩ hi => by
    rw [zipD_len, h3.length, h4.length] at hi
    exact ⟨vs, us, h1.sq, h2.sq, by omega, by omega⟩
  stop := fun i M H ⟨vs, us, h1, h2, h3, h4⟩ hi => by
    rw [zipD_len, h3.length, h4.length] at hi
    exact ⟨vs, us, h1.sq, h2.sq, hi⟩
  yld := fun i M H x H' ⟨vs, us, h1, h2, h3, h4⟩ hi ⟨T, p, q, e1, e2, e3, y1, y2⟩ => by
    subst e1 e3
    obtain ⟨d1, g1, r1⟩ := h3.get' (y1 vs h1.sq)
    obtain ⟨d2, g2, r2⟩ := h4.get' (y2 us h2.sq)
    exact ⟨_, zipD_get as bs i d1 d2 g1 g2, .tup e2 (rep2 r1 r2)⟩
theorem enuD_len : ∀ (as : List D) (n : Nat), (enuD n as).length = as.length
  | [], _ => rfl
  | _ :: as, n => by simp [enuD, enuD_len as (n + 1)]
theorem enuD_get : ∀ (as : List D) (n i : Nat) (a : D), as[i]? = some a → (enuD n as)[i]? = some (.tup [.int ((n + i : Nat) : Int), a])
  | [], _, i, _, h => by simp at h
  | a :: as, n, 0, x, h => by simp at h; subst h; simp [enuD]
  | a :: as, n, i + 1, x, h => by
    simp only [enuD, List.getElem?_cons_succ] at *
    rw [enuD_get as (n + 1) i x h]
    have : n + 1 + i = n + (i + 1) := by omega
    rw [this]
theorem wk_enu {a : Addr} {as : List D} : Wk Z (Ite Z.K a) (enuD 0 as) (fun M H => ∃ vs, Li Z M H a vs ∧ RepL Z M H as vs) where
  stay := fun M H M' H' ⟨vs, h1, h2⟩ c => ⟨vs, c.li _ _ h1, RepL.carry c _ _ h2⟩
  go := fun i M H ⟨vs, h1, h2⟩ hi => by
    rw [enuD_len, h2.length] at hi
    exact ⟨vs, vs[i]'hi, h1.sq, by simp⟩
  stop := fun i M H ⟨vs, h1, h2⟩ hi => by
    rw [enuD_len, h2.length] at hi
    exact ⟨vs, h1.sq, Nat.le_of_eq hi.symm⟩
  yld := fun i M H x H' ⟨vs, h1, h2⟩ hi ⟨T, p, e1, e2, e3, y1⟩ => by
    subst e1 e3
    obtain ⟨d1, g1, r1⟩ := h2.get' (y1 vs h1.sq)
    refine ⟨_, enuD_get as 0 i d1 g1, .tup e2 (rep2 ?_ r1)⟩
    rw [Nat.zero_add]; exact rep_int
end

section
variable {X : Cx} {fa : Nat → Addr} {Γ : Gt} {P : Pr} {n : Nat} {F : Fm} {e x y z tg : Expr} {pos : Pos}
theorem walk_seq {d : D} {xs : List D} (e : walk .seq [d] = .ok xs) : (∃ as, d = .lst as ∧ xs = as) ∨ (∃ as, d = .tup as ∧ xs = as) ∨ ∃ z, d = .str z ∧ z.length ≤ sizeLine ∧ xs = chars z := by
  cases d <;> simp only [walk] at e <;> try (cases e; done)
  · split at e
    · rename_i hz; cases e; exact .inr (.inr ⟨_, rfl, hz, rfl⟩)
    · cases e
  · cases e; exact .inr (.inl ⟨_, rfl, rfl⟩)
  · cases e; exact .inl ⟨_, rfl, rfl⟩
theorem i_seq {a : Ex} (ha : PE X e (rdE (zt X fa) F (evE P a))) : PI X tg e (rdI (zt X fa) F (evI P .seq [a])) := by
  refine piimp (pior (pi_list (pe_fct ha)) (pior (pi_tup (pe_fct ha)) (pi_str ha))) fun σ H Q ⟨M, ς, ds, ς', S, e, k⟩ => ?_
  unfold evI at e
  obtain ⟨⟨d1, ς1⟩, e1, e⟩ := R.bind_is e
  obtain ⟨xs, e2, e⟩ := R.bind_is e
  cases e
  simp only [evL] at e1
  obtain ⟨⟨d, fr, ς2⟩, e3, e1⟩ := R.bind_is e1
  cases e1
  rcases walk_seq e2 with ⟨as, rfl, rfl⟩ | ⟨as, rfl, rfl⟩ | ⟨z, rfl, hz, rfl⟩
  · refine .inl ⟨M, ς, _, fr, _, S, e3, fun v H1 ⟨M1, n1, r1, _⟩ fc => ?_⟩
    simp only [Rep] at r1
    obtain ⟨l, vs, rfl, h1, h2⟩ := r1
    exact ⟨l, rfl, ⟨vs, h1.sq⟩, k _ _ M1 _ n1 wk_list ⟨vs, h1, h2⟩ (by rw [h2.length]; exact fc.1 l vs h1.sq)⟩
  · refine .inr (.inl ⟨M, ς, _, fr, _, S, e3, fun v H1 ⟨M1, n1, r1, _⟩ fc => ?_⟩)
    simp only [Rep] at r1
    obtain ⟨l, vs, rfl, h1, h2⟩ := r1
    exact ⟨l, rfl, ⟨vs, h1.sq⟩, k _ _ M1 _ n1 wk_tup ⟨vs, h1, h2⟩ (by rw [h2.length]; exact fc.2 l vs h1.sq)⟩
  · refine .inr (.inr ⟨M, ς, _, fr, _, S, e3, fun v H1 ⟨M1, n1, r1, _⟩ => ?_⟩)
    simp only [Rep] at r1
    exact ⟨_, r1, k _ _ M1 _ n1 wk_str trivial (by rw [chars_len]; exact hz)⟩
theorem walk_rng {d : D} {xs : List D} (e : walk .rng [d] = .ok xs) : ∃ j, d = .int j ∧ -1000 ≤ j ∧ j ≤ 16777216 ∧ xs = upTo 0 j.toNat := by
  cases d <;> simp only [walk] at e <;> try (cases e; done)
  split at e
  · rename_i hz
    cases e
    exact ⟨_, rfl, hz.1, hz.2, rfl⟩
  · cases e
theorem walk_rng2 {c d : D} {xs : List D} (e : walk .rng2 [c, d] = .ok xs) : ∃ i j, c = .int i ∧ d = .int j ∧ (-1000 ≤ i ∧ i ≤ 10000000 ∧ -1000 ≤ j ∧ j ≤ 10000000) ∧ xs = upTo i (j - i).toNat := by
  cases c <;> cases d <;> simp only [walk] at e <;> try (cases e; done)
  split at e
  · rename_i hz
    cases e
    exact ⟨_, _, rfl, rfl, hz, rfl⟩
  · cases e
theorem walk_enu {d : D} {xs : List D} (e : walk .enu [d] = .ok xs) : ∃ as, d = .lst as ∧ xs = enuD 0 as := by
  cases d <;> simp only [walk] at e <;> try (cases e; done)
  cases e
  exact ⟨_, rfl, rfl⟩
theorem walk_zip {c d : D} {xs : List D} (e : walk .zip [c, d] = .ok xs) : (∃ as bs, c = .lst as ∧ d = .lst bs ∧ xs = zipD as bs) ∨ (∃ as bs, c = .tup as ∧ d = .tup bs ∧ xs = zipD as bs) ∨ (∃ as bs, c = .tup as ∧ d = .lst bs ∧ xs = zipD as bs) := by
  cases c <;> cases d <;> simp only [walk] at e <;> try (cases e; done)
  · cases e; exact .inr (.inl ⟨_, _, rfl, rfl, rfl⟩)
  · cases e; exact .inr (.inr ⟨_, _, rfl, rfl, rfl⟩)
  · cases e; exact .inl ⟨_, _, rfl, rfl, rfl⟩
theorem ev1 {P : Pr} {a : Ex} {ς : List Sl} {r : List D × List Sl} (e : evL P [a] ς = .ok r) : ∃ d, r.1 = [d] := by
  simp only [evL] at e
  obtain ⟨⟨d, fr, ς2⟩, e3, e1⟩ := R.bind_is e
  cases e1
  exact ⟨d, rfl⟩
theorem i_rng (G : Gd X fa Γ P n) {sc : Scope} {a : Ex} {x : Str} {p : Pos} (hs : X.env.scope = sc) (h : isG sc x = true) (hx : x = "range") (ps : SEs X (zt X fa) F P [a] [y]) : PI X tg (.Call (.Name x p) [y] [] pos) (rdI (zt X fa) F (evI P .rng [a])) := by
  obtain ⟨hg, hd⟩ := isG_gl hs h
  have hm : X.mg x = none := G.free x (by rw [hx]; exact mem_bn (by decide +kernel))
  subst hx
  have hn := ps.nst
  simp only [List.all_cons, Bool.and_eq_true] at hn
  refine piimp (pi_range1 hg hm ps.rows (star_cons hn.1)) fun σ H Q ⟨M, ς, ds, ς', S, e, k⟩ => ?_
  unfold evI at e
  obtain ⟨⟨d1, ς1⟩, e1, e⟩ := R.bind_is e
  obtain ⟨xs, e2, e⟩ := R.bind_is e
  cases e
  obtain ⟨d, hd⟩ := ev1 e1
  simp only [] at hd
  subst hd
  refine ⟨M, ς, [d], _, S, e1, fun vs H1 M1 n1 r1 => ?_⟩
  obtain ⟨j, rfl, h1, h2, rfl⟩ := walk_rng e2
  simp only [RepL, Rep] at r1
  obtain ⟨v, r, rfl, rfl, rfl⟩ := r1
  refine ⟨_, rfl, by omega, by omega, k _ _ M1 _ n1 wk_rng trivial ?_⟩
  simp only [upTo, List.length_map, List.length_range]
  have : sizeLine = 16777216 := sizeLine_eq
  omega
theorem ev2 {P : Pr} {a b : Ex} {ς : List Sl} {r : List D × List Sl} (e : evL P [a, b] ς = .ok r) : ∃ c d, r.1 = [c, d] := by
  simp only [evL] at e
  obtain ⟨⟨d, fr, ς2⟩, e3, e⟩ := R.bind_is e
  obtain ⟨⟨ds, ς3⟩, e4, e⟩ := R.bind_is e
  obtain ⟨⟨d2, fr2, ς4⟩, e5, e4⟩ := R.bind_is e4
  cases e4
  cases e
  exact ⟨d, d2, rfl⟩
theorem i_rng2 (G : Gd X fa Γ P n) {sc : Scope} {a b : Ex} {x : Str} {p : Pos} (hs : X.env.scope = sc) (h : isG sc x = true) (hx : x = "range") (ps : SEs X (zt X fa) F P [a, b] [y, z]) : PI X tg (.Call (.Name x p) [y, z] [] pos) (rdI (zt X fa) F (evI P .rng2 [a, b])) := by
  obtain ⟨hg, hd⟩ := isG_gl hs h
  have hm : X.mg x = none := G.free x (by rw [hx]; exact mem_bn (by decide +kernel))
  subst hx
  have hn := ps.nst
  simp only [List.all_cons, Bool.and_eq_true] at hn
  refine piimp (pi_range2 hg hm ps.rows (by rw [star_cons hn.1, star_cons hn.2.1]; rfl) (star_cons hn.2.1)) fun σ H Q ⟨M, ς, ds, ς', S, e, k⟩ => ?_
  unfold evI at e
  obtain ⟨⟨d1, ς1⟩, e1, e⟩ := R.bind_is e
  obtain ⟨xs, e2, e⟩ := R.bind_is e
  cases e
  obtain ⟨c, d, hd⟩ := ev2 e1
  simp only [] at hd
  subst hd
  refine ⟨M, ς, [c, d], _, S, e1, fun vs H1 M1 n1 r1 => ?_⟩
  obtain ⟨i, j, rfl, rfl, h1, rfl⟩ := walk_rng2 e2
  simp only [RepL, Rep] at r1
  obtain ⟨v, r, rfl, rfl, v2, r2, rfl, rfl, rfl⟩ := r1
  refine ⟨_, _, rfl, by omega, k _ _ M1 _ n1 wk_rng trivial ?_⟩
  simp only [upTo, List.length_map, List.length_range]
  have : sizeLine = 16777216 := sizeLine_eq
  omega
theorem i_enu (G : Gd X fa Γ P n) {sc : Scope} {a : Ex} {x : Str} {p : Pos} (hs : X.env.scope = sc) (h : isG sc x = true) (hx : x = "enumerate") (ht : isTup tg = true) (ps : SEs X (zt X fa) F P [a] [y]) : PI X tg (.Call (.Name x p) [y] [] pos) (rdI (zt X fa) F (evI P .enu [a])) := by
  obtain ⟨hg, hd⟩ := isG_gl hs h
  have hm : X.mg x = none := G.free x (by rw [hx]; exact mem_bn (by decide +kernel))
  subst hx
  have hn := ps.nst
  simp only [List.all_cons, Bool.and_eq_true] at hn
  obtain ⟨es, kk, tp, rfl⟩ : ∃ es kk tp, tg = .Tuple es kk tp := by
    cases tg <;> first | exact ⟨_, _, _, rfl⟩ | cases ht
  refine piimp (pi_enum hg hm (pa_fct ps.rows) (star_cons hn.1)) fun σ H Q ⟨M, ς, ds, ς', S, e, k⟩ => ?_
  unfold evI at e
  obtain ⟨⟨d1, ς1⟩, e1, e⟩ := R.bind_is e
  obtain ⟨xs, e2, e⟩ := R.bind_is e
  cases e
  obtain ⟨d, hd⟩ := ev1 e1
  simp only [] at hd
  subst hd
  refine ⟨M, ς, [d], _, S, e1, fun vs H1 M1 n1 r1 fc => ?_⟩
  obtain ⟨as, rfl, rfl⟩ := walk_enu e2
  simp only [RepL, Rep] at r1
  obtain ⟨v, r, rfl, ⟨l, us, rfl, h1, h2⟩, rfl⟩ := r1
  refine ⟨l, us, rfl, h1.sq, k _ _ M1 _ n1 wk_enu ⟨us, h1, h2⟩ ?_⟩
  rw [enuD_len, h2.length]; exact fc.1 l us h1.sq
theorem i_zip (G : Gd X fa Γ P n) {sc : Scope} {a b : Ex} {x : Str} {p : Pos} (hs : X.env.scope = sc) (h : isG sc x = true) (hx : x = "zip") (ht : isTup tg = true) (ps : SEs X (zt X fa) F P [a, b] [y, z]) : PI X tg (.Call (.Name x p) [y, z] [] pos) (rdI (zt X fa) F (evI P .zip [a, b])) := by
  obtain ⟨hg, hd⟩ := isG_gl hs h
  have hm : X.mg x = none := G.free x (by rw [hx]; exact mem_bn (by decide +kernel))
  subst hx
  have hn := ps.nst
  simp only [List.all_cons, Bool.and_eq_true] at hn
  obtain ⟨es, kk, tp, rfl⟩ : ∃ es kk tp, tg = .Tuple es kk tp := by
    cases tg <;> first | exact ⟨_, _, _, rfl⟩ | cases ht
  refine piimp (pior (RZ.pi_zipA hg hm (pa_fct ps.rows) (star_cons hn.1) (star_any (by simp [hn.2.1]))) (pi_zipM hg hm (pa_fct ps.rows) (star_cons hn.1) (star_any (by simp [hn.2.1])))) fun σ H Q ⟨M, ς, ds, ς', S, e, k⟩ => ?_
  unfold evI at e
  obtain ⟨⟨d1, ς1⟩, e1, e⟩ := R.bind_is e
  obtain ⟨xs, e2, e⟩ := R.bind_is e
  cases e
  obtain ⟨c, d, hd⟩ := ev2 e1
  simp only [] at hd
  subst hd
  rcases walk_zip e2 with ⟨as, bs, rfl, rfl, rfl⟩ | ⟨as, bs, rfl, rfl, rfl⟩ | ⟨as, bs, rfl, rfl, rfl⟩
  · refine .inl ⟨M, ς, _, _, S, e1, fun vs H1 M1 n1 r1 fc => ?_⟩
    simp only [RepL, Rep] at r1
    obtain ⟨v, r, rfl, ⟨l, us, rfl, h1, h2⟩, v2, r2, rfl, ⟨l2, us2, rfl, h3, h4⟩, rfl⟩ := r1
    refine ⟨l, l2, us, us2, rfl, .inl ⟨h1.sq, h3.sq, k _ _ M1 _ n1 wk_zipL ⟨us, us2, h1, h3, h2, h4⟩ ?_⟩⟩
    rw [zipD_len, h2.length]
    have := fc.1 l us h1.sq
    omega
  · refine .inl ⟨M, ς, _, _, S, e1, fun vs H1 M1 n1 r1 fc => ?_⟩
    simp only [RepL, Rep] at r1
    obtain ⟨v, r, rfl, ⟨l, us, rfl, h1, h2⟩, v2, r2, rfl, ⟨l2, us2, rfl, h3, h4⟩, rfl⟩ := r1
    refine ⟨l, l2, us, us2, rfl, .inr ⟨h1.sq, h3.sq, k _ _ M1 _ n1 wk_zipT ⟨us, us2, h1, h3, h2, h4⟩ ?_⟩⟩
    rw [zipD_len, h2.length]
    have := fc.2 l us h1.sq
    omega
  · refine .inr ⟨M, ς, _, _, S, e1, fun vs H1 M1 n1 r1 fc => ?_⟩
    simp only [RepL, Rep] at r1
    obtain ⟨v, r, rfl, ⟨l, us, rfl, h1, h2⟩, v2, r2, rfl, ⟨l2, us2, rfl, h3, h4⟩, rfl⟩ := r1
    refine ⟨l, l2, us, us2, rfl, h1.sq, h3.sq, k _ _ M1 _ n1 wk_zipM ⟨us, us2, h1, h3, h2, h4⟩ ?_⟩
    rw [zipD_len, h2.length]
    have := fc.2 l us h1.sq
    omega
end
end Iq
set_option Elab.async false
set_option linter.all false
set_option maxRecDepth 100000
set_option maxHeartbeats 2000000
namespace Iq
open PySem L2

section
variable {Z : Zt} {F : Fm} {M M' : Mu} {σ : L2.St} {ς ς' ς1 : List Sl} {H H' : Hp} {d : D} {v : V} {vs : List Nat}
theorem wipe_get (i : Nat) : ∀ (vs : List Nat), (wipe σ vs)[i]? = if i ∈ vs then (if i < σ.length then some none else none) else σ[i]?
  | [] => by simp [wipe]
  | v :: vs => by
    unfold wipe
    by_cases e : v = i
    · subst e
      simp only [List.mem_cons, true_or, if_true]
      by_cases l : v < σ.length
      · rw [List.getElem?_set_self (by rw [wipe_length]; exact l), if_pos l]
      · rw [List.getElem?_eq_none (by rw [List.length_set, wipe_length]; omega), if_neg l]
    · rw [List.getElem?_set_ne e, wipe_get i vs]
      have : ¬ i = v := fun z => e z.symm
      simp [this]
theorem wipeS_len : ∀ (vs : List Nat), (wipeS ς vs).length = ς.length
  | [] => rfl
  | v :: vs => by unfold wipeS; rw [List.length_set, wipeS_len vs]
theorem wipeS_get (i : Nat) : ∀ (vs : List Nat), (wipeS ς vs)[i]? = if i ∈ vs then (if i < ς.length then some .no else none) else ς[i]?
  | [] => by simp [wipeS]
  | v :: vs => by
    unfold wipeS
    by_cases e : v = i
    · subst e
      simp only [List.mem_cons, true_or, if_true]
      by_cases l : v < ς.length
      · rw [List.getElem?_set_self (by rw [wipeS_len]; exact l), if_pos l]
      · rw [List.getElem?_eq_none (by rw [List.length_set, wipeS_len]; omega), if_neg l]
    · rw [List.getElem?_set_ne e, wipeS_get i vs]
      have : ¬ i = v := fun z => e z.symm
      simp [this]
theorem wipe_wipe : wipe (wipe σ vs) vs = wipe σ vs := by
  apply List.ext_getElem?
  intro i
  rw [wipe_get i vs, wipe_get i vs, wipe_length]
  by_cases e : i ∈ vs
  · simp [e]
  · simp [e]
theorem wipeS_own {i : Nat} {b : Bool} {d : D} (h : (wipeS ς vs)[i]? = some (.own b d)) : i ∉ vs ∧ ς[i]? = some (.own b d) := by
  rw [wipeS_get] at h
  by_cases e : i ∈ vs
  · rw [if_pos e] at h
    split at h <;> cases h
  · rw [if_neg e] at h; exact ⟨e, h⟩
theorem wipe_ne {i : Nat} (h : i ∉ vs) : (wipe σ vs)[i]? = σ[i]? := by rw [wipe_get, if_neg h]
theorem wipeS_ne {i : Nat} (h : i ∉ vs) : (wipeS ς vs)[i]? = ς[i]? := by rw [wipeS_get, if_neg h]
theorem Sim.wiped (S : Sim Z F M σ ς H) (vs : List Nat) : Sim Z F M (wipe σ vs) (wipeS ς vs) H := by
  refine ⟨by rw [wipe_length, wipeS_len]; exact S.len, fun i d h => ?_, fun i b d h => ?_, fun i j b d b' d' a ij h1 h2 h3 => ?_, S.old, S.dom, S.sup, S.wm, S.dm0⟩
  · rw [wipeS_get] at h
    by_cases e : i ∈ vs
    · rw [if_pos e] at h
      split at h <;> cases h
    · rw [if_neg e] at h
      rw [wipe_ne e]
      exact S.shr i d h
  · obtain ⟨e, h⟩ := wipeS_own h
    obtain ⟨a, h1, h2, h3, h4⟩ := S.own i b d h
    refine ⟨a, by rw [wipe_ne e]; exact h1, h2, ?_, h4⟩
    cases b with
    | true => exact ⟨h3.1, by rw [wipe_ne e]; exact h3.2⟩
    | false => exact h3
  · obtain ⟨e1, h1⟩ := wipeS_own h1
    obtain ⟨e2, h2⟩ := wipeS_own h2
    rw [wipe_ne e1] at h3
    rw [wipe_ne e2]
    exact S.sep i j _ _ _ _ a ij h1 h2 h3
theorem own_wipe : ∀ a, OwnS (wipe σ vs) (wipeS ς vs) a → OwnS σ ς a := fun a ⟨i, b, d, h1, h2⟩ => by
  obtain ⟨e, h1⟩ := wipeS_own h1
  rw [wipe_ne e] at h2
  exact ⟨i, b, d, h1, h2⟩
theorem backS_len : ∀ (vs : List Nat) (ς : List Sl), (backS ς1 vs ς).length = ς.length
  | [], _ => rfl
  | v :: vs, ς => by unfold backS; rw [backS_len vs, List.length_set]
theorem backS_get (i : Nat) : ∀ (vs : List Nat) (ς : List Sl), (backS ς1 vs ς)[i]? = if i ∈ vs then (if i < ς.length then some (ς1.getD i .no) else none) else ς[i]?
  | [], ς => by simp [backS]
  | v :: vs, ς => by
    unfold backS
    rw [backS_get i vs, List.length_set]
    by_cases e : v = i
    · subst e
      simp only [List.mem_cons, true_or, if_true]
      by_cases m : v ∈ vs
      · rw [if_pos m]
      · rw [if_neg m]
        by_cases l : v < ς.length
        · rw [List.getElem?_set_self l, if_pos l]
        · rw [List.getElem?_eq_none (by rw [List.length_set]; omega), if_neg l]
    · have : ¬ i = v := fun z => e z.symm
      rw [List.getElem?_set_ne e]
      simp [this]
theorem Sim.back (S : Sim Z F M (wipe σ vs) (wipeS ς vs) H) (hl : ς1.length = σ.length) (ho : ∀ i ∈ vs, isOwn ς1 i = false) (hs : ∀ (i : Nat) d, ς1[i]? = some (.shr d) → ∃ v, σ[i]? = some (some v) ∧ Rep Z M H d v) :
    Sim Z F M σ (backS ς1 vs ς) H ∧ ∀ a, OwnS σ (backS ς1 vs ς) a → OwnS (wipe σ vs) (wipeS ς vs) a := by
  have hl2 : ς.length = σ.length := by
    have := S.len
    rw [wipe_length, wipeS_len] at this
    exact this.symm
  have sl : ∀ i, i ∈ vs → i < ς.length → (backS ς1 vs ς)[i]? = ς1[i]? := fun i e l => by
    rw [backS_get, if_pos e, if_pos l, List.getD_eq_getElem?_getD]
    have : i < ς1.length := by rw [hl, ← hl2]; exact l
    rw [List.getElem?_eq_getElem this]; rfl
  have ow : ∀ (i : Nat) b d, (backS ς1 vs ς)[i]? = some (.own b d) → i ∉ vs ∧ ς[i]? = some (.own b d) := fun i b d h => by
    by_cases e : i ∈ vs
    · by_cases l : i < ς.length
      · rw [sl i e l] at h
        have := ho i e
        unfold isOwn at this
        rw [h] at this; cases this
      · rw [backS_get, if_pos e, if_neg l] at h; cases h
    · rw [backS_get, if_neg e] at h; exact ⟨e, h⟩
  refine ⟨⟨by rw [backS_len]; exact hl2.symm, fun i d h => ?_, fun i b d h => ?_, fun i j b d b' d' a ij h1 h2 h3 => ?_, S.old, S.dom, S.sup, S.wm, S.dm0⟩, fun a ⟨i, b, d, h1, h2⟩ => ?_⟩
  · by_cases e : i ∈ vs
    · by_cases l : i < ς.length
      · rw [sl i e l] at h; exact hs i d h
      · rw [backS_get, if_pos e, if_neg l] at h; cases h
    · rw [backS_get, if_neg e] at h
      have := S.shr i d (by rw [wipeS_ne e]; exact h)
      rw [wipe_ne e] at this; exact this
  · obtain ⟨e, h⟩ := ow i b d h
    obtain ⟨a, h1, h2, h3, h4⟩ := S.own i b d (by rw [wipeS_ne e]; exact h)
    rw [wipe_ne e] at h1
    refine ⟨a, h1, h2, ?_, h4⟩
    cases b with
    | true => exact ⟨h3.1, by have := h3.2; rw [wipe_ne e] at this; exact this⟩
    | false => exact h3
  · obtain ⟨e1, h1⟩ := ow i _ _ h1
    obtain ⟨e2, h2⟩ := ow j _ _ h2
    have := S.sep i j _ _ _ _ a ij (by rw [wipeS_ne e1]; exact h1) (by rw [wipeS_ne e2]; exact h2) (by rw [wipe_ne e1]; exact h3)
    rw [wipe_ne e2] at this; exact this
  · obtain ⟨e, h1⟩ := ow i b d h1
    exact ⟨i, b, d, by rw [wipeS_ne e]; exact h1, by rw [wipe_ne e]; exact h2⟩
/-- a yielded item -/
theorem Mk.item (k : Mk Z M H d false v H') (S : Sim Z F M σ ς H) : Sim Z F M σ ς H' ∧ Rep Z M H' d v ∧ (∀ a o, H a = some o → H' a = some o) ∧ (∀ p, H' p = none → H p = none) ∧ Carry Z M H M H' := by
  cases k with
  | same r => exact ⟨S, r, fun _ _ h => h, fun _ h => h, .evo (.refl _ _)⟩
  | @tup p ds vs h r =>
    refine ⟨S.new h, ?_, up_new h, upd_free, .evo (.new h)⟩
    simp only [Rep]
    exact ⟨p, vs, rfl, .new upd_same (S.nM h), RepL.carry (.evo (.new h)) _ _ r⟩
  | @lst p ds vs _ h r =>
    refine ⟨S.new h, ?_, up_new h, upd_free, .evo (.new h)⟩
    simp only [Rep]
    exact ⟨p, vs, rfl, .new upd_same (S.nM h), RepL.carry (.evo (.new h)) _ _ r⟩
  | @dic p ds vs _ h r =>
    refine ⟨S.new h, ?_, up_new h, upd_free, .evo (.new h)⟩
    simp only [Rep]
    exact ⟨p, vs, rfl, .inl ⟨upd_same, S.nM h⟩, RepK.carry (.evo (.new h)) _ _ r⟩

/-- the state between two turns of a comprehension whose list is at L -/
structure Cst (Z : Zt) (F : Fm) (M1 : Mu) (σ : L2.St) (ς1 : List Sl) (H1 : Hp) (vs : List Nat) (L : Addr) (Sr : Mu → Hp → Prop) (go : List D → List Sl → R (List D × List Sl)) (xs total : List D) (ςf : List Sl) (i : Nat) (H : Hp) (Mi : Mu) (ςi : List Sl) (accD : List D) (accV : List V) (rest : List D) : Prop where
  S : Sim Z F Mi (wipe σ vs) (wipeS ςi vs) H
  sr : Sr Mi H
  run : go (xs.drop i) ςi = .ok (rest, ςf)
  at_ : H L = some (.lst accV)
  rep : RepL Z Mi H accD accV
  tot : accD ++ rest = total
  len : accV.length ≤ i
  ml : Mi L
  l : ∀ a, Mi a → M1 a ∨ a = L
  k : ∀ a, M1 a → ¬ OwnS σ ς1 a → Mi a
  o : ∀ a, OwnS (wipe σ vs) (wipeS ςi vs) a → OwnS σ ς1 a
  e : Evo (fun a => OwnS σ ς1 a ∨ a = L) H1 H
  f : ∀ p, H p = none → H1 p = none
  c : Carry Z M1 H1 Mi H
theorem tYes_of {t : TT} : True := trivial
/-- the reading of a comprehension -/
theorem lc_go {P : Pr} {e : Ex} {t : Tg} {k : Ik} {ss : List Ex} {c : Option Tx} {Q : VK} (h : rdE Z F (evE P (.comp e t k ss c)) σ H Q) :
    tLc (rdI Z F (evI P k ss)) (gOf Z.K t) (rdT Z F (evQ P c)) (rdE Z F (evE P e)) (tgS t) σ H Q := by
  obtain ⟨M, ς, d, fr, ς', S, ee, q⟩ := h
  simp only [evE] at ee
  obtain ⟨⟨ds, ς1⟩, e1, ee⟩ := R.bind_is ee
  obtain ⟨xs, e2, ee⟩ := R.bind_is ee
  simp only [] at e2 ee
  cases hO : (tgS t).any (isOwn ς1) with
  | true => rw [hO] at ee; cases ee
  | false =>
  rw [hO] at ee
  simp only [cond_false] at ee
  obtain ⟨⟨total, ςf⟩, e3, ee⟩ := R.bind_is ee
  cases ee
  have hO' : ∀ i ∈ tgS t, isOwn ς1 i = false := fun i hi => by
    rw [List.any_eq_false] at hO
    simpa using hO i hi
  refine ⟨M, ς, xs, ς1, S, by unfold evI; rw [e1]; simp only [R.bind_ok]; rw [e2]; rfl, fun J H1 M1 Sr n1 wk sr hz => fun L hL => ?_⟩
  have S1 := n1.S
  have hLO : ¬ OwnS σ ς1 L := fun z => S1.nM hL (S1.owns L z)
  have h0L : F.H0 L = none := S1.n0 hL
  refine ⟨fun i m H => m = xs.length - i ∧ i ≤ xs.length ∧ ∃ Mi ςi accD accV rest, Cst Z F M1 σ ς1 H1 (tgS t) L Sr (lcGo (evQ P c) (evE P e) t) xs total ςf i H Mi ςi accD accV rest, ⟨xs.length, by simp, Nat.zero_le _, ins M1 L, ς1, [], [], total, ?_⟩, ?_⟩
  · have c0 : Carry Z M1 H1 (ins M1 L) (upd H1 L (.lst [])) := .trans (.ins hL) (.evo (.new hL))
    exact ⟨(S1.newM hL).wiped _, wk.stay _ _ _ _ sr c0, by simpa using e3, upd_same, by simp only [RepL], rfl, Nat.le_refl _, .inr rfl, fun a h => h, fun a h _ => .inl h, own_wipe,
      fun a o na h => by rw [upd_ne (fun z => na (.inr z))]; exact h, upd_free, c0⟩
  rintro i m H2 ⟨rfl, hi, Mi, ςi, accD, accV, rest, C⟩
  by_cases hlt : i < xs.length
  case neg =>
    left
    have hi' : xs.length ≤ i := by omega
    refine ⟨wk.stop i Mi H2 C.sr (by omega), ?_⟩
    have hr := C.run
    rw [List.drop_eq_nil_of_le hi'] at hr
    simp only [lcGo] at hr
    cases hr
    have ht := C.tot
    rw [List.append_nil] at ht
    subst ht
    have hb := C.S.back (ς1 := ς1) S1.len.symm hO' fun j d hj => let ⟨v, h1, h2⟩ := S1.shr j d hj; ⟨v, h1, Rep.carry C.c _ _ h2⟩
    have hLb : ¬ OwnS σ (backS ς1 (tgS t) ςf) L := fun z => hLO (C.o L (hb.2 L z))
    have n2 : Nxt Z F M1 σ ς1 H1 (fun a => Mi a ∧ a ≠ L) (backS ς1 (tgS t) ςf) H2 :=
      ⟨fun a h => (C.l a h.1).elim id fun z => absurd z h.2, fun a h na => ⟨C.k a h na, fun z => S1.nM hL (by rw [← z]; exact h)⟩, fun a h => C.o a (hb.2 a h), S1.owns,
        fun a o na h => C.e a o (fun z => z.elim na fun z => by rw [z, hL] at h; cases h) h, C.f, hb.1.drop hLb h0L⟩
    have cd : Carry Z Mi H2 (fun a => Mi a ∧ a ≠ L) H2 := .less fun a h => h.1
    refine q _ _ ⟨_, n1.trans n2, ?_, fun _ => ⟨L, rfl, n1.f L hL, by rw [ins_drop C.ml]; exact hb.1, by rw [ins_drop C.ml]; exact ⟨accV, C.at_, C.rep⟩⟩⟩
    simp only [Rep]
    exact ⟨L, accV, rfl, .new C.at_ (fun z => z.2 rfl), RepL.carry cd _ _ C.rep⟩
  case pos =>
    right
    refine ⟨wk.go i Mi H2 C.sr hlt, fun H' => i + 1 ≤ xs.length ∧ ∃ Mi ςi accD accV rest, Cst Z F M1 σ ς1 H1 (tgS t) L Sr (lcGo (evQ P c) (evE P e) t) xs total ςf (i + 1) H' Mi ςi accD accV rest,
      fun H' h => ⟨xs.length - (i + 1), by omega, rfl, h.1, h.2⟩, fun x H' hy => ?_⟩
    obtain ⟨dx, hdx, mk⟩ := wk.yld i Mi H2 x H' C.sr hlt hy
    have hr := C.run
    have hdrop : xs.drop i = dx :: xs.drop (i + 1) := by
      rw [List.drop_eq_getElem_cons hlt]
      have := List.getElem?_eq_some_iff.mp hdx
      rw [this.2]
    rw [hdrop] at hr
    simp only [lcGo] at hr
    obtain ⟨ςa, ea, hr⟩ := R.bind_is hr
    obtain ⟨⟨b, ςb⟩, eb, hr⟩ := R.bind_is hr
    obtain ⟨Sx, rx, kx, fx, cx⟩ := mk.item C.S
    refine bind_go Sx rx ea fun σ2 S2 o2 w2 => ⟨(w2 (tgS t) fun _ h => h).trans wipe_wipe, ?_⟩
    have hw : wipe σ2 (tgS t) = wipe σ (tgS t) := (w2 (tgS t) fun _ h => h).trans wipe_wipe
    have o2' : ∀ a, OwnS σ2 ςa a → OwnS σ ς1 a := fun a h => C.o a (o2 a h)
    have hL2 : ¬ OwnS σ2 ςa L := fun z => hLO (o2' L z)
    refine ⟨Mi, ςa, b, ςb, S2, eb, fun H3 M3 n3 => ?_⟩
    have hxl : xs.length ≤ sizeLine := hz
    cases b with
    | false =>
      refine iteF ?_
      simp only [cond_false] at hr
      refine ⟨hlt, M3, ςb, accD, accV, rest, ?_⟩
      have cc : Carry Z Mi H2 M3 H3 := .trans cx n3.carry
      have ob : ∀ a, OwnS (wipe σ (tgS t)) (wipeS ςb (tgS t)) a → OwnS σ ς1 a := fun a h => o2' a (n3.o a (own_wipe a (by rw [hw]; exact h)))
      exact ⟨by rw [← hw]; exact n3.S.wiped _, wk.stay _ _ _ _ C.sr cc, hr, n3.e L _ hL2 (kx L _ C.at_), RepL.carry cc _ _ C.rep, C.tot, Nat.le_succ_of_le C.len, n3.k L C.ml hL2, fun a h => C.l a (n3.l a h),
        fun a h na => n3.k a (C.k a h na) fun z => na (o2' a z), ob, fun a o na h => n3.e a o (fun z => na (.inl (o2' a z))) (kx a o (C.e a o na h)), fun p h => C.f p (fx p (n3.f p h)), .trans C.c cc⟩
    | true =>
      refine iteT ?_
      simp only [cond_true] at hr
      obtain ⟨⟨y, fy, ςc⟩, ec, hr⟩ := R.bind_is hr
      obtain ⟨⟨rest2, ςd⟩, ed, hr⟩ := R.bind_is hr
      cases hr
      refine ⟨M3, ςb, y, fy, ςc, n3.S, ec, fun v H4 ⟨M4, n4, r4, _⟩ => ?_⟩
      have n34 := n3.trans n4
      have cc : Carry Z Mi H2 M4 H4 := .trans cx n34.carry
      have hL4 : H4 L = some (.lst accV) := n34.e L _ hL2 (kx L _ C.at_)
      have mL : M4 L := n34.k L C.ml hL2
      have ob : ∀ a, OwnS (wipe σ (tgS t)) (wipeS ςc (tgS t)) a → OwnS σ ς1 a := fun a h => o2' a (n34.o a (own_wipe a (by rw [hw]; exact h)))
      have hLc : ¬ OwnS (wipe σ (tgS t)) (wipeS ςc (tgS t)) L := fun z => hLO (ob L z)
      have cp : Carry Z M4 H4 M4 (upd H4 L (.lst (accV ++ [v]))) := .evo fun a u na h => by rw [upd_ne (fun z => na (by rw [z]; exact mL))]; exact h
      refine ⟨accV, hL4, ?_, hlt, M4, ςc, accD ++ [y], accV ++ [v], rest2, ?_⟩
      · have := C.len; omega
      have cc' := Carry.trans cc cp
      refine ⟨Sim.poke (by rw [← hw]; exact n4.S.wiped _) mL hLc h0L, wk.stay _ _ _ _ C.sr cc', ed, upd_same, RepL.append (RepL.carry cc' _ _ C.rep) (RepL.one (Rep.carry cp _ _ r4)), ?_, ?_, mL, fun a h => C.l a (n34.l a h),
        fun a h na => n34.k a (C.k a h na) fun z => na (o2' a z), ob, fun a o na h => ?_, fun p h => C.f p (fx p (n34.f p (upd_free p h))), .trans C.c cc'⟩
      · have := C.tot
        simpa using this
      · rw [List.length_append, List.length_singleton]
        have := C.len; omega
      · rw [upd_ne (fun z => na (.inr z))]
        exact n34.e a o (fun z => na (.inl (o2' a z))) (kx a o (C.e a o na h))
end
end Iq
set_option Elab.async false
set_option linter.all false
set_option maxRecDepth 100000
set_option maxHeartbeats 4000000
namespace Iq
open PySem L2

theorem ownOf_map {N : List Str} : ∀ {is : List Nat}, inN N is = true → (ownOf N is).map (·.2) = is
  | [], _ => rfl
  | i :: is, h => by
    simp only [inN, List.all_cons, Bool.and_eq_true, decide_eq_true_eq] at h
    unfold ownOf
    rw [List.getElem?_eq_getElem h.1]
    simp only [List.map_cons]
    rw [ownOf_map (by simpa [inN] using h.2)]
section
variable {fa : Nat → Addr} {Γ : Gt} {P : Pr} {n : Nat} {F : Fm}
/-- both readings of an expression -/
def Snd (X : Cx) (fa : Nat → Addr) (F : Fm) (P : Pr) (a : Ex) (e : Expr) : Prop := PE X e (rdE (zt X fa) F (evE P a)) ∧ PE X e (rdH (zt X fa) F (hd a (evE P a)))
theorem snd_of {X : Cx} {a : Ex} {e : Expr} (h : PE X e (rdE (zt X fa) F (evE P a))) (hv : ∀ ς, hd a (evE P a) ς = (evE P a ς).bind fun r => .ok (.val r.1, r.2.2)) : Snd X fa F P a e :=
  ⟨h, pimp h fun σ H Q q => rdH_of (by rw [← funext hv]; exact q)⟩
theorem s_comp {X : Cx} (G : Gd X fa Γ P n) {e : Ex} {t : Tg} {k : Ik} {ss : List Ex} {c : Option Tx} {el tg it : Expr} {ifs : List Expr} {sco : Scope} {pos : Pos} (hi : PI X tg it (rdI (zt X fa) F (evI P k ss))) (hf : nst it = true)
    (hb : blkC X.N X.env.scope sco (ownOf X.N (tgS t)) = true) (hN : inN X.N (tgS t) = true) (hg : agTg X.N (relS sco X.env.scope) (fun x => sco.names.lookup x == some .cell) t tg = true)
    (ht : ∀ (s : Shared) (H : Hp) (C : Addr) (cl : List (Str × Addr)) (fp : List Addr), PTs (X.blk s H sco (compEnvC sco cl C X.env) fp) ifs (rdT (zt X fa) F (evQ P c)))
    (he : ∀ (s : Shared) (H : Hp) (C : Addr) (cl : List (Str × Addr)) (fp : List Addr), PE (X.blk s H sco (compEnvC sco cl C X.env) fp) el (rdE (zt X fa) F (evE P e))) :
    PE X (.ListComp el [⟨tg, it, ifs, 0⟩] sco pos) (rdE (zt X fa) F (evE P (.comp e t k ss c))) := by
  have h := pe_lc (g := gOf X.K t) (pos := pos) G.calm G.nd hi (blkOk_by hb) (fun s H C cl fp => g_tg (X := X.blk s H sco (compEnvC sco cl C X.env) fp) (sc := relS sco X.env.scope) (fnc := fun x => sco.names.lookup x == some .cell) G.calm rfl G.nd (fun x hx => hx) hg) ht he (no_fold hf)
  rw [ownOf_map hN] at h
  exact pimp h fun σ H Q q => lc_go q
theorem qimp {X : Cx} {ifs : List Expr} {t t' : TT} (h : PTs X ifs t) (i : ∀ σ H Q, t' σ H Q → t σ H Q) : PTs X ifs t' := ⟨fun pins s σ H Q I q => h.run pins s σ H Q I (i σ H Q q)⟩
mutual
theorem sE : ∀ (a : Ex) {X : Cx} (G : Gd X fa Γ P n) {e : Expr}, agE Γ X.N X.env.scope a e = true → Snd X fa F P a e
  | .var i, X, G, e, h => by
    cases e <;> simp only [agE] at h <;> try (cases h; done)
    exact ⟨pimp (s_var rfl h) fun σ H Q q => rd_varE q, pimp (s_var rfl h) fun σ H Q q => rd_varH q⟩
  | .con d, X, G, e, h => by
    simp only [agE] at h
    exact snd_of (s_con h) fun ς => rfl
  | .glo j, X, G, e, h => by
    cases e <;> simp only [agE] at h <;> try (cases h; done)
    simp only [Bool.and_eq_true, decide_eq_true_eq] at h
    exact snd_of (s_glo G rfl h.1 h.2) fun ς => rfl
  | .fnv k, X, G, e, h => by
    cases e <;> simp only [agE] at h <;> try (cases h; done)
    simp only [Bool.and_eq_true, decide_eq_true_eq] at h
    exact snd_of (s_fnv G rfl h.1 h.2) fun ς => rfl
  | .tup as, X, G, e, h => by
    cases e <;> simp only [agE] at h <;> try (cases h; done)
    simp only [Bool.and_eq_true, decide_eq_true_eq] at h
    have ps := sL as G h.1
    exact snd_of (s_tup ps.rows (by rw [ps.len]; exact h.2)) fun ς => rfl
  | .lst as, X, G, e, h => by
    cases e <;> simp only [agE] at h <;> try (cases h; done)
    simp only [Bool.and_eq_true, decide_eq_true_eq] at h
    have ps := sL as G h.1
    exact snd_of (s_lst ps.rows (by rw [ps.len]; exact h.2)) fun ς => rfl
  | .dct ks as, X, G, e, h => by
    cases e <;> simp only [agE] at h <;> try (cases h; done)
    simp only [Bool.and_eq_true, decide_eq_true_eq] at h
    obtain ⟨⟨⟨⟨⟨h1, h2⟩, h3⟩, h4⟩, h5⟩, h6⟩ := h
    have ps := sL as G h2
    exact snd_of (s_dct h1 h3 h4 h5 h6 (h6.trans ps.len) ps.pes) fun ς => rfl
  | .neg a, X, G, e, h => by
    cases e <;> try (simp only [agE] at h; cases h; done)
    case UnaryOp op x p =>
      cases op <;> simp only [agE] at h <;> try (cases h; done)
      exact snd_of (s_neg (sE a G h).2) fun ς => rfl
  | .nt a, X, G, e, h => by
    cases e <;> try (simp only [agE] at h; cases h; done)
    case UnaryOp op x p =>
      cases op <;> simp only [agE] at h <;> try (cases h; done)
      exact snd_of (s_nt (sE a G h).2) fun ς => rfl
  | .and a b, X, G, e, h => by
    cases e <;> try (simp only [agE] at h; cases h; done)
    case BoolOp op es p =>
      cases op with
      | Or => simp only [agE] at h; cases h
      | And =>
        match es, h with
        | [], h => simp only [agE] at h; cases h
        | [_], h => simp only [agE] at h; cases h
        | [x, y], h =>
          simp only [agE, Bool.and_eq_true] at h
          exact snd_of (s_and (sE a G h.1).1 (pe_one (sE b G h.2).1)) fun ς => rfl
        | x :: y :: z :: r, h =>
          simp only [agE, Bool.and_eq_true] at h
          exact snd_of (s_and (sE a G h.1).1 (sE b G h.2).1) fun ς => rfl
  | .or a b, X, G, e, h => by
    cases e <;> try (simp only [agE] at h; cases h; done)
    case BoolOp op es p =>
      cases op with
      | And => simp only [agE] at h; cases h
      | Or =>
        match es, h with
        | [], h => simp only [agE] at h; cases h
        | [_], h => simp only [agE] at h; cases h
        | [x, y], h =>
          simp only [agE, Bool.and_eq_true] at h
          exact snd_of (s_or (sE a G h.1).1 (pe_one (sE b G h.2).1)) fun ς => rfl
        | x :: y :: z :: r, h =>
          simp only [agE, Bool.and_eq_true] at h
          exact snd_of (s_or (sE a G h.1).1 (sE b G h.2).1) fun ς => rfl
  | .ite c a b, X, G, e, h => by
    cases e <;> simp only [agE] at h <;> try (cases h; done)
    simp only [Bool.and_eq_true] at h
    exact snd_of (s_ite (sT c G h.1.1).1 (sE a G h.1.2).1 (sE b G h.2).1) fun ς => rfl
  | .bin op a b, X, G, e, h => by
    cases e <;> simp only [agE] at h <;> try (cases h; done)
    simp only [Bool.and_eq_true, decide_eq_true_eq] at h
    obtain ⟨⟨rfl, h1⟩, h2⟩ := h
    exact snd_of (s_bin (sE a G h1).2 (sE b G h2).2) fun ς => rfl
  | .cmp op a b, X, G, e, h => by
    cases e <;> try (simp only [agE] at h; cases h; done)
    case Compare x ops ys p =>
      match ops, ys, h with
      | [o], [y], h =>
        simp only [agE, Bool.and_eq_true, decide_eq_true_eq] at h
        obtain ⟨⟨⟨rfl, h1⟩, h2⟩, h3⟩ := h
        exact snd_of (s_cmp G (sE a G h1).2 (sE b G h2).2 h3) fun ς => rfl
      | [], _, h => simp only [agE] at h; cases h
      | [_], [], h => simp only [agE] at h; cases h
      | [_], _ :: _ :: _, h => simp only [agE] at h; cases h
      | _ :: _ :: _, _, h => simp only [agE] at h; cases h
  | .chn o1 o2 a b c, X, G, e, h => by
    cases e <;> try (simp only [agE] at h; cases h; done)
    case Compare x ops ys p =>
      match ops, ys, h with
      | [p1, p2], [y, z], h =>
        simp only [agE, Bool.and_eq_true, decide_eq_true_eq] at h
        obtain ⟨⟨⟨⟨⟨rfl, rfl⟩, h1⟩, h2⟩, h3⟩, h4⟩ := h
        exact snd_of (s_chn G (sE a G h1).2 (sE b G h2).2 (sE c G h3).2 h4) fun ς => rfl
      | [], _, h => simp only [agE] at h; cases h
      | [_], _, h => simp only [agE] at h; cases h
      | [_, _], [], h => simp only [agE] at h; cases h
      | [_, _], [_], h => simp only [agE] at h; cases h
      | [_, _], _ :: _ :: _ :: _, h => simp only [agE] at h; cases h
      | _ :: _ :: _ :: _, _, h => simp only [agE] at h; cases h
  | .idx a b, X, G, e, h => by
    cases e <;> simp only [agE] at h <;> try (cases h; done)
    simp only [Bool.and_eq_true] at h
    exact snd_of (s_idx G (sE a G h.1.1).2 (sE b G h.1.2).2 h.2) fun ς => rfl
  | .sli a lo hi, X, G, e, h => by
    cases e <;> try (simp only [agE] at h; cases h; done)
    case Subscript x sl p =>
      cases sl <;> try (simp only [agE] at h; cases h; done)
      case Slice l u st p2 =>
        cases st with
        | some _ => simp only [agE] at h; cases h
        | none =>
          simp only [agE, Bool.and_eq_true] at h
          exact snd_of (s_sli (sE a G h.1.1).2 (sO lo G h.1.2) (sO hi G h.2)) fun ς => rfl
  | .call k as, X, G, e, h => by
    cases e <;> try (simp only [agE] at h; cases h; done)
    case Call f es ks p =>
      cases f <;> try (simp only [agE] at h; cases h; done)
      case Name f p2 =>
        cases ks with
        | cons _ _ => simp only [agE] at h; cases h
        | nil =>
          simp only [agE, Bool.and_eq_true, decide_eq_true_eq] at h
          exact snd_of (s_call G rfl h.1.1 h.1.2 (sL as G h.2)) fun ς => rfl
  | .calv i as, X, G, e, h => by
    cases e <;> try (simp only [agE] at h; cases h; done)
    case Call f es ks p =>
      cases f <;> try (simp only [agE] at h; cases h; done)
      case Name f p2 =>
        cases ks with
        | cons _ _ => simp only [agE] at h; cases h
        | nil =>
          simp only [agE, Bool.and_eq_true, decide_eq_true_eq] at h
          exact snd_of (s_calv G rfl h.1.1 h.2 (sL as G h.1.2)) fun ς => rfl
  | .bi f a, X, G, e, h => by
    cases e <;> try (simp only [agE] at h; cases h; done)
    case Call f' es ks p =>
      cases f' <;> try (simp only [agE] at h; cases h; done)
      case Name x p2 =>
        match es, ks, h with
        | [y], [], h =>
          simp only [agE, Bool.and_eq_true, decide_eq_true_eq] at h
          exact snd_of (s_bi G rfl h.1.1.1 h.1.1.2 (sE a G h.1.2).2 h.2) fun ς => rfl
        | [], _, h => simp only [agE] at h; cases h
        | [_], _ :: _, h => simp only [agE] at h; cases h
        | _ :: _ :: _, _, h => simp only [agE] at h; cases h
  | .isi a ts, X, G, e, h => by
    cases e <;> try (simp only [agE] at h; cases h; done)
    case Call f' es ks p =>
      cases f' <;> try (simp only [agE] at h; cases h; done)
      case Name x p2 =>
        match es, ks, h with
        | [y, z], [], h =>
          simp only [agE, Bool.and_eq_true, decide_eq_true_eq] at h
          obtain ⟨⟨⟨⟨⟨h1, h2⟩, h3⟩, h4⟩, h5⟩, h6⟩ := h
          have h0 : ts ≠ [] := fun q => by rw [q] at h5; cases h5
          simp only [Bool.or_eq_true] at h6
          rcases h6 with q | q
          · match ts, q with
            | [t], q => exact snd_of (s_isi1 G rfl h1 h2 (sE a G h3).2 h4 q) fun ς => rfl
            | [], q => cases q
            | _ :: _ :: _, q => cases q
          · cases z <;> try (cases q; done)
            simp only [agTup, Bool.and_eq_true, decide_eq_true_eq] at q
            exact snd_of (s_isiN G rfl h1 h2 (sE a G h3).2 h4 q.1 h0 q.2) fun ς => rfl
        | [], _, h => simp only [agE] at h; cases h
        | [_], _, h => simp only [agE] at h; cases h
        | [_, _], _ :: _, h => simp only [agE] at h; cases h
        | _ :: _ :: _ :: _, _, h => simp only [agE] at h; cases h
  | .join s b, X, G, e, h => by
    unfold agE at h
    split at h <;> try (first | (rename_i q _; cases q; done) | (rename_i q; cases q; done) | (cases h; done))
    all_goals (rename_i q; cases q)
    simp only [Bool.and_eq_true, decide_eq_true_eq] at h
    obtain ⟨⟨⟨⟨rfl, rfl⟩, h1⟩, h2⟩, h3⟩ := h
    exact snd_of (s_join (sE b G h1).2 h2 h3) fun ς => rfl
  | .comp e t k ss c, X, G, ex, h => by
    cases ex <;> try (simp only [agE] at h; cases h; done)
    case ListComp el gs sco p =>
      match gs, h with
      | [⟨tg, it, ifs, asy⟩], h =>
        simp only [agE, Bool.and_eq_true, decide_eq_true_eq] at h
        obtain ⟨⟨⟨⟨⟨⟨⟨rfl, h1⟩, h2⟩, h3⟩, h4⟩, h5⟩, h6⟩, h7⟩ := h
        obtain ⟨hi, hn⟩ := sI k ss G h1
        exact snd_of (s_comp G hi hn h3 h4 h2 (fun s H C cl fp => sQ c (G.blk s H sco (compEnvC sco cl C X.env) fp) h6) (fun s H C cl fp => (sE e (G.blk s H sco (compEnvC sco cl C X.env) fp) h7).1)) fun ς => rfl
      | [], h => simp only [agE] at h; cases h
      | _ :: _ :: _, h => simp only [agE] at h; cases h
theorem sL : ∀ (as : List Ex) {X : Cx} (G : Gd X fa Γ P n) {es : List Expr}, agL Γ X.N X.env.scope as es = true → SEs X (zt X fa) F P as es
  | [], X, G, [], h => .nil
  | a :: as, X, G, e :: es, h => by
    simp only [agL, Bool.and_eq_true] at h
    exact .cons (sE a G h.1.1).1 (sE a G h.1.1).2 h.1.2 (sL as G h.2)
  | [], X, G, _ :: _, h => by simp only [agL] at h; cases h
  | _ :: _, X, G, [], h => by simp only [agL] at h; cases h
theorem sO : ∀ (a : Option Ex) {X : Cx} (G : Gd X fa Γ P n) {e : Option Expr}, agO Γ X.N X.env.scope a e = true → PO X e (rdO (zt X fa) F (evO P a))
  | none, X, G, none, h => o_none
  | some a, X, G, some e, h => by
    simp only [agO] at h
    exact o_some (sE a G h).2
  | none, X, G, some _, h => by simp only [agO] at h; cases h
  | some _, X, G, none, h => by simp only [agO] at h; cases h
theorem sQ : ∀ (c : Option Tx) {X : Cx} (G : Gd X fa Γ P n) {es : List Expr}, agQ Γ X.N X.env.scope c es = true → PTs X es (rdT (zt X fa) F (evQ P c))
  | none, X, G, [], h => qimp pts_nil fun σ H Q ⟨M, ς, b, ς', S, e, k⟩ => by
    simp only [evQ] at e; cases e
    exact k H M (.refl S)
  | some c, X, G, [e], h => by
    simp only [agQ] at h
    exact qimp (pts_one (sT c G h).1) fun σ H Q ⟨M, ς, b, ς', S, e, k⟩ => ⟨M, ς, b, ς', S, by simpa only [evQ] using e, k⟩
  | none, X, G, _ :: _, h => by simp only [agQ] at h; cases h
  | some _, X, G, [], h => by simp only [agQ] at h; cases h
  | some _, X, G, _ :: _ :: _, h => by simp only [agQ] at h; cases h
theorem sT : ∀ (c : Tx) {X : Cx} (G : Gd X fa Γ P n) {e : Expr}, agT Γ X.N X.env.scope c e = true → PT X e (rdT (zt X fa) F (evT P c)) ∧ ∀ op es p, e = .BoolOp op es p → PW X e (rdT (zt X fa) F (evT P c))
  | .nt a, X, G, e, h => by
    cases e <;> try (simp only [agT] at h; cases h; done)
    case UnaryOp op x p =>
      cases op <;> simp only [agT] at h <;> try (cases h; done)
      exact ⟨t_nt (sT a G h).1, fun _ _ _ q => by cases q⟩
  | .and a b, X, G, e, h => by
    cases e <;> try (simp only [agT] at h; cases h; done)
    case BoolOp op es p =>
      cases op with
      | Or => simp only [agT] at h; cases h
      | And =>
        match es, h with
        | [], h => simp only [agT] at h; cases h
        | [_], h => simp only [agT] at h; cases h
        | [x, y], h =>
          simp only [agT, Bool.and_eq_true] at h
          have w : PW X (.BoolOp .And [x, y] p) (rdT (zt X fa) F (evT P (.and a b))) := wimp (pw_and (sT a G h.1).1 (pw_and1 (sT b G h.2).1)) fun σ H Q q => go_and q
          exact ⟨w.pt, fun _ _ _ _ => w⟩
        | x :: y :: z :: r, h =>
          simp only [agT, Bool.and_eq_true] at h
          have w : PW X (.BoolOp .And (x :: y :: z :: r) p) (rdT (zt X fa) F (evT P (.and a b))) := wimp (pw_and (sT a G h.1).1 ((sT b G h.2).2 _ _ _ rfl)) fun σ H Q q => go_and q
          exact ⟨w.pt, fun _ _ _ _ => w⟩
  | .or a b, X, G, e, h => by
    cases e <;> try (simp only [agT] at h; cases h; done)
    case BoolOp op es p =>
      cases op with
      | And => simp only [agT] at h; cases h
      | Or =>
        match es, h with
        | [], h => simp only [agT] at h; cases h
        | [_], h => simp only [agT] at h; cases h
        | [x, y], h =>
          simp only [agT, Bool.and_eq_true] at h
          have w : PW X (.BoolOp .Or [x, y] p) (rdT (zt X fa) F (evT P (.or a b))) := wimp (pw_or (sT a G h.1).1 (pw_or1 (sT b G h.2).1)) fun σ H Q q => go_or q
          exact ⟨w.pt, fun _ _ _ _ => w⟩
        | x :: y :: z :: r, h =>
          simp only [agT, Bool.and_eq_true] at h
          have w : PW X (.BoolOp .Or (x :: y :: z :: r) p) (rdT (zt X fa) F (evT P (.or a b))) := wimp (pw_or (sT a G h.1).1 ((sT b G h.2).2 _ _ _ rfl)) fun σ H Q q => go_or q
          exact ⟨w.pt, fun _ _ _ _ => w⟩
  | .at a, X, G, e, h => by
    have gen : ∀ (a : Ex), Snd X fa F P a e → plainT e = true → PT X e (rdT (zt X fa) F (evT P (.at a))) ∧ ∀ op es p, e = .BoolOp op es p → PW X e (rdT (zt X fa) F (evT P (.at a))) := fun a h1 h2 =>
      ⟨t_at h1.2 h2, fun _ _ _ q => by rw [q] at h2; cases h2⟩
    cases a with
    | cmp op a b =>
      cases e <;> try (simp only [agT] at h; cases h; done)
      case Compare x ops ys p =>
        match ops, ys, h with
        | [o], [y], h =>
          simp only [agT, Bool.and_eq_true, decide_eq_true_eq] at h
          obtain ⟨⟨⟨rfl, h1⟩, h2⟩, h3⟩ := h
          exact ⟨t_cmp G (sE a G h1).2 (sE b G h2).2 h3, fun _ _ _ q => by cases q⟩
        | [], _, h => simp only [agT] at h; cases h
        | [_], [], h => simp only [agT] at h; cases h
        | [_], _ :: _ :: _, h => simp only [agT] at h; cases h
        | _ :: _ :: _, _, h => simp only [agT] at h; cases h
    | chn o1 o2 a b c =>
      cases e <;> try (simp only [agT] at h; cases h; done)
      case Compare x ops ys p =>
        match ops, ys, h with
        | [p1, p2], [y, z], h =>
          simp only [agT, Bool.and_eq_true, decide_eq_true_eq] at h
          obtain ⟨⟨⟨⟨⟨rfl, rfl⟩, h1⟩, h2⟩, h3⟩, h4⟩ := h
          exact ⟨t_chn G (sE a G h1).2 (sE b G h2).2 (sE c G h3).2 h4, fun _ _ _ q => by cases q⟩
        | [], _, h => simp only [agT] at h; cases h
        | [_], _, h => simp only [agT] at h; cases h
        | [_, _], [], h => simp only [agT] at h; cases h
        | [_, _], [_], h => simp only [agT] at h; cases h
        | [_, _], _ :: _ :: _ :: _, h => simp only [agT] at h; cases h
        | _ :: _ :: _ :: _, _, h => simp only [agT] at h; cases h
    | _ =>
      simp only [agT, Bool.and_eq_true] at h
      exact gen _ (sE _ G h.1) h.2
theorem sI : ∀ (k : Ik) (ss : List Ex) {X : Cx} (G : Gd X fa Γ P n) {tg it : Expr}, agI Γ X.N X.env.scope k ss tg it = true → PI X tg it (rdI (zt X fa) F (evI P k ss)) ∧ nst it = true
  | .seq, [a], X, G, tg, it, h => by
    simp only [agI, Bool.and_eq_true] at h
    exact ⟨i_seq (sE a G h.1).1, h.2⟩
  | .rng, [a], X, G, tg, it, h => by
    unfold agI at h
    split at h <;> try (first | (rename_i q _; cases q; done) | (rename_i q; cases q; done) | (cases h; done))
    all_goals (rename_i q; cases q)
    simp only [Bool.and_eq_true, decide_eq_true_eq] at h
    exact ⟨i_rng G rfl h.1.1.1 h.1.1.2 (.cons (sE a G h.1.2).1 (sE a G h.1.2).2 h.2 .nil), rfl⟩
  | .rng2, [a, b], X, G, tg, it, h => by
    unfold agI at h
    split at h <;> try (first | (rename_i q _; cases q; done) | (rename_i q; cases q; done) | (cases h; done))
    all_goals (rename_i q; cases q)
    simp only [Bool.and_eq_true, decide_eq_true_eq] at h
    obtain ⟨⟨⟨⟨⟨h1, h2⟩, h3⟩, h4⟩, h5⟩, h6⟩ := h
    exact ⟨i_rng2 G rfl h1 h2 (.cons (sE a G h3).1 (sE a G h3).2 h4 (.cons (sE b G h5).1 (sE b G h5).2 h6 .nil)), rfl⟩
  | .zip, [a, b], X, G, tg, it, h => by
    unfold agI at h
    split at h <;> try (first | (rename_i q _; cases q; done) | (rename_i q; cases q; done) | (cases h; done))
    all_goals (rename_i q; cases q)
    simp only [Bool.and_eq_true, decide_eq_true_eq] at h
    obtain ⟨⟨⟨⟨⟨⟨h0, h1⟩, h2⟩, h3⟩, h4⟩, h5⟩, h6⟩ := h
    exact ⟨i_zip G rfl h1 h2 h0 (.cons (sE a G h3).1 (sE a G h3).2 h4 (.cons (sE b G h5).1 (sE b G h5).2 h6 .nil)), rfl⟩
  | .enu, [a], X, G, tg, it, h => by
    unfold agI at h
    split at h <;> try (first | (rename_i q _; cases q; done) | (rename_i q; cases q; done) | (cases h; done))
    all_goals (rename_i q; cases q)
    simp only [Bool.and_eq_true, decide_eq_true_eq] at h
    obtain ⟨⟨⟨⟨h0, h1⟩, h2⟩, h3⟩, h4⟩ := h
    exact ⟨i_enu G rfl h1 h2 h0 (.cons (sE a G h3).1 (sE a G h3).2 h4 .nil), rfl⟩
  | .seq, [], X, G, tg, it, h => by simp only [agI] at h; cases h
  | .seq, _ :: _ :: _, X, G, tg, it, h => by simp only [agI] at h; cases h
  | .rng, [], X, G, tg, it, h => by simp only [agI] at h; cases h
  | .rng, _ :: _ :: _, X, G, tg, it, h => by simp only [agI] at h; cases h
  | .enu, [], X, G, tg, it, h => by simp only [agI] at h; cases h
  | .enu, _ :: _ :: _, X, G, tg, it, h => by simp only [agI] at h; cases h
  | .rng2, [], X, G, tg, it, h => by simp only [agI] at h; cases h
  | .rng2, [_], X, G, tg, it, h => by simp only [agI] at h; cases h
  | .rng2, _ :: _ :: _ :: _, X, G, tg, it, h => by simp only [agI] at h; cases h
  | .zip, [], X, G, tg, it, h => by simp only [agI] at h; cases h
  | .zip, [_], X, G, tg, it, h => by simp only [agI] at h; cases h
  | .zip, _ :: _ :: _ :: _, X, G, tg, it, h => by simp only [agI] at h; cases h
end
end
end Iq
set_option Elab.async false
set_option linter.all false
set_option maxRecDepth 100000
set_option maxHeartbeats 4000000
namespace Iq
open PySem L2

section
variable {X : Cx} {st : Stmt} {sts : List Stmt}
theorem simp_ {t t' : TS} (h : PS X st t) (i : ∀ D σ H, t' D σ H → t D σ H) : PS X st t' := ⟨fun pins s σ H D I q => h.run pins s σ H D I (i D σ H q)⟩
theorem bimp {t t' : TS} (h : PSs X sts t) (i : ∀ D σ H, t' D σ H → t D σ H) : PSs X sts t' := ⟨fun pins s σ H D I q => h.run pins s σ H D I (i D σ H q)⟩
theorem sor {t u : TS} (h : PS X st t) (k : PS X st u) : PS X st (fun D σ H => t D σ H ∨ u D σ H) := ⟨fun pins s σ H D I q => q.elim (h.run pins s σ H D I) (k.run pins s σ H D I)⟩
end

/-! ### what a statement leaves -/
def RetV (Z : Zt) (F : Fm) (M : Mu) (H : Hp) (d : D) (v : V) : Bool → Prop
  | false => Rep Z M H d v
  | true => ∃ p, v = .ref p ∧ F.H0 p = none ∧ M p ∧ Own Z M H p d
def EndS (Z : Zt) (F : Fm) (M : Mu) (H : Hp) (ς' : List Sl) (E : Ends) : Fl → Prop
  | .nx => ∀ M' σ' H', Sim Z F M' σ' ς' H' → Carry Z M H M' H' → E.nx σ' H'
  | .bk => ∀ M' σ' H', Sim Z F M' σ' ς' H' → Carry Z M H M' H' → E.bk σ' H'
  | .ct => ∀ M' σ' H', Sim Z F M' σ' ς' H' → Carry Z M H M' H' → E.ct σ' H'
  | .rt d fr => ∀ v M' σ' H', Sim Z F M' σ' ς' H' → RetV Z F M' H' d v fr → E.rt v H'
def rdS (Z : Zt) (F : Fm) (f : List Sl → R (Fl × List Sl)) : TS := fun E σ H =>
  ∃ (M : Mu) (ς : List Sl) (fl : Fl) (ς' : List Sl), Sim Z F M σ ς H ∧ f ς = .ok (fl, ς') ∧ EndS Z F M H ς' E fl

section
variable {Z : Zt} {F : Fm} {M M' : Mu} {σ : L2.St} {ς ς' : List Sl} {H H' : Hp} {d : D} {v : V}
/-- a new object is given to a slot -/
theorem Sim.setOwn {i p : Nat} (S : Sim Z F (ins M p) σ ς H) (hm : ¬ M p) (h0 : F.H0 p = none) (o : Own Z (ins M p) H p d) (hO : ¬ OwnS σ ς p) : Sim Z F (ins M p) (σ.set i (some (.ref p))) (ς.set i (.own false d)) H := by
  have ne : ∀ (j : Nat) b e, (ς.set i (.own false d))[j]? = some (.own b e) → i ≠ j → ς[j]? = some (.own b e) := fun j b e q ij => by
    rw [List.getElem?_set_ne ij] at q; exact q
  have at_ : ∀ b e, (ς.set i (.own false d))[i]? = some (.own b e) → i < ς.length ∧ b = false ∧ e = d := fun b e q => by
    by_cases hi : i < ς.length
    · rw [List.getElem?_set_self hi] at q; cases q; exact ⟨hi, rfl, rfl⟩
    · rw [List.getElem?_eq_none (by simp; omega)] at q; cases q
  refine ⟨by simp [S.len], fun j e q => ?_, fun j b e q => ?_, fun j k b e b' e' x jk q1 q2 q3 => ?_, S.old, S.dom, S.sup, S.wm, S.dm0⟩
  · by_cases ij : i = j
    · subst ij
      by_cases hi : i < ς.length
      · rw [List.getElem?_set_self hi] at q; cases q
      · rw [List.getElem?_eq_none (by simp; omega)] at q; cases q
    · rw [List.getElem?_set_ne ij] at q
      rw [List.getElem?_set_ne ij]
      exact S.shr j e q
  · by_cases ij : i = j
    · subst ij
      obtain ⟨hi, rfl, rfl⟩ := at_ b e q
      exact ⟨p, by rw [List.getElem?_set_self (by rw [S.len]; exact hi)], .inr rfl, h0, o⟩
    · have q' := ne j b e q ij
      obtain ⟨a, q1, q2, q3, q4⟩ := S.own j b e q'
      refine ⟨a, by rw [List.getElem?_set_ne ij]; exact q1, q2, ?_, q4⟩
      cases b with
      | true => exact ⟨q3.1, by rw [List.getElem?_set_ne ij]; exact q3.2⟩
      | false => exact q3
  · by_cases ij : i = j
    · subst ij
      obtain ⟨hi, _, _⟩ := at_ b e q1
      rw [List.getElem?_set_self (by rw [S.len]; exact hi)] at q3
      cases q3
      rw [List.getElem?_set_ne jk]
      exact fun z => hO ⟨k, b', e', ne k b' e' q2 jk, z⟩
    · by_cases ik : i = k
      · subst ik
        obtain ⟨hi, _, _⟩ := at_ b' e' q2
        rw [List.getElem?_set_self (by rw [S.len]; exact hi)]
        rw [List.getElem?_set_ne ij] at q3
        intro z
        cases z
        exact hO ⟨j, b, e, ne j b e q1 ij, q3⟩
      · rw [List.getElem?_set_ne ij] at q3
        rw [List.getElem?_set_ne ik]
        exact S.sep j k _ _ _ _ x jk (ne j b e q1 ij) (ne k b' e' q2 ik) q3
/-- what a value is stored as -/
theorem Aft.store {fr : Bool} {i : Nat} (S : Sim Z F M σ ς H) (a : Aft Z F M σ ς ς' H H' d fr v) : ∃ M2, Sim Z F M2 (σ.set i (some v)) (ς'.set i (bif fr then .own false d else .shr d)) H' ∧ Carry Z M H M2 H' := by
  obtain ⟨M', n, r, q⟩ := a
  cases fr with
  | false => exact ⟨M', n.S.setShr r, n.carry⟩
  | true =>
    obtain ⟨p, rfl, hp, S2, o⟩ := q rfl
    have nm : ¬ M' p := fun z => S.nM hp (n.l p z)
    have nO : ¬ OwnS σ ς' p := fun z => nm (n.S.owns p z)
    refine ⟨ins M' p, S2.setOwn nm (S.n0 hp) o nO, ?_⟩
    exact .trans (.trans (.ins hp) (.evo (n.e.less fun a h => .inl (S.owns a h)))) (.less fun a h => h.elim (fun h => .inl (n.l a h)) .inr)
/-- an owned object changes -/
theorem Sim.turn {i : Nat} {a : Addr} {b : Bool} {d d' : D} {o : HO} (S : Sim Z F M σ ς H) (h : ς[i]? = some (.own b d)) (ha : σ[i]? = some (some (.ref a))) (ho : Own Z M (upd H a o) a d') : Sim Z F M σ (ς.set i (.own b d')) (upd H a o) ∧ Carry Z M H M (upd H a o) := by
  have hi : i < ς.length := (List.getElem?_eq_some_iff.mp h).1
  obtain ⟨a', h1, h2, h3, h4⟩ := S.own i b d h
  rw [ha] at h1; cases h1
  have cr : Carry Z M H M (upd H a o) := .evo fun x u na q => by rw [upd_ne (fun z => na (by rw [z]; exact h2))]; exact q
  have back : ∀ (j : Nat) c e, (ς.set i (.own b d'))[j]? = some (.own c e) → ∃ e', ς[j]? = some (.own c e') ∧ (i ≠ j → e' = e) := fun j c e q => by
    by_cases ij : i = j
    · subst ij
      rw [List.getElem?_set_self hi] at q; cases q
      exact ⟨d, h, fun z => absurd rfl z⟩
    · rw [List.getElem?_set_ne ij] at q; exact ⟨e, q, fun _ => rfl⟩
  refine ⟨⟨by simp [S.len], fun j e q => ?_, fun j c e q => ?_, fun j k c e c' e' x jk q1 q2 q3 => ?_, fun x u q w => ?_, fun x q => ?_, S.sup, S.wm, S.dm0⟩, cr⟩
  · by_cases ij : i = j
    · subst ij
      rw [List.getElem?_set_self hi] at q; cases q
    · rw [List.getElem?_set_ne ij] at q
      obtain ⟨w, q1, q2⟩ := S.shr j e q
      exact ⟨w, q1, Rep.carry cr _ _ q2⟩
  · by_cases ij : i = j
    · subst ij
      rw [List.getElem?_set_self hi] at q; cases q
      exact ⟨a, ha, h2, h3, ho⟩
    · rw [List.getElem?_set_ne ij] at q
      obtain ⟨x, q1, q2, q3, q4⟩ := S.own j c e q
      refine ⟨x, q1, q2, q3, q4.carry cr (upd_ne fun z => ?_)⟩
      subst z
      exact S.sep i j _ _ _ _ x ij h q ha q1
  · obtain ⟨e1, r1, _⟩ := back j c e q1
    obtain ⟨e2, r2, _⟩ := back k c' e' q2
    exact S.sep j k _ _ _ _ x jk r1 r2 q3
  · rw [upd_ne fun z => ?_]
    · exact S.old x u q w
    · subst z
      cases b with
      | true => exact w h3.1
      | false => have h3 : F.H0 x = none := h3; rw [h3] at q; cases q
  · by_cases z : x = a
    · rw [z]; exact ⟨_, upd_same⟩
    · rw [upd_ne z]; exact S.dom x q
end

section
variable {X : Cx} {fa : Nat → Addr} {Γ : Gt} {P : Pr} {n : Nat} {F : Fm} {e x y z : Expr} {pos : Pos}
/-! ### plain statements -/
theorem noComp {env : Env} {t : Option Expr} {l : Nat} (h : (match e with | .ListComp _ _ _ _ => false | .SetComp _ _ _ _ => false | .DictComp _ _ _ _ _ => false | _ => true) = true) : swapsWith e t l env = pure false := by
  cases e <;> first | rfl | cases h
def isComp : Expr → Bool
  | .ListComp _ _ _ _ => true
  | .SetComp _ _ _ _ => true
  | .DictComp _ _ _ _ _ => true
  | _ => false
theorem nc {env : Env} {t : Option Expr} {l : Nat} (h : isComp e = false) : swapsWith e t l env = pure false := by
  cases e <;> first | rfl | cases h
theorem x_exp {a : Ex} (ha : PE X e (rdE (zt X fa) F (evE P a))) (hc : isComp e = false) : PS X (.Expr e pos) (rdS (zt X fa) F (evS P (.exp a))) :=
  simp_ (ps_expr ha (nc hc)) fun D σ H ⟨M, ς, fl, ς', S, ee, k⟩ => by
    simp only [evS] at ee
    obtain ⟨⟨d, fr, ς1⟩, e1, ee⟩ := R.bind_is ee
    cases ee
    exact ⟨M, ς, d, fr, ς1, S, e1, fun v H1 ⟨M1, n1, _⟩ => k M1 σ H1 n1.S n1.carry⟩
theorem asg_go {i : Nat} {a : Ex} {D : Ends} {σ : L2.St} {H : Hp} (h : rdS (zt X fa) F (evS P (.asg i a)) D σ H) : tAsg (rdE (zt X fa) F (evE P a)) (gName i) D σ H := by
  obtain ⟨M, ς, fl, ς', S, ee, k⟩ := h
  simp only [evS] at ee
  obtain ⟨⟨d, fr, ς1⟩, e1, ee⟩ := R.bind_is ee
  cases ee
  exact ⟨M, ς, d, fr, ς1, S, e1, fun v H1 af => let ⟨M2, S2, c2⟩ := af.store (i := i) S; k M2 _ H1 S2 c2⟩
theorem x_asg {i : Nat} {a : Ex} {x : Str} {p : Pos} (ha : PE X e (rdE (zt X fa) F (evE P a))) (hg : PG X (.Name x p) (gName i)) (hs : swapsWith e (some (.Name x p)) pos.line X.env = pure false) : PS X (.Assign [.Name x p] e pos) (rdS (zt X fa) F (evS P (.asg i a))) :=
  simp_ (ps_asg ha hg hs (by cases e <;> rfl) rfl) fun D σ H h => asg_go h
theorem x_ret {a : Ex} (ha : Snd X fa F P a e) : PS X (.Return (some e) pos) (rdS (zt X fa) F (evS P (.ret a))) := by
  by_cases hv : ∃ i, a = .var i
  · obtain ⟨i, rfl⟩ := hv
    -- the name's slot
    have hp : PE X e (fun σ H Q => rdH (zt X fa) F (hd (.var i) (evE P (.var i))) σ H Q) := ha.2
    refine simp_ (ps_ret hp) fun D σ H ⟨M, ς, fl, ς', S, ee, k⟩ => ?_
    simp only [evS] at ee
    split at ee
    · rename_i d hd
      cases ee
      refine ⟨M, ς, .val d, ς, S, by simp only [Iq.hd, hd], fun v H1 M1 n1 r1 => k v M1 σ H1 n1.S r1⟩
    · rename_i d hd
      cases ee
      refine ⟨M, ς, .sl i, ς, S, by simp only [Iq.hd, hd], fun v H1 M1 n1 r1 => ?_⟩
      obtain ⟨a, h1, h2, h3, h4⟩ := n1.S.own i _ _ hd
      have r1 : σ[i]? = some (some v) := r1
      rw [h1] at r1; cases r1
      exact k _ M1 σ H1 n1.S ⟨a, rfl, h3, h2, h4⟩
    · cases ee
  · refine simp_ (ps_ret ha.1) fun D σ H ⟨M, ς, fl, ς', S, ee, k⟩ => ?_
    have e0 : evS P (.ret a) ς = (evE P a ς).bind fun r => .ok (.rt r.1 r.2.1, r.2.2) := by
      cases a <;> first | (simp only [evS]; done) | exact absurd ⟨_, rfl⟩ hv
    rw [e0] at ee
    obtain ⟨⟨d, fr, ς1⟩, e1, ee⟩ := R.bind_is ee
    cases ee
    refine ⟨M, ς, d, fr, ς1, S, e1, fun v H1 ⟨M1, n1, r1, q1⟩ => ?_⟩
    cases fr with
    | false => exact k v M1 σ H1 n1.S r1
    | true =>
      obtain ⟨p, rfl, hp, S2, o⟩ := q1 rfl
      exact k _ (ins M1 p) σ H1 S2 ⟨p, rfl, S.n0 hp, .inr rfl, o⟩
theorem x_retN : PS X (.Return none pos) (rdS (zt X fa) F (evS P .retN)) := simp_ ps_retN fun D σ H ⟨M, ς, fl, ς', S, ee, k⟩ => by
  simp only [evS] at ee; cases ee
  exact k .non M σ H S (show Rep (zt X fa) M H .non .non from rep_non)
theorem x_pass : PS X (.Pass pos) (rdS (zt X fa) F (evS P .pas)) := simp_ ps_pass fun D σ H ⟨M, ς, fl, ς', S, ee, k⟩ => by
  simp only [evS] at ee; cases ee
  exact k M σ H S (.evo (.refl _ _))
theorem x_brk : PS X (.Break pos) (rdS (zt X fa) F (evS P .brk)) := simp_ ps_break fun D σ H ⟨M, ς, fl, ς', S, ee, k⟩ => by
  simp only [evS] at ee; cases ee
  exact k M σ H S (.evo (.refl _ _))
theorem x_cnt : PS X (.Continue pos) (rdS (zt X fa) F (evS P .cnt)) := simp_ ps_continue fun D σ H ⟨M, ς, fl, ς', S, ee, k⟩ => by
  simp only [evS] at ee; cases ee
  exact k M σ H S (.evo (.refl _ _))
theorem x_nev {st : Stmt} : PS X st (rdS (zt X fa) F (evS P .nev)) := ⟨fun pins s σ H D I ⟨M, ς, fl, ς', S, ee, k⟩ => by simp only [evS] at ee; cases ee⟩

/-! ### blocks -/
theorem EndS.imp {Z : Zt} {F : Fm} {M M1 : Mu} {H H1 : Hp} {ς' : List Sl} {E : Ends} {fl : Fl} (h : EndS Z F M H ς' E fl) (c : Carry Z M H M1 H1) : EndS Z F M1 H1 ς' E fl := by
  cases fl with
  | nx => exact fun M' σ' H' S' c' => h M' σ' H' S' (.trans c c')
  | bk => exact fun M' σ' H' S' c' => h M' σ' H' S' (.trans c c')
  | ct => exact fun M' σ' H' S' c' => h M' σ' H' S' (.trans c c')
  | rt d fr => exact fun v M' σ' H' S' r' => h v M' σ' H' S' r'
theorem b_nil : PSs X [] (rdS (zt X fa) F (evB P [])) := bimp pss_nil fun D σ H ⟨M, ς, fl, ς', S, ee, k⟩ => by
  simp only [evB] at ee; cases ee
  exact k M σ H S (.evo (.refl _ _))
theorem b_cons {s : Sm} {ss : List Sm} {st : Stmt} {sts : List Stmt} (h1 : PS X st (rdS (zt X fa) F (evS P s))) (h2 : PSs X sts (rdS (zt X fa) F (evB P ss))) : PSs X (st :: sts) (rdS (zt X fa) F (evB P (s :: ss))) :=
  bimp (pss_cons h1 h2) fun D σ H ⟨M, ς, fl, ς', S, ee, k⟩ => by
    simp only [evB] at ee
    obtain ⟨⟨f1, ς1⟩, e1, ee⟩ := R.bind_is ee
    refine ⟨M, ς, f1, ς1, S, e1, ?_⟩
    cases f1 with
    | nx => exact fun M' σ' H' S' c' => ⟨M', ς1, fl, ς', S', ee, k.imp c'⟩
    | bk => cases ee; exact k
    | ct => cases ee; exact k
    | rt d fr => cases ee; exact k
theorem x_if {c : Tx} {p q : List Sm} {ce : Expr} {ps qs : List Stmt} (hc : PT X ce (rdT (zt X fa) F (evT P c))) (hp : PSs X ps (rdS (zt X fa) F (evB P p))) (hq : PSs X qs (rdS (zt X fa) F (evB P q))) : PS X (.If ce ps qs pos) (rdS (zt X fa) F (evS P (.ife c p q))) :=
  simp_ (ps_if hc hp hq) fun D σ H ⟨M, ς, fl, ς', S, ee, k⟩ => by
    simp only [evS] at ee
    obtain ⟨⟨t, ς1⟩, e1, ee⟩ := R.bind_is ee
    refine ⟨M, ς, t, ς1, S, e1, fun H1 M1 n1 => ?_⟩
    cases t with
    | true => exact iteT ⟨M1, ς1, fl, ς', n1.S, ee, k.imp n1.carry⟩
    | false => exact iteF ⟨M1, ς1, fl, ς', n1.S, ee, k.imp n1.carry⟩

/-! ### loops -/
theorem x_for (G : Gd X fa Γ P n) (hp : PassesOwn (model X.prog X.w) X.A X.env X.xe) {t : Tg} {k : Ik} {ss : List Ex} {p : List Sm} {tg it : Expr} {ps : List Stmt} (hi : PI X tg it (rdI (zt X fa) F (evI P k ss))) (hn : nst it = true) (hg : PG X tg (gOf X.K t)) (hb : PSs X ps (rdS (zt X fa) F (evB P p))) :
    PS X (.For tg it ps [] pos) (rdS (zt X fa) F (evS P (.loop t k ss p))) :=
  simp_ (ps_for hp G.calm hi hg hb (no_fold hn)) fun D σ H ⟨M, ς, fl, ς', S, ee, kk⟩ => by
    simp only [evS] at ee
    obtain ⟨⟨ds, ς1⟩, e1, ee⟩ := R.bind_is ee
    obtain ⟨xs, e2, ee⟩ := R.bind_is ee
    refine ⟨M, ς, xs, ς1, S, by unfold evI; rw [e1]; simp only [R.bind_ok]; rw [e2]; rfl, fun J H1 M1 Sr n1 wk sr hz => ?_⟩
    have k1 := kk.imp n1.carry
    refine ⟨fun i m σ H => m = xs.length - i ∧ i ≤ xs.length ∧ ∃ Mi ςi, Sim (zt X fa) F Mi σ ςi H ∧ Sr Mi H ∧ Carry (zt X fa) M1 H1 Mi H ∧ forGo t (evB P p) (xs.drop i) ςi = .ok (fl, ς'),
      ⟨xs.length, by simp, Nat.zero_le _, M1, ς1, n1.S, sr, .evo (.refl _ _), by simpa using ee⟩, ?_⟩
    rintro i m σ2 H2 ⟨rfl, hi, Mi, ςi, Si, sri, ci, run⟩
    by_cases hlt : i < xs.length
    · right
      refine ⟨wk.go i Mi H2 sri hlt, fun σ' H' => i + 1 ≤ xs.length ∧ ∃ Mi ςi, Sim (zt X fa) F Mi σ' ςi H' ∧ Sr Mi H' ∧ Carry (zt X fa) M1 H1 Mi H' ∧ forGo t (evB P p) (xs.drop (i + 1)) ςi = .ok (fl, ς'),
        fun σ' H' h => ⟨xs.length - (i + 1), by omega, rfl, h.1, h.2⟩, fun x H' hy => ?_⟩
      obtain ⟨dx, hdx, mk⟩ := wk.yld i Mi H2 x H' sri hlt hy
      have hdrop : xs.drop i = dx :: xs.drop (i + 1) := by
        rw [List.drop_eq_getElem_cons hlt]
        have := List.getElem?_eq_some_iff.mp hdx
        rw [this.2]
      rw [hdrop] at run
      simp only [forGo] at run
      obtain ⟨ςa, ea, run⟩ := R.bind_is run
      obtain ⟨⟨f1, ςb⟩, eb, run⟩ := R.bind_is run
      obtain ⟨Sx, rx, kx, fx, cx⟩ := mk.item Si
      refine bind_go Sx rx ea fun σ3 S3 _ _ => ⟨Mi, ςa, f1, ςb, S3, eb, ?_⟩
      have c3 : Carry (zt X fa) M1 H1 Mi H' := .trans ci cx
      cases f1 with
      | nx => exact fun M' σ' H4 S' c' => ⟨hlt, M', ςb, S', wk.stay _ _ _ _ sri (.trans cx c'), .trans c3 c', run⟩
      | ct => exact fun M' σ' H4 S' c' => ⟨hlt, M', ςb, S', wk.stay _ _ _ _ sri (.trans cx c'), .trans c3 c', run⟩
      | bk =>
        cases run
        exact fun M' σ' H4 S' c' => k1 M' σ' H4 S' (.trans c3 c')
      | rt d fr =>
        cases run
        exact fun v M' σ' H4 S' r' => k1 v M' σ' H4 S' r'
    · left
      have hi' : xs.length ≤ i := by omega
      rw [List.drop_eq_nil_of_le hi'] at run
      simp only [forGo] at run
      cases run
      exact ⟨wk.stop i Mi H2 sri (by omega), k1 Mi σ2 H2 Si ci⟩
end
end Iq
set_option Elab.async false
set_option linter.all false
set_option maxRecDepth 100000
set_option maxHeartbeats 4000000
namespace Iq
open PySem L2 PyProof.Rows

/-! ### x, *rest = a tuple -/
theorem walks_from {prog : Program} {w : World} {A : Around} {I : Addr} {fp wr : List Addr} {n : Nat} {P : Nat → Value → Prop} {St : Nat → Heap → Prop} (W : Walks prog w A I fp wr n P St) (k : Nat) (hk : k ≤ n) :
    Walks prog w A I fp wr (n - k) (fun i => P (i + k)) (fun i => St (i + k)) where
  sub := W.sub
  frame := fun i => W.frame (i + k)
  item := fun i s Q E hi st hQ => W.item (i + k) s Q E (by omega) st fun v h' tk p st' => hQ v h' tk p (by rw [Nat.add_right_comm]; exact st')
  done := fun s Q E st hQ => W.done s Q E (by rw [Nat.sub_add_cancel hk] at st; exact st) hQ
  self := fun i => W.self (i + k)
section
variable {prog : Program} {w : World} {A : Around} {E : Value → Shared → Prop} {s : Shared}
theorem unpack_star {t : Addr} {x : Value} {xs : List Value} {Q : List Value → Shared → Prop} (hh : A.handled = none) (ht : IsTup s.heap t (x :: xs).toArray) (hn : xs.length ≤ sizeLine)
    (hQ : ∀ (h' : Heap) (tk : Nat), (∀ b o, s.heap.get? b = some o → h'.get? b = some o) → Q [x, .ref h'.objs.size] { s with heap := h'.push { cls := .type "list", data := .seq xs.toArray }, toks := tk }) :
    wpAny (model prog w) A (unpackItems (.ref t) 2 (some 1)) Q E s := by
  have hlt : t ≠ s.heap.objs.size := by obtain ⟨o, ho, _⟩ := ht; exact Nat.ne_of_lt (Heap.lt_size ho)
  unfold unpackItems
  refine wpAny_bind ?_
  unfold notIterableAtAll
  refine wpAny_bind (wpAny_specialOf ht.typeIs slot_tuple_iter.lookup ?_)
  refine wpAny_pure ?_
  simp only [Bool.false_eq_true, if_false]
  refine wpAny_bind (wpAny_holding (iter_tuple ht ?_))
  refine wpAny_bind (wpAny_holding (draw_tuple hlt 1 0 _ _ ⟨_, Heap.get?_push_size _ rfl, rfl, rfl⟩ (ht.push _) (by simp) fun h₁ hit₁ hs₁ => ?_))
  simp only [List.drop_zero, List.take_succ_cons, List.take_zero, List.length_cons, List.length_nil]
  rw [if_neg (by decide)]
  have ht₁ : IsTup h₁ t (x :: xs).toArray := (ht.push _).extBut hs₁.extBut hlt
  refine wpAny_bind (wpAny_holding ?_)
  have W := (walks_from (Walks.tuple (prog := prog) (w := w) (A := A.in1) hh s.heap.objs.size t hlt (x :: xs).toArray) 1 (by simp)).toS
  refine wpAny_collect_iter (T := "tuple_iterator") (.inr (.inr (.inr rfl))) W (fun i s st => let ⟨o, ho, hc, _⟩ := st.1; ⟨o, ho, hc⟩) ⟨hit₁, ht₁⟩ (fun b hb => ?_) (by simp) (fun s' acc hm ha => ?_) (by simpa using hn)
  · have e : b = s.heap.objs.size ∨ b = t := by simpa using hb
    rcases e with e | e
    · rw [e]; obtain ⟨o, ho, _⟩ := hit₁; exact Heap.lt_size ho
    · rw [e]; obtain ⟨o, ho, _⟩ := ht₁; exact Heap.lt_size ho
  · have hacc : acc.toList = xs := by
      obtain ⟨h1, h2⟩ := ha
      apply List.ext_getElem?
      intro i
      by_cases hi : i < acc.size
      · have := h2 i acc[i] (by simp [hi])
        rw [show acc.toList[i]? = some acc[i] by simp [hi]]
        simpa using this.symm
      · have l : acc.size = xs.length := by simpa using h1
        rw [List.getElem?_eq_none (by simpa using hi), List.getElem?_eq_none (by omega)]
    rw [hacc]
    simp only [Nat.reduceSub, Nat.not_lt_zero, if_false, Nat.sub_zero]
    refine wpAny_bind (wpAny_newList ?_ (by simpa using hn))
    refine wpAny_pure ?_
    rw [Moved.eq_with hm]
    simp only [List.take_length, List.drop_length, List.append_nil, List.cons_append, List.nil_append]
    refine hQ s'.heap s'.toks fun b o e => hm.heap b o (fun z => ?_) (hs₁.extBut b o ?_ (Heap.get?_push_of_some _ e))
    · have : b = s.heap.objs.size := by simpa using z
      exact absurd (Heap.lt_size e) (by rw [this]; exact Nat.lt_irrefl _)
    · exact Nat.ne_of_lt (Heap.lt_size e)
end
section
variable {X : Cx} {fa : Nat → Addr} {Γ : Gt} {P : Pr} {n : Nat} {F : Fm} {e x y z : Expr} {pos : Pos}
def gStar (K : PySem.W.Frag) (i j : Nat) : TG := fun v σ H Q => ∃ a x xs, v = .ref a ∧ SqT K H a (x :: xs) ∧ ∀ p, H p = none → Q ((σ.set i (some x)).set j (some (.ref p))) (upd H p (.lst xs))
theorem pg_star {i j : Nat} {x y : Str} {px py ps pos : Pos} {k : Nat} (hc : X.calm = true) (hN : X.N.Nodup) (hi : X.N[i]? = some x) (hj : X.N[j]? = some y) (hx : X.env.scope.names.lookup x = some .local) (hy : X.env.scope.names.lookup y = some .local) :
    PG X (.Tuple [.Name x px, .Starred (.Name y py) ps] k pos) (gStar X.K i j) := by
  refine ⟨fun pins s σ H v u Q I r h => ?_⟩
  obtain ⟨a, x0, xs, rfl, hq, h⟩ := h
  cases r
  obtain ⟨its, rv, ht, hz⟩ := I.tuple hq
  cases rv with
  | @cons _ u1 _ us ru rr =>
    rw [assign_Tuple]
    refine wpAny_bind (wpAny_standAt ?_)
    show wpAny _ _ (do assignInOrder [assign (.Name x px) X.env, assign (.Name y py) X.env] (← holding [.ref a] (unpackItems (.ref a) 2 (some 1)))) _ _ _
    have hz' : us.length ≤ sizeLine := by have := rr.length; simp at hz; omega
    refine wpAny_bind (wpAny_holding (unpack_star (I.ok.hd hc) ht hz' fun h' tk hk => ?_))
    have I1 : Inv X pins σ H { s with heap := h', toks := tk } := I.kept hk
    have fr : H h'.objs.size = none := I1.hok.fresh (Nat.le_refl _)
    have I2 : Inv X pins σ (upd H h'.objs.size (.lst xs)) { s with heap := h'.push { cls := .type "list", data := .seq us.toArray }, toks := tk } :=
      I1.laid (t' := tk) (fun b o e => Heap.get?_push_of_some _ e) (Nat.le_refl _) ⟨by rw [rr.length]; exact hz', us, 0, rr, Heap.get?_push_size _ rfl⟩
    refine assignInOrder_cons (wpAny_assign_Name (store_ok I2 hN hi (.inl hx) ru (fun s2 I3 => ?_) (.inr hx)))
    refine assignInOrder_cons (wpAny_assign_Name (store_ok I3 hN hj (.inl hy) (show RelV (.ref h'.objs.size) (.ref h'.objs.size) from rfl) (fun s3 I4 => assignInOrder_nil ?_) (.inr hy)))
    exact ⟨_, _, I4, h _ fr⟩
theorem x_star (hc : X.calm = true) {i j : Nat} {a : Ex} {x y : Str} {px py ps tp pos : Pos} {k : Nat} (ha : PE X e (rdE (zt X fa) F (evE P a))) (hN : X.N.Nodup) (hi : X.N[i]? = some x) (hj : X.N[j]? = some y) (hx : X.env.scope.names.lookup x = some .local) (hy : X.env.scope.names.lookup y = some .local)
    (hco : isComp e = false) (hw : swappedStores [.Tuple [.Name x px, .Starred (.Name y py) ps] k tp] e X.env = pure none) :
    PS X (.Assign [.Tuple [.Name x px, .Starred (.Name y py) ps] k tp] e pos) (rdS (zt X fa) F (evS P (.star i j a))) :=
  simp_ (ps_asg ha (pg_star hc hN hi hj hx hy) (show swapsWith e (some (.Tuple [.Name x px, .Starred (.Name y py) ps] k tp)) pos.line X.env = pure false from nc hco) hw rfl) fun D σ H ⟨M, ς, fl, ς', S, ee, k⟩ => by
    simp only [evS] at ee
    obtain ⟨⟨d, fr, ς1⟩, e1, ee⟩ := R.bind_is ee
    split at ee
    · rename_i x0 xs hd
      cases ee
      subst hd
      refine ⟨M, ς, _, fr, ς1, S, e1, fun v H1 ⟨M1, n1, r1, _⟩ => ?_⟩
      simp only [Rep] at r1
      obtain ⟨a, vs, rfl, t, r⟩ := r1
      simp only [RepL] at r
      obtain ⟨v, r2, rfl, r3, r4⟩ := r
      refine ⟨a, v, r2, rfl, t.sq, fun p hp => ?_⟩
      have S1 : Sim (zt X fa) F M1 (σ.set i (some v)) (ς1.set i (.shr x0)) H1 := n1.S.setShr r3
      have cr : Carry (zt X fa) M1 H1 (ins M1 p) (upd H1 p (.lst r2)) := .trans (.ins hp) (.evo (.new hp))
      refine k (ins M1 p) _ _ ((S1.newM hp).setOwn (S1.nM hp) (S1.n0 hp) ⟨r2, upd_same, RepL.carry cr _ _ r4⟩ fun z => S1.nM hp (S1.owns p z)) (.trans n1.carry cr)
    · cases ee
end
end Iq
set_option Elab.async false
set_option linter.all false
set_option maxRecDepth 100000
set_option maxHeartbeats 4000000
namespace Iq
open PySem L2

section
variable {X : Cx} {fa : Nat → Addr} {Γ : Gt} {P : Pr} {n : Nat} {F : Fm} {e x y z : Expr} {pos : Pos}

/-! ### name = [..] -/
theorem x_setLc (G : Gd X fa Γ P n) {i : Nat} {nm : Str} {py spos : Pos} {e : Ex} {t : Tg} {k : Ik} {ss : List Ex} {c : Option Tx} {el tg it : Expr} {ifs : List Expr} {sco : Scope} (hy : X.N[i]? = some nm) (hl : X.env.scope.names.lookup nm = some .local) (hk : X.env.scope.kind = .function)
    (hln : (py.line == pos.line) = true) (hany : (sco.names.any fun (n, k) => n == nm && (k == .local || k == .cell)) = false) (hi : PI X tg it (rdI (zt X fa) F (evI P k ss))) (hf : nst it = true)
    (hb : blkC X.N X.env.scope sco (ownOf X.N (tgS t)) = true) (hN : inN X.N (tgS t) = true) (hg : agTg X.N (relS sco X.env.scope) (fun x => sco.names.lookup x == some .cell) t tg = true)
    (ht : ∀ (s : Shared) (H : Hp) (C : Addr) (cl : List (Str × Addr)) (fp : List Addr), PTs (X.blk s H sco (compEnvC sco cl C X.env) fp) ifs (rdT (zt X fa) F (evQ P c)))
    (he : ∀ (s : Shared) (H : Hp) (C : Addr) (cl : List (Str × Addr)) (fp : List Addr), PE (X.blk s H sco (compEnvC sco cl C X.env) fp) el (rdE (zt X fa) F (evE P e))) :
    PS X (.Assign [.Name nm py] (.ListComp el [⟨tg, it, ifs, 0⟩] sco pos) spos) (rdS (zt X fa) F (evS P (.asg i (.comp e t k ss c)))) := by
  have h := ps_setLc (i := i) (g := gOf X.K t) (py := py) (pos := pos) (spos := spos) G.calm G.nd hy hl (sw_true hk hl hln hany) hi (blkOk_by hb)
    (fun s H C cl fp => g_tg (X := X.blk s H sco (compEnvC sco cl C X.env) fp) (sc := relS sco X.env.scope) (fnc := fun x => sco.names.lookup x == some .cell) G.calm rfl G.nd (fun x hx => hx) hg) ht he (no_fold hf)
  rw [ownOf_map hN] at h
  exact simp_ h fun D σ H q => lc_go (asg_go q)

/-! ### a, b = e -/
def lineOf (ts : List Expr) : Nat := (ts.head?.map (·.pos.line)).getD 0
def swNames (sc : Scope) (ts : List Expr) : List Str := ts.filterMap fun
  | .Name id pos => if sc.names.lookup id == some .local && pos.line == lineOf ts then some id else none
  | _ => none
def swOff (sc : Scope) (ts vs : List Expr) : Bool := !(ts.length == 2 || ts.length == 3) || vs.length != ts.length || (swNames sc ts).length != ts.length
theorem sw_off {env : Env} {ts vs : List Expr} {k1 : Nat} {k2 : Nat} {p1 p2 : Pos} (h : swOff env.scope ts vs = true) : swappedStores [.Tuple ts k1 p1] (.Tuple vs k2 p2) env = pure none := by
  unfold swappedStores
  simp only []
  split
  · rfl
  · rename_i h1
    split
    · rfl
    · split
      · rfl
      · rename_i h3
        exfalso
        simp only [Bool.or_eq_true, not_or] at h1 h3
        simp only [swOff, Bool.or_eq_true] at h
        rcases h with (h | h) | h
        · exact h1.1.1 h
        · exact h1.1.2 h
        · exact h3.1 h
theorem sw_no {env : Env} {tg : Expr} (h : isTup e = false) : swappedStores [tg] e env = pure none := by
  unfold swappedStores
  cases e <;> first | (cases h; done) | (cases tg <;> rfl)
theorem sw_sub {env : Env} {o i : Expr} {p : Pos} : swappedStores [.Subscript o i p] e env = pure none := by
  unfold swappedStores
  cases e <;> rfl
theorem x_asgT {is : List Nat} {a : Ex} {ts : List Expr} {k1 : Nat} {p1 : Pos} (ha : PE X e (rdE (zt X fa) F (evE P a))) (hg : PG X (.Tuple ts k1 p1) (gOf X.K (.tp is))) (hc : isComp e = false) (hw : swappedStores [.Tuple ts k1 p1] e X.env = pure none) :
    PS X (.Assign [.Tuple ts k1 p1] e pos) (rdS (zt X fa) F (evS P (.asgT is a))) :=
  simp_ (ps_asg ha hg (show swapsWith e (some (.Tuple ts k1 p1)) pos.line X.env = pure false from nc hc) hw rfl) fun D σ H ⟨M, ς, fl, ς', S, ee, k⟩ => by
    simp only [evS] at ee
    obtain ⟨⟨d, fr, ς1⟩, e1, ee⟩ := R.bind_is ee
    obtain ⟨ς2, e2, ee⟩ := R.bind_is ee
    cases ee
    exact ⟨M, ς, d, fr, ς1, S, e1, fun v H1 ⟨M1, n1, r1, _⟩ => bind_go n1.S r1 e2 fun σ' S' _ _ => k M1 σ' H1 S' n1.carry⟩
def swTwo (sc : Scope) (x y : Str) (px py : Pos) (a b : Expr) : Bool := decide (sc.names.lookup x = some .local) && decide (sc.names.lookup y = some .local) && (px.line == py.line) && !(x == y) && nst a && nst b &&
  !([a, b].all (foldedForSure 8)) && !([a, b].all (constantsAlone 8))
theorem sw_two {env : Env} {x y : Str} {px py pt pt2 : Pos} {a b : Expr} {kt k2 : Nat} (hk : env.blockKind = .function) (h : swTwo env.scope x y px py a b = true) : swappedStores [.Tuple [.Name x px, .Name y py] kt pt] (.Tuple [a, b] k2 pt2) env = pure (some [x, y]) := by
  simp only [swTwo, Bool.and_eq_true, decide_eq_true_eq, Bool.not_eq_true', beq_iff_eq, beq_eq_false_iff_ne] at h
  obtain ⟨⟨⟨⟨⟨⟨⟨h1, h2⟩, h3⟩, h4⟩, h5⟩, h6⟩, h7⟩, h8⟩ := h
  have kx : env.kindOf x = some .local := h1
  have ky : env.kindOf y = some .local := h2
  have st : ∀ e, nst e = true → (match e with | .Starred .. => true | _ => false) = false := fun e q => by
    cases e <;> first | rfl | cases q
  have he : ([x, y] : List Str).eraseDups = [x, y] := by
    rw [List.eraseDups_cons]
    simp [List.filter_cons, show (y == x) = false from beq_eq_false_iff_ne.mpr (Ne.symm h4), List.eraseDups_cons]
  have ll : (Expr.Name x px).pos.line = px.line := rfl
  unfold swappedStores
  simp only []
  split
  · rename_i q; exfalso; rw [hk] at q; simp at q
  · split
    · rename_i q
      exfalso
      simp only [List.any_cons, List.any_nil, Bool.or_false, Bool.or_eq_true] at q
      rcases q with q | q
      · exact Bool.noConfusion ((st a h5).symm.trans q)
      · exact Bool.noConfusion ((st b h6).symm.trans q)
    · split
      · rename_i q
        exfalso
        simp [kx, ky, h3, he, ll] at q
      · split
        · rename_i q; exfalso; rw [h7] at q; cases q
        · split
          · rename_i q; exfalso; rw [h8] at q; cases q
          · simp [kx, ky, h3, ll]
theorem x_par (G : Gd X fa Γ P n) {i j : Nat} {a b : Ex} {nx ny : Str} {px py pt pt2 : Pos} {kt k2 : Nat} (hi : X.N[i]? = some nx) (hj : X.N[j]? = some ny) (hk : X.env.scope.kind = .function) (hw : swTwo X.env.scope nx ny px py x y = true) (ps : SEs X (zt X fa) F P [a, b] [x, y]) :
    PS X (.Assign [.Tuple [.Name nx px, .Name ny py] kt pt] (.Tuple [x, y] k2 pt2) pos) (rdS (zt X fa) F (evS P (.par i j a b))) := by
  have hw' := hw
  simp only [swTwo, Bool.and_eq_true, decide_eq_true_eq, Bool.not_eq_true', beq_iff_eq, beq_eq_false_iff_ne] at hw'
  obtain ⟨⟨⟨⟨⟨⟨⟨h1, h2⟩, h3⟩, h4⟩, h5⟩, h6⟩, h7⟩, h8⟩ := hw'
  have hij : i ≠ j := fun z => h4 (by rw [z, hj] at hi; exact (Option.some.inj hi).symm)
  have hbk : X.env.blockKind = .function := by unfold Env.blockKind; rw [hk]; rfl
  refine simp_ (ps_par G.calm G.nd hi hj hij h1 h2 ps.rows (sw_two hbk hw) rfl) fun D σ H ⟨M, ς, fl, ς', S, ee, k⟩ => ?_
  simp only [evS] at ee
  obtain ⟨⟨ds, ς1⟩, e1, ee⟩ := R.bind_is ee
  obtain ⟨ς2, e2, ee⟩ := R.bind_is ee
  cases ee
  obtain ⟨c, d, hd⟩ := ev2 e1
  simp only [] at hd
  subst hd
  refine ⟨M, ς, [c, d], ς1, S, e1, fun vs H1 M1 n1 r1 => ?_⟩
  simp only [RepL] at r1
  obtain ⟨v, r, rfl, q1, w, r2, rfl, q2, rfl⟩ := r1
  simp only [setAll] at e2
  cases e2
  exact ⟨v, w, rfl, k M1 _ H1 ((n1.S.setShr q1).setShr q2) n1.carry⟩

/-! ### stores into owned objects -/
theorem sl_own {Z : Zt} {M : Mu} {σ : L2.St} {ς : List Sl} {H : Hp} {i : Nat} {f : D → R D} {ς' : List Sl} (S : Sim Z F M σ ς H) (h : setSl ς i f = .ok ς') : ∃ b d d' a, ς[i]? = some (.own b d) ∧ f d = .ok d' ∧ ς' = ς.set i (.own b d') ∧ σ[i]? = some (some (.ref a)) ∧ M a ∧ Own Z M H a d := by
  unfold setSl at h
  split at h
  · rename_i b d hb
    obtain ⟨d', e1, h⟩ := R.bind_is h
    cases h
    obtain ⟨a, h1, h2, _, h4⟩ := S.own i b d hb
    exact ⟨b, d, d', a, hb, e1, rfl, h1, h2, h4⟩
  · cases h
theorem putK_rep {Z : Zt} {M : Mu} {H : Hp} {k : Key} {d : D} {v : V} (hd : Rep Z M H d v) {kv : List (Key × D)} {kvs : List (Key × V)} (h : RepK Z M H kv kvs) : RepK Z M H (valPut kv k d) (putK kvs k v) := by
  unfold valPut putK
  rw [valV_any, repK_some h]
  by_cases e : (valD kv k).isSome = true
  · rw [if_pos e, if_pos e]
    clear e
    induction kv generalizing kvs with
    | nil => simp only [RepK] at h; subst h; simp [RepK]
    | cons p kv ih =>
      obtain ⟨k0, d0⟩ := p
      simp only [RepK] at h
      obtain ⟨v0, r, rfl, h1, h2⟩ := h
      simp only [List.map_cons]
      by_cases e : k0 = k
      · simp only [e, if_true, RepK]
        exact ⟨v, _, rfl, hd, ih h2⟩
      · simp only [e, if_false, RepK]
        exact ⟨v0, _, rfl, h1, ih h2⟩
  · rw [if_neg e, if_neg e]
    clear e
    induction kv generalizing kvs with
    | nil => simp only [RepK] at h; subst h; simp only [List.nil_append, RepK]; exact ⟨v, [], rfl, hd, rfl⟩
    | cons p kv ih =>
      obtain ⟨k0, d0⟩ := p
      simp only [RepK] at h
      obtain ⟨v0, r, rfl, h1, h2⟩ := h
      simp only [List.cons_append, RepK]
      exact ⟨v0, _, rfl, h1, ih h2⟩
theorem repK_len {Z : Zt} {M : Mu} {H : Hp} : ∀ {kv : List (Key × D)} {kvs : List (Key × V)}, RepK Z M H kv kvs → kv.length = kvs.length
  | [], _, h => by simp only [RepK] at h; subst h; rfl
  | (k, d) :: kv, _, h => by
    simp only [RepK] at h
    obtain ⟨v, r, rfl, _, h2⟩ := h
    simp [repK_len h2]
theorem x_set (G : Gd X fa Γ P n) {i : Nat} {a b : Ex} {nm : Str} {p p2 : Pos} (ho : PE X (.Name nm p) (tVar i)) (ha : PE X x (rdH (zt X fa) F (hd a (evE P a)))) (hb : PE X e (rdE (zt X fa) F (evE P b))) (hn : nst x = true) (hc : isComp e = false) :
    PS X (.Assign [.Subscript (.Name nm p) x p2] e pos) (rdS (zt X fa) F (evS P (.set i a b))) := by
  have hG := G.room.units
  have h1 := ps_asg (pos := pos) hb (pg_sub (pos := p2) ho ha set_list (by cases x <;> first | (intro _; rfl) | cases hn)) (show swapsWith e (some (.Subscript (.Name nm p) x p2)) pos.line X.env = pure false from nc hc) sw_sub rfl
  have h2 := ps_dput (pos := pos) (pos' := p2) (by omega) ho ha hb (nc hc)
  refine simp_ (sor h1 h2) fun D σ H ⟨M, ς, fl, ς', S, ee, k⟩ => ?_
  simp only [evS] at ee
  obtain ⟨⟨d, fr, ς1⟩, e1, ee⟩ := R.bind_is ee
  cases hO : isOwn ς1 i with
  | false => rw [hO] at ee; cases ee
  | true =>
  rw [hO] at ee
  simp only [cond_true] at ee
  obtain ⟨h, e2, ee⟩ := R.bind_is ee
  obtain ⟨kd, e3, ee⟩ := R.bind_is ee
  obtain ⟨ς2, e4, ee⟩ := R.bind_is ee
  cases ee
  have core : ∀ (v : V) (H1 : Hp) (M1 : Mu), Nxt (zt X fa) F M σ ς H M1 ς1 H1 → Rep (zt X fa) M1 H1 d v → ∀ (Q : V → V → Hp → Prop), (∀ w u H2 M2, Nxt (zt X fa) F M σ ς H M2 h.2 H2 → Rep (zt X fa) M2 H2 d v → HdV (zt X fa) M2 σ H2 h.1 u → σ[i]? = some (some w) → Q w u H2) →
      tVar i σ H1 fun w H2 => rdH (zt X fa) F (Iq.hd a (evE P a)) σ H2 fun u H3 => Q w u H3 := fun v H1 M1 n1 r1 Q q => by
    unfold isOwn at hO
    split at hO
    · rename_i b0 d0 hb0
      obtain ⟨w, hw, _⟩ := n1.S.own i _ _ hb0
      exact ⟨_, hw, M1, ς1, h.1, h.2, n1.S, e2, fun u H2 M2 n2 r2 => q _ u H2 M2 (n1.trans n2) (n2.rep r1) r2 hw⟩
    · cases hO
  have fin : ∀ (b0 : Bool) (d0 : Iq.D), h.2[i]? = some (.own b0 d0) → (∃ l, d0 = .lst l) ∨ ∃ l, d0 = .dic l := fun b0 d0 hb => by
    unfold setSl at e4
    rw [hb] at e4
    obtain ⟨d', e5, _⟩ := R.bind_is e4
    cases d0 <;> simp only [setD] at e5 <;> try (cases e5; done)
    · exact .inl ⟨_, rfl⟩
    · exact .inr ⟨_, rfl⟩
  obtain ⟨b0, d0, hb⟩ : ∃ b0 d0, h.2[i]? = some (.own b0 d0) := by
    unfold setSl at e4
    split at e4
    · exact ⟨_, _, by assumption⟩
    · cases e4
  rcases fin b0 d0 hb with ⟨l, rfl⟩ | ⟨kv, rfl⟩
  · refine .inl ⟨M, ς, d, fr, ς1, S, e1, fun v H1 ⟨M1, n1, r1, _⟩ => core v H1 M1 n1 r1 _ fun w u H2 M2 n2 r2 ru hw => ?_⟩
    obtain ⟨b1, d1, d', a1, g1, g2, g3, g4, g5, g6⟩ := sl_own n2.S e4
    rw [hb] at g1; cases g1
    rw [hw] at g4; cases g4
    obtain ⟨vs, ga, gr⟩ := g6
    have pk := deref_pk n2.S ru e3
    simp only [setD] at g2
    split at g2
    · rename_i ii
      split at g2
      · rename_i jj hj
        cases g2
        subst g3
        rw [gr.length] at hj
        have ow : Own (zt X fa) M2 (upd H2 a1 (.lst (vs.set jj v))) a1 (.lst (l.set jj d)) := by
          have cr : Carry (zt X fa) M2 H2 M2 (upd H2 a1 (.lst (vs.set jj v))) := .evo fun x u na q => by rw [upd_ne (fun z => na (by rw [z]; exact g5))]; exact q
          exact ⟨_, upd_same, RepL.carry cr _ _ (RepL.set r2 jj gr)⟩
        obtain ⟨S3, c3⟩ := n2.S.turn hb hw ow
        exact ⟨a1, vs, ii, jj, rfl, pk.int, ga, hj, k M2 σ _ S3 (.trans n2.carry c3)⟩
      · cases g2
    · cases g2
  · refine .inr ⟨M, ς, d, fr, ς1, S, e1, fun v H1 ⟨M1, n1, r1, _⟩ => core v H1 M1 n1 r1 _ fun w u H2 M2 n2 r2 ru hw => ?_⟩
    obtain ⟨b1, d1, d', a1, g1, g2, g3, g4, g5, g6⟩ := sl_own n2.S e4
    rw [hb] at g1; cases g1
    rw [hw] at g4; cases g4
    obtain ⟨kvs, ga, gr⟩ := g6
    have pk := deref_pk n2.S ru e3
    simp only [setD] at g2
    split at g2
    · rename_i kk hk
      split at g2
      · rename_i hz
        cases g2
        subst g3
        obtain rfl := key_pk pk hk
        have ow : Own (zt X fa) M2 (upd H2 a1 (.dK (putK kvs kk v))) a1 (.dic (valPut kv kk d)) := by
          have cr : Carry (zt X fa) M2 H2 M2 (upd H2 a1 (.dK (putK kvs kk v))) := .evo fun x u na q => by rw [upd_ne (fun z => na (by rw [z]; exact g5))]; exact q
          exact ⟨_, upd_same, RepK.carry cr _ _ (putK_rep r2 gr)⟩
        obtain ⟨S3, c3⟩ := n2.S.turn hb hw ow
        exact ⟨a1, _, rfl, DPut.k ga (by rw [← repK_len gr]; exact hz), k M2 σ _ S3 (.trans n2.carry c3)⟩
      · cases g2
    · cases g2
theorem x_app (G : Gd X fa Γ P n) {i : Nat} {a : Ex} {nm : Str} {p ap cp : Pos} (ho : PE X (.Name nm p) (tVar i)) (ha : PE X e (rdE (zt X fa) F (evE P a))) (hn : nst e = true) (hl : (ap.endLine == cp.line) = true) :
    PS X (.Expr (.Call (.Attribute (.Name nm p) "append" ap) [e] [] cp) pos) (rdS (zt X fa) F (evS P (.app i a))) := by
  have pa : PA X [e] (tCons (rdE (zt X fa) F (evE P a)) tNil) := pa_cons ha pa_nil (star_cons hn)
  refine simp_ (ps_expr (pe_bm PySem.F.plainAttrs_list PySem.F.slot_list_append PySem.F.type_list_append mt_append ho pa rfl (by rw [star_cons hn]; rfl) hl (star_cons hn) rfl) rfl) fun D σ H ⟨M, ς, fl, ς', S, ee, k⟩ => ?_
  simp only [evS] at ee
  cases hO : isOwnL ς i with
  | false => rw [hO] at ee; cases ee
  | true =>
  rw [hO] at ee
  simp only [cond_true] at ee
  obtain ⟨⟨d, fr, ς1⟩, e1, ee⟩ := R.bind_is ee
  obtain ⟨ς2, e2, ee⟩ := R.bind_is ee
  cases ee
  obtain ⟨b0, d0, hb0⟩ : ∃ b0 d0, ς[i]? = some (.own b0 (.lst d0)) := by
    unfold isOwnL at hO
    split at hO
    · exact ⟨_, _, by assumption⟩
    · cases hO
  obtain ⟨w, hw, _, _, ow⟩ := S.own i _ _ hb0
  refine ⟨_, hw, ?_, M, ς, d, fr, ς1, S, e1, fun v H1 ⟨M1, n1, r1, _⟩ => ?_⟩
  · obtain ⟨vs, hv, _⟩ := ow
    exact .inl ⟨rfl, vs, .of hv⟩
  · obtain ⟨b1, d1, d', a1, g1, g2, g3, g4, g5, g6⟩ := sl_own n1.S e2
    rw [hw] at g4; cases g4
    cases d1 <;> simp only [addD] at g2 <;> try (cases g2; done)
    rename_i l
    split at g2
    · rename_i hz
      cases g2
      subst g3
      obtain ⟨vs, ga, gr⟩ := g6
      have ow : Own (zt X fa) M1 (upd H1 w (.lst (vs ++ [v]))) w (.lst (l ++ [d])) := by
        have cr : Carry (zt X fa) M1 H1 M1 (upd H1 w (.lst (vs ++ [v]))) := .evo fun x u na q => by rw [upd_ne (fun z => na (by rw [z]; exact g5))]; exact q
        exact ⟨_, upd_same, RepL.carry cr _ _ (gr.append (RepL.one r1))⟩
      obtain ⟨S3, c3⟩ := n1.S.turn g1 hw ow
      exact ⟨w, vs, v, rfl, rfl, ga, by rw [← gr.length]; exact hz, k M1 σ _ S3 (.trans n1.carry c3)⟩
    · cases g2
theorem x_ext (G : Gd X fa Γ P n) {i : Nat} {a : Ex} {nm : Str} {p ap cp : Pos} (ho : PE X (.Name nm p) (tVar i)) (ha : PE X e (rdE (zt X fa) F (evE P a))) (hn : nst e = true) (hl : (ap.endLine == cp.line) = true) :
    PS X (.Expr (.Call (.Attribute (.Name nm p) "extend" ap) [e] [] cp) pos) (rdS (zt X fa) F (evS P (.ext i a))) := by
  have pa : PA X [e] (tCons (rdE (zt X fa) F (evE P a)) tNil) := pa_cons ha pa_nil (star_cons hn)
  refine simp_ (ps_expr (pe_bm PySem.F.plainAttrs_list PySem.F.slot_list_extend PySem.F.type_list_extend mt_extend ho pa rfl (by rw [star_cons hn]; rfl) hl (star_cons hn) rfl) rfl) fun D σ H ⟨M, ς, fl, ς', S, ee, k⟩ => ?_
  simp only [evS] at ee
  cases hO : isOwnL ς i with
  | false => rw [hO] at ee; cases ee
  | true =>
  rw [hO] at ee
  simp only [cond_true] at ee
  obtain ⟨⟨d, fr, ς1⟩, e1, ee⟩ := R.bind_is ee
  obtain ⟨ς2, e2, ee⟩ := R.bind_is ee
  cases ee
  obtain ⟨b0, d0, hb0⟩ : ∃ b0 d0, ς[i]? = some (.own b0 (.lst d0)) := by
    unfold isOwnL at hO
    split at hO
    · exact ⟨_, _, by assumption⟩
    · cases hO
  obtain ⟨w, hw, _, _, ow⟩ := S.own i _ _ hb0
  refine ⟨_, hw, ?_, M, ς, d, fr, ς1, S, e1, fun v H1 ⟨M1, n1, r1, q1⟩ => ?_⟩
  · obtain ⟨vs, hv, _⟩ := ow
    exact .inl ⟨rfl, vs, .of hv⟩
  · cases fr with
    | false => cases d <;> (unfold extG at e2; cases e2)
    | true =>
    cases d with
    | lst xs =>
      simp only [extG] at e2
      obtain ⟨b1, d1, d', a1, g1, g2, g3, g4, g5, g6⟩ := sl_own n1.S e2
      rw [hw] at g4; cases g4
      cases d1 <;> simp only [extD] at g2 <;> try (cases g2; done)
      rename_i l
      split at g2
      · rename_i hz
        cases g2
        subst g3
        obtain ⟨vs, ga, gr⟩ := g6
        obtain ⟨pp, rfl, _, _, us, gb, gr2⟩ := q1 rfl
        have gr3 : RepL (zt X fa) M1 H1 xs us := RepL.carry (.less fun a h => .inl h) _ _ gr2
        have ow : Own (zt X fa) M1 (upd H1 w (.lst (vs ++ us))) w (.lst (l ++ xs)) := by
          have cr : Carry (zt X fa) M1 H1 M1 (upd H1 w (.lst (vs ++ us))) := .evo fun x u na q => by rw [upd_ne (fun z => na (by rw [z]; exact g5))]; exact q
          exact ⟨_, upd_same, RepL.carry cr _ _ (gr.append gr3)⟩
        obtain ⟨S3, c3⟩ := n1.S.turn g1 hw ow
        exact ⟨w, pp, vs, us, rfl, rfl, ga, gb, by rw [← gr.length, ← gr3.length]; exact hz, k M1 σ _ S3 (.trans n1.carry c3)⟩
      · cases g2
    | _ => unfold extG at e2; cases e2

/-! ### while -/
theorem x_whl (hp : PassesOwn (model X.prog X.w) X.A X.env X.xe) {m : Nat} {c : Tx} {p : List Sm} {ce : Expr} {ps : List Stmt} (hc : PT X ce (rdT (zt X fa) F (evT P c))) (hb : PSs X ps (rdS (zt X fa) F (evB P p))) : PS X (.While ce ps [] pos) (rdS (zt X fa) F (evS P (.whl m c p))) :=
  simp_ (ps_while hp hc hb) fun D σ H ⟨M, ς, fl, ς', S, ee, kk⟩ => by
    simp only [evS] at ee
    refine ⟨fun m σ H => ∃ Mi ςi, Sim (zt X fa) F Mi σ ςi H ∧ whGo (evT P c) (evB P p) m ςi = .ok (fl, ς') ∧ EndS (zt X fa) F Mi H ς' D fl, ⟨m, M, ς, S, ee, kk⟩, ?_⟩
    rintro m2 σ2 H2 ⟨Mi, ςi, Si, run, ki⟩
    cases m2 with
    | zero => simp only [whGo] at run; cases run
    | succ m2 =>
      simp only [whGo] at run
      obtain ⟨⟨b, ςb⟩, eb, run⟩ := R.bind_is run
      refine ⟨Mi, ςi, b, ςb, Si, eb, fun H3 M3 n3 => ?_⟩
      have k3 := ki.imp n3.carry
      cases b with
      | false =>
        simp only [cond_false] at run
        cases run
        exact iteF (k3 M3 σ2 H3 n3.S (.evo (.refl _ _)))
      | true =>
        simp only [cond_true] at run
        obtain ⟨⟨f1, ςc⟩, ec, run⟩ := R.bind_is run
        refine iteT ⟨fun σ' H' => ∃ Mi ςi, Sim (zt X fa) F Mi σ' ςi H' ∧ whGo (evT P c) (evB P p) m2 ςi = .ok (fl, ς') ∧ EndS (zt X fa) F Mi H' ς' D fl, fun σ' H' h => ⟨m2, Nat.lt_succ_self _, h⟩, M3, ςb, f1, ςc, n3.S, ec, ?_⟩
        cases f1 with
        | nx => exact fun M' σ' H' S' c' => ⟨M', ςc, S', run, k3.imp c'⟩
        | ct => exact fun M' σ' H' S' c' => ⟨M', ςc, S', run, k3.imp c'⟩
        | bk => cases run; exact fun M' σ' H' S' c' => k3 M' σ' H' S' c'
        | rt d fr => cases run; exact fun v M' σ' H' S' r' => k3 v M' σ' H' S' r'
end
end Iq
set_option Elab.async false
set_option linter.all false
set_option maxRecDepth 100000
set_option maxHeartbeats 4000000
namespace Iq
open PySem L2

/-! ### statements agree with the text -/
def fnT : Str → Bool := fun _ => true
/-- e may stand behind name = .. as it is -/
def asgOk (sc : Scope) (x : Str) (p : Pos) : Expr → Bool
  | .ListComp _ _ s pe => !(decide (sc.names.lookup x = some .local) && (p.line == pe.line) && !(s.names.any fun (n, k) => n == x && (k == .local || k == .cell)))
  | e => !(isComp e)
theorem asg_ok {env : Env} {x : Str} {p : Pos} {e : Expr} {l : Nat} (h : asgOk env.scope x p e = true) : swapsWith e (some (.Name x p)) l env = pure false := by
  cases e with
  | ListComp a b s pe =>
    unfold swapsWith
    simp only [asgOk, Bool.not_eq_true'] at h
    simp only []
    have : (env.blockKind == .function && env.kindOf x == some .local && p.line == (Expr.ListComp a b s pe).pos.line && !(s.names.any fun (n, k) => n == x && (k == .local || k == .cell))) = false := by
      have h2 : (env.kindOf x == some .local) = decide (env.scope.names.lookup x = some .local) := by
        unfold Env.kindOf
        rw [Bool.eq_iff_iff]
        simp
      rw [h2]
      show (env.blockKind == .function && decide (env.scope.names.lookup x = some .local) && p.line == pe.line && _) = false
      rw [Bool.and_assoc, Bool.and_assoc, ← Bool.and_assoc (decide _), h, Bool.and_false]
    exact congrArg pure this
  | _ => exact nc (by simpa [asgOk] using h)
def swOk (sc : Scope) (ts : List Expr) : Expr → Bool
  | .Tuple vs _ _ => swOff sc ts vs
  | e => true
theorem sw_ok {env : Env} {ts : List Expr} {k1 : Nat} {p1 : Pos} {e : Expr} (h : swOk env.scope ts e = true) : swappedStores [.Tuple ts k1 p1] e env = pure none := by
  cases e with
  | Tuple vs k p => exact sw_off h
  | _ => exact sw_no rfl
mutual
def agS (Γ : Gt) (N : List Str) (sc : Scope) : Sm → Stmt → Bool
  | .nev, _ => true
  | .exp a, .Expr e _ => agE Γ N sc a e && !(isComp e)
  | .asg i a, .Assign [.Name x p] e _ => isL N sc fnT i x && ((agE Γ N sc a e && asgOk sc x p e) || (match a, e with
      | .comp el t k ss c, .ListComp ee [⟨tg, it, ifs, asy⟩] sco pe => decide (sc.names.lookup x = some .local) && (p.line == pe.line) && !(sco.names.any fun (n, k) => n == x && (k == .local || k == .cell)) &&
          agE Γ N sc (.comp el t k ss c) (.ListComp ee [⟨tg, it, ifs, asy⟩] sco pe)
      | _, _ => false))
  | .asgT is a, .Assign [.Tuple ts _ _] e _ => agNms N sc fnT is ts && agE Γ N sc a e && !(isComp e) && swOk sc ts e
  | .par i j a b, .Assign [.Tuple [.Name x px, .Name y py] _ _] (.Tuple [e, f] _ _) _ => decide (N[i]? = some x) && decide (N[j]? = some y) && swTwo sc x y px py e f && agL Γ N sc [a, b] [e, f]
  | .star i j a, .Assign [.Tuple [.Name x px, .Starred (.Name y py) sp] _ _] e _ => decide (N[i]? = some x) && decide (N[j]? = some y) && decide (sc.names.lookup x = some .local) && decide (sc.names.lookup y = some .local) && agE Γ N sc a e && !(isComp e) && swOk sc [.Name x px, .Starred (.Name y py) sp] e
  | .set i a b, .Assign [.Subscript (.Name x _) ie _] e _ => isV N sc i x && agE Γ N sc a ie && nst ie && agE Γ N sc b e && !(isComp e)
  | .app i a, .Expr (.Call (.Attribute (.Name x _) m ap) [e] [] cp) _ => decide (m = "append") && isV N sc i x && agE Γ N sc a e && nst e && (ap.endLine == cp.line)
  | .ext i a, .Expr (.Call (.Attribute (.Name x _) m ap) [e] [] cp) _ => decide (m = "extend") && isV N sc i x && agE Γ N sc a e && nst e && (ap.endLine == cp.line)
  | .ife c p q, .If ce ps qs _ => agT Γ N sc c ce && agB Γ N sc p ps && agB Γ N sc q qs
  | .loop t k ss p, .For tg it ps [] _ => agI Γ N sc k ss tg it && agTg N sc fnT t tg && agB Γ N sc p ps
  | .whl _ c p, .While ce ps [] _ => agT Γ N sc c ce && agB Γ N sc p ps
  | .ret a, .Return (some e) _ => agE Γ N sc a e
  | .retN, .Return none _ => true
  | .brk, .Break _ => true
  | .cnt, .Continue _ => true
  | .pas, .Pass _ => true
  | _, _ => false
def agB (Γ : Gt) (N : List Str) (sc : Scope) : List Sm → List Stmt → Bool
  | [], [] => true
  | s :: ss, t :: ts => agS Γ N sc s t && agB Γ N sc ss ts
  | _, _ => false
end

section
variable {fa : Nat → Addr} {Γ : Gt} {P : Pr} {n : Nat} {F : Fm}
theorem x_comp {X : Cx} (G : Gd X fa Γ P n) (hk : X.env.scope.kind = .function) {i : Nat} {nm : Str} {py spos : Pos} {e : Ex} {t : Tg} {k : Ik} {ss : List Ex} {c : Option Tx} {ex : Expr} {gs : List Comprehension} {sco : Scope} {pos : Pos} (hy : isL X.N X.env.scope fnT i nm = true) (hl : X.env.scope.names.lookup nm = some .local)
    (hln : (py.line == pos.line) = true) (hany : (sco.names.any fun (n, k) => n == nm && (k == .local || k == .cell)) = false) (h : agE Γ X.N X.env.scope (.comp e t k ss c) (.ListComp ex gs sco pos) = true) :
    PS X (.Assign [.Name nm py] (.ListComp ex gs sco pos) spos) (rdS (zt X fa) F (evS P (.asg i (.comp e t k ss c)))) := by
  match gs, h with
  | [⟨tg, it, ifs, asy⟩], h =>
    simp only [agE, Bool.and_eq_true, decide_eq_true_eq] at h
    obtain ⟨⟨⟨⟨⟨⟨⟨rfl, h1⟩, h2⟩, h3⟩, h4⟩, h5⟩, h6⟩, h7⟩ := h
    obtain ⟨hi, hn⟩ := sI k ss G h1
    simp only [isL, Bool.and_eq_true, decide_eq_true_eq] at hy
    exact x_setLc G hy.1 hl hk hln hany hi hn h3 h4 h2 (fun s H C cl fp => sQ c (G.blk s H sco (compEnvC sco cl C X.env) fp) h6) (fun s H C cl fp => (sE e (G.blk s H sco (compEnvC sco cl C X.env) fp) h7).1)
  | [], h => simp only [agE] at h; cases h
  | _ :: _ :: _, h => simp only [agE] at h; cases h
structure Bd (X : Cx) : Prop where
  k : X.env.scope.kind = .function
  p : PassesOwn (model X.prog X.w) X.A X.env X.xe
  f : ∀ x, X.fn x = true
mutual
theorem sS : ∀ (s : Sm) {X : Cx} (G : Gd X fa Γ P n) (B : Bd X) {st : Stmt}, agS Γ X.N X.env.scope s st = true → PS X st (rdS (zt X fa) F (evS P s))
  | .nev, X, G, B, st, h => x_nev
  | .exp a, X, G, B, st, h => by
    cases st <;> try (simp only [agS] at h; cases h; done)
    simp only [agS, Bool.and_eq_true, Bool.not_eq_true'] at h
    exact x_exp (sE a G h.1).1 h.2
  | .asg i a, X, G, B, st, h => by
    unfold agS at h
    split at h <;> try (first | (rename_i q _; cases q; done) | (rename_i q; cases q; done) | (cases h; done))
    all_goals (rename_i q; cases q)
    rename_i nm py e pos
    simp only [Bool.and_eq_true, Bool.or_eq_true] at h
    obtain ⟨h1, h2 | h2⟩ := h
    · exact x_asg (sE a G h2.1).1 (g_name rfl G.nd (fun x _ => B.f x) h1) (asg_ok h2.2)
    · split at h2
      · simp only [Bool.and_eq_true, decide_eq_true_eq, Bool.not_eq_true'] at h2
        exact x_comp G B.k h1 h2.1.1.1 h2.1.1.2 h2.1.2 h2.2
      · cases h2
  | .asgT is a, X, G, B, st, h => by
    unfold agS at h
    split at h <;> try (first | (rename_i q _; cases q; done) | (rename_i q; cases q; done) | (cases h; done))
    all_goals (rename_i q; cases q)
    simp only [Bool.and_eq_true, Bool.not_eq_true'] at h
    obtain ⟨⟨⟨h1, h2⟩, h3⟩, h4⟩ := h
    exact x_asgT (sE a G h2).1 (g_tg (t := .tp is) G.calm rfl G.nd (fun x _ => B.f x) (by simpa only [agTg] using h1)) h3 (sw_ok h4)
  | .par i j a b, X, G, B, st, h => by
    unfold agS at h
    split at h <;> try (first | (rename_i q _; cases q; done) | (rename_i q; cases q; done) | (cases h; done))
    all_goals (rename_i q; cases q)
    simp only [Bool.and_eq_true, decide_eq_true_eq] at h
    obtain ⟨⟨⟨h1, h2⟩, h3⟩, h4⟩ := h
    exact x_par G h1 h2 B.k h3 (sL [a, b] G h4)
  | .star i j a, X, G, B, st, h => by
    unfold agS at h
    split at h <;> try (first | (rename_i q _; cases q; done) | (rename_i q; cases q; done) | (cases h; done))
    all_goals (rename_i q; cases q)
    simp only [Bool.and_eq_true, decide_eq_true_eq, Bool.not_eq_true'] at h
    obtain ⟨⟨⟨⟨⟨⟨h1, h2⟩, h3⟩, h4⟩, h5⟩, h6⟩, h7⟩ := h
    exact x_star G.calm (sE a G h5).1 G.nd h1 h2 h3 h4 h6 (sw_ok h7)
  | .set i a b, X, G, B, st, h => by
    unfold agS at h
    split at h <;> try (first | (rename_i q _; cases q; done) | (rename_i q; cases q; done) | (cases h; done))
    all_goals (rename_i q; cases q)
    simp only [Bool.and_eq_true, Bool.not_eq_true'] at h
    obtain ⟨⟨⟨⟨h1, h2⟩, h3⟩, h4⟩, h5⟩ := h
    exact x_set G (s_var rfl h1) (sE a G h2).2 (sE b G h4).1 h3 h5
  | .app i a, X, G, B, st, h => by
    unfold agS at h
    split at h <;> try (first | (rename_i q _; cases q; done) | (rename_i q; cases q; done) | (cases h; done))
    all_goals (rename_i q; cases q)
    simp only [Bool.and_eq_true, decide_eq_true_eq] at h
    obtain ⟨⟨⟨⟨rfl, h2⟩, h3⟩, h4⟩, h5⟩ := h
    exact x_app G (s_var rfl h2) (sE a G h3).1 h4 h5
  | .ext i a, X, G, B, st, h => by
    unfold agS at h
    split at h <;> try (first | (rename_i q _; cases q; done) | (rename_i q; cases q; done) | (cases h; done))
    all_goals (rename_i q; cases q)
    simp only [Bool.and_eq_true, decide_eq_true_eq] at h
    obtain ⟨⟨⟨⟨rfl, h2⟩, h3⟩, h4⟩, h5⟩ := h
    exact x_ext G (s_var rfl h2) (sE a G h3).1 h4 h5
  | .ife c p q, X, G, B, st, h => by
    cases st <;> try (simp only [agS] at h; cases h; done)
    simp only [agS, Bool.and_eq_true] at h
    exact x_if (sT c G h.1.1).1 (sB p G B h.1.2) (sB q G B h.2)
  | .loop t k ss p, X, G, B, st, h => by
    unfold agS at h
    split at h <;> try (first | (rename_i q _; cases q; done) | (rename_i q; cases q; done) | (cases h; done))
    all_goals (rename_i q; cases q)
    simp only [Bool.and_eq_true] at h
    obtain ⟨hi, hn⟩ := sI k ss G h.1.1
    exact x_for G B.p hi hn (g_tg G.calm rfl G.nd (fun x _ => B.f x) h.1.2) (sB p G B h.2)
  | .whl m c p, X, G, B, st, h => by
    unfold agS at h
    split at h <;> try (first | (rename_i q _; cases q; done) | (rename_i q; cases q; done) | (cases h; done))
    all_goals (rename_i q; cases q)
    simp only [Bool.and_eq_true] at h
    exact x_whl B.p (sT c G h.1).1 (sB p G B h.2)
  | .ret a, X, G, B, st, h => by
    unfold agS at h
    split at h <;> try (first | (rename_i q _; cases q; done) | (rename_i q; cases q; done) | (cases h; done))
    all_goals (rename_i q; cases q)
    exact x_ret (sE a G h)
  | .retN, X, G, B, st, h => by
    unfold agS at h
    split at h <;> try (first | (rename_i q _; cases q; done) | (rename_i q; cases q; done) | (cases h; done))
    all_goals exact x_retN
  | .brk, X, G, B, st, h => by
    cases st <;> try (simp only [agS] at h; cases h; done)
    exact x_brk
  | .cnt, X, G, B, st, h => by
    cases st <;> try (simp only [agS] at h; cases h; done)
    exact x_cnt
  | .pas, X, G, B, st, h => by
    cases st <;> try (simp only [agS] at h; cases h; done)
    exact x_pass
theorem sB : ∀ (ss : List Sm) {X : Cx} (G : Gd X fa Γ P n) (B : Bd X) {sts : List Stmt}, agB Γ X.N X.env.scope ss sts = true → PSs X sts (rdS (zt X fa) F (evB P ss))
  | [], X, G, B, [], h => b_nil
  | s :: ss, X, G, B, st :: sts, h => by
    simp only [agB, Bool.and_eq_true] at h
    exact b_cons (sS s G B h.1) (sB ss G B h.2)
  | [], X, G, B, _ :: _, h => by simp only [agB] at h; cases h
  | _ :: _, X, G, B, [], h => by simp only [agB] at h; cases h
end
end
end Iq
set_option Elab.async false
set_option linter.all false
set_option maxRecDepth 100000
set_option maxHeartbeats 4000000
namespace Iq
open PySem L2

section
variable {Z : Zt} {M : Mu} {H : Hp}
theorem argV_len : ∀ {as : List Sl} {vs : List V} {os : List Addr}, ArgV Z M H as vs os → vs.length = as.length
  | [], _, _, h => by rw [h.1]; rfl
  | .shr d :: as, _, _, ⟨v, r, e, _, h⟩ => by rw [e]; simp [argV_len h]
  | .own true d :: as, _, _, ⟨a, r, q, e, _, _, _, h⟩ => by rw [e]; simp [argV_len h]
  | .own false d :: as, _, _, h => h.elim
  | .no :: as, _, _, h => h.elim
theorem argV_mem : ∀ {as : List Sl} {vs : List V} {os : List Addr}, ArgV Z M H as vs os → ∀ a ∈ os, M a
  | [], _, _, h, a, ha => by rw [h.2] at ha; cases ha
  | .shr d :: as, _, _, ⟨v, r, e, _, h⟩, a, ha => argV_mem h a ha
  | .own true d :: as, _, _, ⟨a', r, q, e, e2, m, _, h⟩, a, ha => by
    rw [e2] at ha
    rcases List.mem_cons.mp ha with rfl | ha
    · exact m
    · exact argV_mem h a ha
  | .own false d :: as, _, _, h, _, _ => h.elim
  | .no :: as, _, _, h, _, _ => h.elim
theorem argV_shr : ∀ {as : List Sl} {vs : List V} {os : List Addr} {i : Nat} {d : D}, ArgV Z M H as vs os → as[i]? = some (.shr d) → ∃ v, vs[i]? = some v ∧ Rep Z M H d v
  | [], _, _, i, d, _, h => by simp at h
  | .shr d0 :: as, _, _, 0, d, ⟨v, r, e, h1, h⟩, q => by simp at q; subst q e; exact ⟨v, by simp, h1⟩
  | .shr d0 :: as, _, _, i + 1, d, ⟨v, r, e, h1, h⟩, q => by subst e; simpa using argV_shr h (by simpa using q)
  | .own true d0 :: as, _, _, 0, d, _, q => by simp at q
  | .own true d0 :: as, _, _, i + 1, d, ⟨a, r, w, e, _, _, _, h⟩, q => by subst e; simpa using argV_shr h (by simpa using q)
  | .own false d :: as, _, _, _, _, h, _ => h.elim
  | .no :: as, _, _, _, _, h, _ => h.elim
theorem argV_own : ∀ {as : List Sl} {vs : List V} {os : List Addr} {i : Nat} {b : Bool} {d : D}, ArgV Z M H as vs os → as[i]? = some (.own b d) → b = true ∧ ∃ a, vs[i]? = some (.ref a) ∧ a ∈ os ∧ M a ∧ Own Z M H a d
  | [], _, _, i, b, d, _, h => by simp at h
  | .shr d0 :: as, _, _, 0, b, d, _, q => by simp at q
  | .shr d0 :: as, _, _, i + 1, b, d, ⟨v, r, e, h1, h⟩, q => by subst e; simpa using argV_own h (by simpa using q)
  | .own true d0 :: as, _, _, 0, b, d, ⟨a, r, w, e, e2, m, o, h⟩, q => by
    simp at q
    obtain ⟨rfl, rfl⟩ := q
    subst e e2
    exact ⟨rfl, a, by simp, by simp, m, o⟩
  | .own true d0 :: as, _, _, i + 1, b, d, ⟨a, r, w, e, e2, _, _, h⟩, q => by
    subst e e2
    obtain ⟨h1, a', h2, h3, h4⟩ := argV_own h (i := i) (by simpa using q)
    exact ⟨h1, a', by simpa using h2, List.mem_cons_of_mem _ h3, h4⟩
  | .own false d :: as, _, _, _, _, _, h, _ => h.elim
  | .no :: as, _, _, _, _, _, h, _ => h.elim
theorem argV_sep : ∀ {as : List Sl} {vs : List V} {os : List Addr} {i j : Nat} {b c : Bool} {d e : D} {a : Addr}, ArgV Z M H as vs os → os.Nodup → i ≠ j → as[i]? = some (.own b d) → as[j]? = some (.own c e) → vs[i]? = some (.ref a) → vs[j]? ≠ some (.ref a)
  | [], _, _, i, j, b, c, d, e, a, _, _, _, h, _, _ => by simp at h
  | .shr d0 :: as, _, _, 0, j, b, c, d, e, a, _, _, _, q, _, _ => by simp at q
  | .shr d0 :: as, _, _, i + 1, 0, b, c, d, e, a, _, _, _, _, q, _ => by simp at q
  | .shr d0 :: as, _, _, i + 1, j + 1, b, c, d, e, a, ⟨v, r, e1, h1, h⟩, hn, ij, q1, q2, q3 => by
    subst e1
    have := argV_sep h hn (show i ≠ j by omega) (by simpa using q1) (by simpa using q2) (show r[i]? = some (.ref a) by simpa using q3)
    simpa using this
  | .own true d0 :: as, _, _, 0, 0, b, c, d, e, a, _, _, ij, _, _, _ => absurd rfl ij
  | .own true d0 :: as, _, _, 0, j + 1, b, c, d, e, a, ⟨a', r, w, e1, e2, m, o, h⟩, hn, ij, q1, q2, q3 => by
    subst e1 e2
    simp at q3
    subst q3
    rw [List.nodup_cons] at hn
    obtain ⟨_, a2, h2, h3, _⟩ := argV_own h (i := j) (by simpa using q2)
    intro z
    have z : r[j]? = some (.ref a') := by simpa using z
    rw [z] at h2; cases h2
    exact hn.1 h3
  | .own true d0 :: as, _, _, i + 1, 0, b, c, d, e, a, ⟨a', r, w, e1, e2, m, o, h⟩, hn, ij, q1, q2, q3 => by
    subst e1 e2
    rw [List.nodup_cons] at hn
    obtain ⟨_, a2, h2, h3, _⟩ := argV_own h (i := i) (by simpa using q1)
    have q3 : r[i]? = some (.ref a) := by simpa using q3
    rw [q3] at h2; cases h2
    intro z
    simp at z
    subst z
    exact hn.1 h3
  | .own true d0 :: as, _, _, i + 1, j + 1, b, c, d, e, a, ⟨a', r, w, e1, e2, m, o, h⟩, hn, ij, q1, q2, q3 => by
    subst e1 e2
    rw [List.nodup_cons] at hn
    have := argV_sep h hn.2 (show i ≠ j by omega) (by simpa using q1) (by simpa using q2) (show r[i]? = some (.ref a) by simpa using q3)
    simpa using this
  | .own false d :: as, _, _, _, _, _, _, _, _, _, h, _, _, _, _, _ => h.elim
  | .no :: as, _, _, _, _, _, _, _, _, _, h, _, _, _, _, _ => h.elim
/-- no object of the caller's is left without its place -/
theorem io_nil : ∀ {as : List Sl} {vs : List V} {os : List Addr}, ArgV Z M H as vs os → ioFit [] as = true → os = []
  | [], _, _, h, _ => h.2
  | .shr d :: as, _, _, ⟨v, r, e, _, h⟩, q => by
    simp only [ioFit, List.tail_nil] at q
    exact io_nil h q
  | .own true d :: as, _, _, _, q => by simp only [ioFit] at q; cases q
  | .own false d :: as, _, _, h, _ => h.elim
  | .no :: as, _, _, h, _ => h.elim
theorem outs_own {M2 : Mu} {H' : Hp} {ς' : List Sl} {s0 : L2.St} (hS : ∀ (i : Nat) d, ς'[i]? = some (.own true d) → ∃ a, s0[i]? = some (some (.ref a)) ∧ Own Z M2 H' a d) :
    ∀ {io : List Bool} {as : List Sl} {vs : List V} {os : List Addr} {j : Nat} {ds : List D}, ArgV Z M H as vs os → ioFit io as = true → io.length ≤ as.length → (∀ (i : Nat) v, vs[i]? = some v → s0[j + i]? = some (some v)) → outs ς' j io = .ok ds → OwnsL Z M2 H' os ds
  | [], as, vs, os, j, ds, h, q, _, _, e => by
    simp only [outs] at e; cases e
    rw [io_nil h q]; exact rfl
  | true :: io, .own true d0 :: as, _, _, j, ds, ⟨a, r, w, e1, e2, m, o, h⟩, q, hl, hs, e => by
    subst e1 e2
    simp only [outs, cond_true] at e
    split at e
    · rename_i d hd
      obtain ⟨ds2, e3, e⟩ := R.bind_is e
      cases e
      obtain ⟨a', h1, h2⟩ := hS j d hd
      have h3 := hs 0 (.ref a) (by simp)
      rw [Nat.add_zero, h1] at h3
      cases h3
      refine ⟨d, ds2, rfl, h2, outs_own hS h (by simpa only [ioFit] using q) (by simpa using hl) (fun i v hv => ?_) e3⟩
      have := hs (i + 1) v (by simpa using hv)
      rw [show j + 1 + i = j + (i + 1) by omega]; exact this
    · cases e
  | false :: io, .shr d0 :: as, _, _, j, ds, ⟨v0, r, e1, h1, h⟩, q, hl, hs, e => by
    subst e1
    simp only [outs, cond_false] at e
    refine outs_own hS h (by simpa only [ioFit, List.tail_cons] using q) (by simpa using hl) (fun i v hv => ?_) e
    have := hs (i + 1) v (by simpa using hv)
    rw [show j + 1 + i = j + (i + 1) by omega]; exact this
  | true :: io, .shr _ :: as, _, _, _, _, _, q, _, _, _ => by simp only [ioFit] at q; cases q
  | false :: io, .own true _ :: as, _, _, _, _, _, q, _, _, _ => by simp only [ioFit] at q; cases q
  | _ :: io, .own false _ :: as, _, _, _, _, h, _, _, _, _ => h.elim
  | _ :: io, .no :: as, _, _, _, _, h, _, _, _, _ => h.elim
  | _ :: _, [], _, _, _, _, _, _, hl, _, _ => by simp at hl
end

/-- what the whole program's text says -/
structure Env1 (P : Program) (w : World) (K : PySem.W.Frag) (mg : Str → Option Value) (fa : Nat → Addr) (Γ : Gt) (cs : List D) : Prop where
  free : ∀ x ∈ bnames, mg x = none
  con : ∀ (j : Nat) x d, Γ.cn[j]? = some x → cs[j]? = some d → ∃ u v, mg x = some u ∧ RelV v u ∧ ∀ M H, Rep ⟨w, K, mg, fa⟩ M H d v

theorem fn_ok {P : Program} {w : World} {K : PySem.W.Frag} {mg : Str → Option Value} {base : Heap} {fa : Nat → Addr} {Γ : Gt} {Pr : Pr} {n : Nat} {x qual : Str} {params : Arguments} {body : List Stmt} {scope : Scope} {dvs : List V} {kws : List (Str × V)} {f : Addr} {fd : FuncData} {N ps : List Str} {fi : Fn}
    (FD : FunD K x qual params body scope dvs kws f fd) (S : FnScope N ps scope) (ag : agB Γ N scope fi.body body = true) (hN : N.length = fi.nl) (hp : ps.length = fi.np) (E : Env1 P w K mg fa Γ Pr.cs)
    (fns : ∀ (k : Nat) x, Γ.fnm[k]? = some x → mg x = some (.ref (fa k)) ∧ PySem.W.keepIn K (.ref (fa k)) = true ∧ ∃ fd ps, Binds K fd ps [] ∧ FnOk P w K mg base CX0 n (fa k) fd ps (spF ⟨w, K, mg, fa⟩ (Pr.fn k)))
    (fnk : ∀ (k : Nat) as r, Pr.fn k as = .ok r → ∃ x, Γ.fnm[k]? = some x) : FnOk P w K mg base CX0 (n + 1) f fd ps (spF ⟨w, K, mg, fa⟩ (run Pr fi)) := by
  refine FD.ok S (fun vs H Q E ⟨M, as, os, d, fr, outs, av, _, _, e, _⟩ => ?_) fun cdv A outer s H vs Q EE hr ⟨M, as, os, d, fr, os2, av, nd, dm, e, q⟩ => ?_
  · unfold run at e
    split at e
    · rename_i hc
      rw [argV_len av, hp]; exact hc.1
    · cases e
  · unfold run at e
    split at e
    case isFalse => cases e
    case isTrue hc =>
    obtain ⟨c1, c2, c3, c4⟩ := hc
    obtain ⟨⟨fl, ς'⟩, e1, e⟩ := R.bind_is e
    obtain ⟨ds, e2, e⟩ := R.bind_is e
    let Z : Zt := ⟨w, K, mg, fa⟩
    let X : Cx := (cxOf CX0 P w K mg base N qual scope f cdv A outer s H EE).nox
    let F : Fm := ⟨H, (· ∈ os), M, start N vs⟩
    have hvl : vs.length = fi.np := (argV_len av).trans c1
    have G : Gd X fa Γ Pr n := ⟨rfl, S.nd, hr, E.free, E.con, fns, fnk⟩
    have B : Bd X := ⟨S.kind, PassesOwn.never, fun _ => rfl⟩
    have hst : ∀ (i : Nat) v, vs[i]? = some v → (start N vs)[i]? = some (some v) := fun i v hv => by
      have hi := (List.getElem?_eq_some_iff.mp hv).1
      unfold L2.start
      rw [List.getElem?_append_left (by simpa using hi), List.getElem?_map, hv]; rfl
    have has : ∀ (i : Nat) a, (as ++ List.replicate (fi.nl - fi.np) Sl.no)[i]? = some a → a ≠ .no → as[i]? = some a := fun i a ha hne => by
      by_cases hi : i < as.length
      · rw [List.getElem?_append_left hi] at ha; exact ha
      · rw [List.getElem?_append_right (by omega)] at ha
        have := List.getElem?_eq_some_iff.mp ha
        obtain ⟨h1, h2⟩ := this
        rw [List.getElem_replicate] at h2
        exact absurd h2.symm hne
    have S0 : Sim Z F M (start N vs) (as ++ List.replicate (fi.nl - fi.np) .no) H := by
      refine ⟨?_, fun i d h => ?_, fun i b d h => ?_, fun i j b d c e a ij h1 h2 h3 => ?_, fun a o h _ => h, dm, fun a h => h, fun a h => argV_mem av a h, dm⟩
      · unfold L2.start
        simp only [List.length_append, List.length_map, List.length_replicate]
        have := argV_len av
        omega
      · obtain ⟨v, h1, h2⟩ := argV_shr av (has i _ h (by simp))
        exact ⟨v, hst i v h1, h2⟩
      · obtain ⟨rfl, a, h1, h2, h3, h4⟩ := argV_own av (has i _ h (by simp))
        exact ⟨a, hst i _ h1, h3, ⟨h2, rfl⟩, h4⟩
      · have h1 := has i _ h1 (by simp)
        have h2 := has j _ h2 (by simp)
        obtain ⟨_, a1, g1, _⟩ := argV_own av h1
        obtain ⟨_, a2, g2, _⟩ := argV_own av h2
        rw [hst i _ g1] at h3
        cases h3
        rw [hst j _ g2]
        intro z
        cases z
        exact argV_sep av nd ij h1 h2 g1 g2
    refine ⟨rdS Z F (evB Pr fi.body), (sB fi.body G B ag).nox, M, _, fl, ς', S0, e1, ?_⟩
    -- behind the body
    have fin : ∀ (d' : D) (fr' : Bool), (d', fr', ds) = (d, fr, os2) → ∀ v M' σ' H', Sim Z F M' σ' ς' H' → RetV Z F M' H' d' v fr' → Q v H' := fun d' fr' he v M' σ' H' S' rv => by
      cases he
      have sup : ∀ a, M a → M' a := S'.sup
      have own : ∀ {M2 : Mu}, (∀ a, M2 a → M' a) → OwnsL Z M2 H' os os2 := fun {M2} hm => by
        refine outs_own (s0 := start N vs) (fun i d hi => ?_) av c4 (by omega) (fun i v hv => by rw [Nat.zero_add]; exact hst i v hv) e2
        obtain ⟨a, g1, _, g3, g4⟩ := S'.own i _ _ hi
        exact ⟨a, g3.2.symm.trans g1, g4.carry (.less hm) rfl⟩
      have n0 : ∀ p, F.H0 p = none → ¬ M p := fun p h z => by
        obtain ⟨o, ho⟩ := dm p z
        have h : H p = none := h
        rw [h] at ho; cases ho
      refine q v H' ⟨fun a o na h => S'.old a o h na, fun p h => ?_, ?_, own sup, fun hf => ?_⟩
      · cases z : H p with
        | none => rfl
        | some o =>
          by_cases hm : p ∈ os
          · obtain ⟨o', ho⟩ := S'.dom p (sup p (argV_mem av p hm))
            rw [h] at ho; cases ho
          · have := S'.old p o z hm
            rw [h] at this; cases this
      · cases fr with
        | false => exact Rep.carry (.less sup) _ _ rv
        | true =>
          obtain ⟨p, rfl, h0, hm, o⟩ := rv
          exact Own.rep (n0 p h0) (o.carry (.less sup) rfl)
      · subst hf
        obtain ⟨p, rfl, h0, hm, o⟩ := rv
        have sp : ∀ a, ins M p a → M' a := fun a h => h.elim (sup a) fun z => by rw [z]; exact hm
        exact ⟨p, rfl, h0, o.carry (.less sp) rfl, own sp⟩
    cases fl with
    | nx =>
      have e : (Iq.D.non, false, ds) = (d, fr, os2) := by injection e
      exact fun M' σ' H' S' _ => fin _ _ e _ M' σ' H' S' (show Rep Z M' H' .non .non from rep_non)
    | rt d' fr' =>
      have e : (d', fr', ds) = (d, fr, os2) := by injection e
      exact fun v M' σ' H' S' rv => fin _ _ e v M' σ' H' S' rv
    | bk => cases e
    | ct => cases e
end Iq
set_option Elab.async false
set_option linter.all false
set_option maxRecDepth 100000
set_option maxHeartbeats 4000000
namespace Iq
open PySem L2

/-! ### constants of the top -/
mutual
def cRB (K : PySem.W.Frag) (nm : List Str) : D → Value → Bool
  | .non, .none => true
  | .bl b, .bool c => b == c
  | .int i, .int j _ => decide (i = j)
  | .str x, .str y _ => decide (x = y)
  | .tup ds, .ref a => match K.lookup a with
    | some ⟨.type c, _, .seq its _, _⟩ => decide (c = "tuple") && (decide (its.size ≤ sizeLine) && cRBL K nm ds its.toList)
    | _ => false
  | .fn k, .ref a => decide (a = He.ga K (nm.getD k ""))
  | _, _ => false
def cRBL (K : PySem.W.Frag) (nm : List Str) : List D → List Value → Bool
  | [], [] => true
  | d :: ds, u :: us => cRB K nm d u && cRBL K nm ds us
  | _, _ => false
end
abbrev faOf (K : PySem.W.Frag) (nm : List Str) : Nat → Addr := fun k => He.ga K (nm.getD k "")
mutual
theorem cRB_ok {w : World} {K : PySem.W.Frag} {mg : Str → Option Value} {nm : List Str} : ∀ (d : D) (u : Value), cRB K nm d u = true → ∃ v, RelV v u ∧ ∀ M H, Rep ⟨w, K, mg, faOf K nm⟩ M H d v
  | .non, u, h => by
    cases u <;> simp only [cRB] at h <;> try (cases h; done)
    exact ⟨.non, rfl, fun _ _ => rep_non⟩
  | .bl b, u, h => by
    cases u <;> simp only [cRB] at h <;> try (cases h; done)
    rw [beq_iff_eq] at h; subst h
    exact ⟨.bl b, rfl, fun _ _ => rep_bl⟩
  | .int i, u, h => by
    cases u <;> simp only [cRB] at h <;> try (cases h; done)
    rw [decide_eq_true_eq] at h; subst h
    exact ⟨.int i, ⟨_, rfl⟩, fun _ _ => rep_int⟩
  | .str x, u, h => by
    cases u <;> simp only [cRB] at h <;> try (cases h; done)
    rw [decide_eq_true_eq] at h; subst h
    exact ⟨.str x, ⟨_, rfl⟩, fun _ _ => rep_str⟩
  | .tup ds, u, h => by
    cases u with
    | ref a =>
      simp only [cRB] at h
      split at h
      · rename_i c dd its n sl hk
        simp only [Bool.and_eq_true, decide_eq_true_eq] at h
        obtain ⟨vs, r1, r2⟩ := cRBL_ok (w := w) (mg := mg) ds its.toList h.2.2
        refine ⟨.ref a, rfl, fun M H => ?_⟩
        simp only [Rep]
        exact ⟨a, vs, rfl, .inr ⟨_, its, n, hk, congrArg Value.type h.1, rfl, h.2.1, r1⟩, r2 M H⟩
      · cases h
    | _ => simp only [cRB] at h; cases h
  | .fn k, u, h => by
    cases u <;> simp only [cRB] at h <;> try (cases h; done)
    rw [decide_eq_true_eq] at h; subst h
    exact ⟨.ref _, rfl, fun _ _ => by simp only [Rep]⟩
  | .lst _, u, h => by cases u <;> (simp only [cRB] at h; cases h)
  | .dic _, u, h => by cases u <;> (simp only [cRB] at h; cases h)
theorem cRBL_ok {w : World} {K : PySem.W.Frag} {mg : Str → Option Value} {nm : List Str} : ∀ (ds : List D) (us : List Value), cRBL K nm ds us = true → ∃ vs, Vals vs us ∧ ∀ M H, RepL ⟨w, K, mg, faOf K nm⟩ M H ds vs
  | [], [], _ => ⟨[], .nil, fun _ _ => by simp only [RepL]⟩
  | d :: ds, u :: us, h => by
    simp only [cRBL, Bool.and_eq_true] at h
    obtain ⟨v, r1, r2⟩ := cRB_ok (w := w) (mg := mg) d u h.1
    obtain ⟨vs, r3, r4⟩ := cRBL_ok (w := w) (mg := mg) ds us h.2
    refine ⟨v :: vs, .cons r1 r3, fun M H => ?_⟩
    simp only [RepL]
    exact ⟨v, vs, rfl, r2 M H, r4 M H⟩
  | [], _ :: _, h => by simp only [cRBL] at h; cases h
  | _ :: _, [], h => by simp only [cRBL] at h; cases h
end
/-- a constant of the module -/
def conB (K : PySem.W.Frag) (nm : List Str) (q : Str × D) : Bool := match PySem.W.nsIn K mainGlobals q.1 with
  | some (some u) => cRB K nm q.2 u
  | _ => false
/-- a table with text keys -/
def entB (K : PySem.W.Frag) (nm : List Str) : List (Str × D) → List DictEntry → Bool
  | [], [] => true
  | (x, d) :: kvs, e :: es => (match e.key with
    | .str y _ => decide (x = y)
    | _ => false) && cRB K nm d e.val && entB K nm kvs es
  | _, _ => false
def tabB (K : PySem.W.Frag) (nm : List Str) (t : Str × List (Str × D)) : Bool := match K.lookup (He.ga K t.1) with
  | some ⟨_, _, .dict es _, _⟩ => entB K nm t.2 es.toList && !t.2.isEmpty
  | _ => false
theorem ent_ok {w : World} {K : PySem.W.Frag} {mg : Str → Option Value} {nm : List Str} : ∀ {kvs : List (Str × D)} {es : List DictEntry}, entB K nm kvs es = true →
    ∃ vs : List (Key × V), (∀ M H, RepK ⟨w, K, mg, faOf K nm⟩ M H (kvs.map fun q => (Sum.inr q.1, q.2)) vs) ∧ (es.any (·.refKey) = false) ∧ ∀ x : Str, RelO (valV vs (Sum.inr x)) ((es.find? (·.key.isStr x)).map (·.val))
  | [], [], _ => ⟨[], fun _ _ => by simp [RepK], rfl, fun _ => trivial⟩
  | (x, d) :: kvs, e :: es, h => by
    simp only [entB, Bool.and_eq_true] at h
    obtain ⟨⟨h1, h2⟩, h3⟩ := h
    split at h1
    · rename_i y t hk
      rw [decide_eq_true_eq] at h1
      subst h1
      obtain ⟨v, r1, r2⟩ := cRB_ok (w := w) (mg := mg) d e.val h2
      obtain ⟨vs, r3, r4, r5⟩ := ent_ok (w := w) (mg := mg) h3
      refine ⟨(Sum.inr x, v) :: vs, fun M H => ?_, ?_, fun z => ?_⟩
      · simp only [List.map_cons, RepK]
        exact ⟨v, vs, rfl, r2 M H, r3 M H⟩
      · rw [List.any_cons, r4, Bool.or_false]
        unfold DictEntry.refKey
        rw [hk]
      · by_cases e1 : x = z
        · subst e1
          have hf : (e.key.isStr x) = true := by rw [hk]; simp [Value.isStr]
          rw [valV_pos (p := (Sum.inr x, v)) rfl, List.find?_cons, hf]
          exact r1
        · have hf : (e.key.isStr z) = false := by rw [hk]; simp [Value.isStr]; exact fun q => e1 (by first | exact q | exact q.symm)
          rw [valV_neg (p := (Sum.inr x, v)) (fun q => e1 (Sum.inr.inj q)), List.find?_cons, hf]
          exact r5 z
    · cases h1
  | [], _ :: _, h => by simp only [entB] at h; cases h
  | _ :: _, [], h => by simp only [entB] at h; cases h

/-! ### the hook -/
structure Hk where
  fn : List He.DefD
  nm : List Str
  cs : List (Str × D)
  ts : List (Str × List (Str × D))
abbrev AlI : Type := Bool × List He.FnW × List (Option (List (Option (Str × Int))))
def glB (K : PySem.W.Frag) (x : Str) : Bool := He.eqO (PySem.W.nsIn K mainGlobals x) (some (some (.ref (He.ga K x))))
def frB (K : PySem.W.Frag) (x : Str) : Bool := He.eqO (PySem.W.nsIn K mainGlobals x) (some none)
def allB (k : Hk) (K : PySem.W.Frag) : Bool := (k.fn.all fun d => d.ok K) && (k.nm.all (glB K)) && (bnames.all (frB K)) && (k.cs.all (conB K k.nm)) && (k.ts.all fun t => tabB K k.nm t && glB K t.1)
def obsI (k : Hk) (K : PySem.W.Frag) : AlI := (allB k K, k.fn.map fun d => He.fnW K d.at_, k.ts.map fun t => He.dicW K (He.ga K t.1))
def valI (k : Hk) (w : World) : AlI := (true, k.fn.map He.DefD.val, k.ts.map fun t => some (He.keysIn w.params (t.2.map (·.1))))
/-- no list of the top is looked at -/
def nl (p : Addr × Obj) : Bool := !decide (p.2.cls = .type "list")
def NoL (K : PySem.W.Frag) : Prop := ∀ a o, K.lookup a = some o → o.cls ≠ .type "list"
theorem mem_lookup {α β : Type} [BEq α] [LawfulBEq α] {a : α} {b : β} : ∀ {l : List (α × β)}, l.lookup a = some b → (a, b) ∈ l
  | [], h => by cases h
  | (x, y) :: l, h => by
    rw [List.lookup_cons] at h
    cases e : a == x with
    | true => rw [e] at h; cases h; rw [beq_iff_eq.mp e]; exact List.mem_cons_self
    | false => rw [e] at h; exact List.mem_cons_of_mem _ (mem_lookup h)
theorem fr_in {g : Addr → Option Obj} {as : List Addr} {a : Addr} {o : Obj} (h : ((He.frG g as).filter nl).lookup a = some o) : g a = some o ∧ o.cls ≠ .type "list" := by
  have m := mem_lookup h
  obtain ⟨m1, m2⟩ := List.mem_filter.mp m
  unfold He.frG at m1
  obtain ⟨b, _, e⟩ := List.mem_filterMap.mp m1
  cases q : g b with
  | none => rw [q] at e; cases e
  | some u =>
    rw [q] at e
    simp only [Option.map_some, Option.some.injEq, Prod.mk.injEq] at e
    obtain ⟨rfl, rfl⟩ := e
    refine ⟨q, fun z => ?_⟩
    simp [nl, z] at m2
def obsIG (n : Nat) (k : Hk) (g : Addr → Option Obj) : AlI := obsI k ((He.frG g (He.asD g n)).filter nl)
def hookI (n : Nat) (k : Hk) : PySem.W.Hook where
  α := AlI
  obs := fun s => obsIG n k s.heap.get?
  val := fun w => valI k w
  says := fun w h => ∃ K : PySem.W.Frag, K.In h ∧ NoL K ∧ obsI k K = valI k w
  of := fun _ _ e => ⟨_, fun _ _ q => (fr_in q).1, fun _ _ q => (fr_in q).2, e⟩
  keeps := fun _ _ _ ⟨K, hK, z, c⟩ q => ⟨K, PySem.W.Frag.In.keeps hK q, z, c⟩
theorem obsIG_eq {n : Nat} {k : Hk} {g : Addr → Option Obj} {s : Shared} (h : ∀ a, g a = s.heap.get? a) : obsIG n k g = (hookI n k).obs s := by
  have e : g = s.heap.get? := funext h
  rw [e] <;> rfl
/-- the names and values of all constants -/
def Hk.cn (k : Hk) : List Str := k.cs.map (·.1) ++ k.ts.map (·.1)
def Hk.cv (k : Hk) : List D := k.cs.map (·.2) ++ k.ts.map fun t => .dic (t.2.map fun q => (Sum.inr q.1, q.2))
section
variable {k : Hk} {w : World} {K : PySem.W.Frag} {h : Heap} {mg : Str → Option Value} {P : Program}
theorem says_all (c : obsI k K = valI k w) : allB k K = true := congrArg (fun z : AlI => z.1) c
theorem says_gl (X : K.In h) (G : h.Ns mainGlobals mg) {x : Str} (c : glB K x = true) : mg x = some (.ref (He.ga K x)) := PySem.W.mg_of X G (He.eqO_ok c)
theorem says_env (X : K.In h) (G : h.Ns mainGlobals mg) (c : obsI k K = valI k w) (fnm : List Str) : Env1 P w K mg (faOf K k.nm) ⟨k.cn, fnm⟩ k.cv := by
  have a := says_all c
  simp only [allB, Bool.and_eq_true] at a
  obtain ⟨⟨⟨⟨a1, a2⟩, a3⟩, a4⟩, a5⟩ := a
  refine ⟨fun x hx => PySem.W.mg_none_of X G (He.eqO_ok (List.all_eq_true.mp a3 x hx)), fun j x d hx hd => ?_⟩
  simp only [Hk.cn, Hk.cv] at hx hd
  by_cases hj : j < k.cs.length
  · rw [List.getElem?_append_left (by simpa using hj), List.getElem?_map] at hx hd
    rw [List.getElem?_eq_getElem hj] at hx hd
    simp only [Option.map_some, Option.some.injEq] at hx hd
    have q := List.all_eq_true.mp a4 _ (List.getElem_mem hj)
    unfold conB at q
    split at q
    · rename_i u hu
      rw [hx] at hu
      rw [hd] at q
      obtain ⟨v, r1, r2⟩ := cRB_ok (w := w) (mg := mg) d u q
      exact ⟨u, v, PySem.W.mg_of X G hu, r1, r2⟩
    · cases q
  · have hj : k.cs.length ≤ j := by omega
    rw [List.getElem?_append_right (by simpa using hj)] at hx hd
    simp only [List.length_map, List.getElem?_map] at hx hd
    cases ht : k.ts[j - k.cs.length]? with
    | none => rw [ht] at hx; cases hx
    | some t =>
      rw [ht] at hx hd
      simp only [Option.map_some, Option.some.injEq] at hx hd
      subst hx hd
      have hm := List.mem_of_getElem? ht
      have q := List.all_eq_true.mp a5 t hm
      simp only [Bool.and_eq_true] at q
      refine ⟨_, .ref (He.ga K t.1), says_gl X G q.2, rfl, ?_⟩
      have q1 := q.1
      unfold tabB at q1
      split at q1
      · rename_i es n _ hk
        simp only [Bool.and_eq_true, Bool.not_eq_true'] at q1
        obtain ⟨vs, r1, r2, r3⟩ := ent_ok (w := w) (mg := mg) q1.1
        have hd : k.ts.map (fun t => He.dicW K (He.ga K t.1)) = k.ts.map fun t => some (He.keysIn w.params (t.2.map (·.1))) := congrArg (fun z : AlI => z.2.2) c
        have hd2 : He.dicW K (He.ga K t.1) = some (He.keysIn w.params (t.2.map (·.1))) := by
          have := congrArg (fun l => l[j - k.cs.length]?) hd
          simp only [List.getElem?_map, ht, Option.map_some, Option.some.injEq] at this
          exact this
        obtain ⟨es2, n2, kd⟩ := He.dicW_ok hd2
        intro M H
        simp only [Rep]
        refine ⟨He.ga K t.1, vs, rfl, .inr ⟨es2, n2, kd, fun x => ?_, ?_⟩, r1 M H⟩
        · refine ⟨(es.toList.find? (·.key.isStr x)).map (·.val), ?_, r3 x⟩
          unfold PySem.W.nsIn
          rw [hk]
          simp only []
          cases hf : es.toList.find? (·.key.isStr x) with
          | some e => rfl
          | none => simp only [r2]; rfl
        · have r := r1 (fun _ => False) (fun _ => none)
          cases hkv : t.2 with
          | nil => rw [hkv] at q1; simp at q1
          | cons p l =>
            rw [hkv] at r
            simp only [List.map_cons, RepK] at r
            obtain ⟨v, r', e, _⟩ := r
            exact ⟨_, v, r', e⟩
      · cases q1
theorem says_fn (c : obsI k K = valI k w) {i : Nat} {d : He.DefD} (hi : k.fn[i]? = some d) : ∃ fd, FunD K d.name d.qual d.params d.body d.scope (d.dvs K) (d.kws K) (He.fAd K d.at_) fd := by
  have a := says_all c
  simp only [allB, Bool.and_eq_true] at a
  have e : k.fn.map (fun d => He.fnW K d.at_) = k.fn.map He.DefD.val := congrArg (fun z : AlI => z.2.1) c
  have e2 := congrArg (fun l => l[i]?) e
  simp only [List.getElem?_map, hi, Option.map_some, Option.some.injEq] at e2
  exact He.DefD.funD e2 (List.all_eq_true.mp a.1.1.1.1 d (List.mem_of_getElem? hi))
theorem says_nm (X : K.In h) (G : h.Ns mainGlobals mg) (c : obsI k K = valI k w) {i : Nat} {x : Str} (hi : k.nm[i]? = some x) : mg x = some (.ref (faOf K k.nm i)) := by
  have a := says_all c
  simp only [allB, Bool.and_eq_true] at a
  have q := says_gl X G (List.all_eq_true.mp a.1.1.1.2 x (List.mem_of_getElem? hi))
  have e : faOf K k.nm i = He.ga K x := by
    unfold faOf
    rw [List.getD_eq_getElem?_getD, hi]; rfl
  rw [e]; exact q
end
end Iq
set_option Elab.async false
set_option linter.all false
set_option maxRecDepth 100000
set_option maxHeartbeats 4000000
namespace Iq
open PySem L2

/-! ### the whole program -/
/-- a def: its text, its names by slots, its parameters, its term -/
structure Df where
  d : He.DefD
  N : List Str
  ps : List Str
  fi : Fn
def scB (N ps : List Str) (sc : Scope) : Bool := decide (sc.kind = .function) && !sc.isCoroutine && !sc.isGenerator && decide (N.Nodup) && decide (N.take ps.length = ps) &&
  (ps.all fun x => decide (sc.names.lookup x = some .local) || decide (sc.names.lookup x = some .cell)) && (sc.names.all fun y => !decide (y.2 = .free))
theorem scB_ok {N ps : List Str} {sc : Scope} (h : scB N ps sc = true) : FnScope N ps sc := by
  simp only [scB, Bool.and_eq_true, decide_eq_true_eq, Bool.not_eq_true', List.all_eq_true, Bool.or_eq_true, decide_eq_false_iff_not] at h
  obtain ⟨⟨⟨⟨⟨⟨h1, h2⟩, h3⟩, h4⟩, h5⟩, h6⟩, h7⟩ := h
  exact ⟨h1, h2, h3, h4, h5, h6, h7⟩
def Df.ok (Γ : Gt) (x : Df) : Bool := agB Γ x.N x.d.scope x.fi.body x.d.body && scB x.N x.ps x.d.scope && decide (x.N.length = x.fi.nl) && decide (x.ps.length = x.fi.np) && x.d.dfl.isEmpty && x.d.kwd.isEmpty && decide (x.d.at_.2 = none)
/-- how its arguments come to its parameters -/
def BindP (d : He.DefD) (ps : List Str) : Prop := ∀ (kV doc pm : Value) (an : Option Addr) (cdv ct : Value) (us : List Value), us.length = ps.length → bindArgs (PySem.W.fnOf d.name d.qual d.params d.body d.scope .none kV doc pm an cdv ct) ⟨us, []⟩ = pure (ps.zip us)
/-- the program: defs, constants, tables -/
structure Pg where
  dfs : List Df
  cs : List (Str × D)
  ts : List (Str × List (Str × D))
def Pg.hk (p : Pg) : Hk := ⟨p.dfs.map (·.d), p.dfs.map (·.d.at_.1), p.cs, p.ts⟩
def Pg.gt (p : Pg) : Gt := ⟨p.hk.cn, p.hk.nm⟩
def Pg.fs (p : Pg) : List Fn := p.dfs.map (·.fi)
def Pg.ok (p : Pg) : Bool := p.dfs.all (Df.ok p.gt)
abbrev Pg.call (p : Pg) : Nat → Nat → List Sl → R (D × Bool × List D) := callN p.fs p.hk.cv

section
variable {p : Pg} {w : World} {K : PySem.W.Frag} {h : Heap} {mg : Str → Option Value} {P : Program} {base : Heap}
theorem pg_fun (ok : p.ok = true) (c : obsI p.hk K = valI p.hk w) {i : Nat} {x : Df} (hi : p.dfs[i]? = some x) : ∃ fd, FunD K x.d.name x.d.qual x.d.params x.d.body x.d.scope [] [] (faOf K p.hk.nm i) fd := by
  have hx := List.all_eq_true.mp ok x (List.mem_of_getElem? hi)
  simp only [Df.ok, Bool.and_eq_true, decide_eq_true_eq] at hx
  obtain ⟨⟨⟨_, h5⟩, h6⟩, h7⟩ := hx
  have hd : p.hk.fn[i]? = some x.d := by
    show (p.dfs.map (·.d))[i]? = _
    rw [List.getElem?_map, hi]; rfl
  obtain ⟨fd, F⟩ := says_fn c hd
  have e1 : x.d.dvs K = [] := by unfold He.DefD.dvs; rw [List.isEmpty_iff.mp h5]; rfl
  have e2 : x.d.kws K = [] := by unfold He.DefD.kws; rw [List.isEmpty_iff.mp h6]; rfl
  have e3 : He.fAd K x.d.at_ = faOf K p.hk.nm i := by
    unfold He.fAd faOf
    rw [h7, List.getD_eq_getElem?_getD]
    show He.ga K x.d.at_.1 = He.ga K (((p.dfs.map (·.d.at_.1))[i]?).getD "")
    rw [List.getElem?_map, hi]; rfl
  rw [e1, e2, e3] at F
  exact ⟨fd, F⟩
theorem pg_ok (ok : p.ok = true) (bd : ∀ (i : Nat) x, p.dfs[i]? = some x → BindP x.d x.ps) (X : K.In h) (G : h.Ns mainGlobals mg) (c : obsI p.hk K = valI p.hk w) :
    ∀ (n i : Nat) (x : Df) (fd : FuncData), p.dfs[i]? = some x → FunD K x.d.name x.d.qual x.d.params x.d.body x.d.scope [] [] (faOf K p.hk.nm i) fd → FnOk P w K mg base CX0 n (faOf K p.hk.nm i) fd x.ps (spF ⟨w, K, mg, faOf K p.hk.nm⟩ (p.call n i))
  | 0, i, x, fd, hi, F => by
    have no : ∀ vs H Q E, ¬ spF ⟨w, K, mg, faOf K p.hk.nm⟩ (p.call 0 i) vs H Q E := fun vs H Q E ⟨_, _, _, _, _, _, _, _, _, e, _⟩ => by
      have e : callN p.fs p.hk.cv 0 i _ = .ok _ := e
      simp only [callN] at e
      cases e
    exact ⟨fun vs H Q E z => absurd z (no vs H Q E), fun A outer s H args us vs Q E _ _ _ _ z => absurd z (no vs H Q E)⟩
  | n + 1, i, x, fd, hi, F => by
    have hx := List.all_eq_true.mp ok x (List.mem_of_getElem? hi)
    simp only [Df.ok, Bool.and_eq_true, decide_eq_true_eq] at hx
    obtain ⟨⟨⟨⟨⟨⟨h1, h2⟩, h3⟩, h4⟩, _⟩, _⟩, _⟩ := hx
    have hf : p.fs[i]? = some x.fi := by
      show (p.dfs.map (·.fi))[i]? = _
      rw [List.getElem?_map, hi]; rfl
    have ef : p.call (n + 1) i = run ⟨p.hk.cv, fun j => ((p.fs[j]?).map Fn.io).getD [], p.call n⟩ x.fi := by
      funext as
      show callN p.fs p.hk.cv (n + 1) i as = _
      simp only [callN, hf]
    rw [ef]
    refine fn_ok (Γ := p.gt) F (scB_ok h2) h1 h3 h4 (says_env X G c p.hk.nm) (fun k y hy => ?_) fun k as r e => ?_
    · have hy2 : p.hk.nm[k]? = some y := hy
      have hy3 : (p.dfs.map (·.d.at_.1))[k]? = some y := hy
      rw [List.getElem?_map] at hy3
      cases hz : p.dfs[k]? with
      | none => rw [hz] at hy3; cases hy3
      | some z =>
        obtain ⟨fd2, F2⟩ := pg_fun ok c hz
        refine ⟨says_nm X G c hy2, F2.kp, fd2, z.ps, F2.bindsN (bd k z hz), pg_ok ok bd X G c n k z fd2 hz F2⟩
    · have e : callN p.fs p.hk.cv n k as = .ok r := e
      cases n with
      | zero => simp only [callN] at e; cases e
      | succ n =>
        simp only [callN] at e
        split at e
        · rename_i f hf2
          have hf3 : (p.dfs.map (·.fi))[k]? = some f := hf2
          rw [List.getElem?_map] at hf3
          cases hz : p.dfs[k]? with
          | none => rw [hz] at hf3; cases hf3
          | some z =>
            refine ⟨z.d.at_.1, ?_⟩
            show (p.dfs.map (·.d.at_.1))[k]? = _
            rw [List.getElem?_map, hz]; rfl
        · cases e
end
/-- THE END: a law holds if its term gives True -/
theorem walk_iq {l : PySem.W.OpenLaw} {q : Program} {loose : List Str} {XP : (Str → Option Value) → Heap → Prop} {dr : DefRec} {p : Pg} {n i m : Nat} {x : Str} {df : Df} (hm : l.most = some m) (hm2 : m ≤ sizeLine) (hdf : dr.params.defaults = []) (hr : Room n callerA)
    (ok : p.ok = true) (bd : ∀ (i : Nat) x, p.dfs[i]? = some x → BindP x.d x.ps) (hi : p.dfs[i]? = some df) (hx : df.ps = [x]) (hn : dr.name = df.d.at_.1)
    (pure_ : ∀ ns : List Int, ns.length ≤ m → ∃ fr, p.call n i [.shr (.lst (ns.map .int))] = .ok (.bl true, fr, [])) :
    PySem.W.WalkO q loose XP (hookI 4 p.hk).says l.row.toRowW dr [] (fun f vs => PySem.call f vs) := by
  refine walk_ofE (x := x) (CX := CX0) hm hm2 hdf hr (fun w mg fa h ⟨K, X, nol, c⟩ G hmg => ?_) fun _ _ _ _ z => z
  obtain ⟨fd, F⟩ := pg_fun ok c hi
  have hnm : p.hk.nm[i]? = some df.d.at_.1 := by
    show (p.dfs.map (·.d.at_.1))[i]? = _
    rw [List.getElem?_map, hi]; rfl
  have e := says_nm X G c hnm
  rw [hn, e] at hmg
  obtain rfl : faOf K p.hk.nm i = fa := by injection hmg with z; injection z
  have b := F.bindsA (ps := df.ps) (bd i df hi)
  refine ⟨K, fd, spF ⟨w, K, mg, faOf K p.hk.nm⟩ (p.call n i), X, fun s u => ?_, fun H a ns hl hO hS => ?_, fun base KX GX => ?_⟩
  · have := b s [u] (by rw [hx]; rfl)
    rw [hx] at this
    exact this
  · obtain ⟨fr, ep⟩ := pure_ ns hl
    have hrd : Rd H a (.lst (ns.map V.int)) := by
      rcases hS with hS | ⟨o, _, _, ho, hc, _⟩
      · exact hS
      · exact absurd hc (nol a o ho)
    have rep : ∀ ns : List Int, RepL ⟨w, K, mg, faOf K p.hk.nm⟩ (fun _ => False) H (ns.map .int) (ns.map V.int) := by
      intro ns
      induction ns with
      | nil => simp only [List.map_nil, RepL]
      | cons n ns ih => simp only [List.map_cons, RepL]; exact ⟨_, _, rfl, rep_int, ih⟩
    have hrep : Rep ⟨w, K, mg, faOf K p.hk.nm⟩ (fun _ => False) H (.lst (ns.map .int)) (.ref a) := by
      simp only [Rep]
      exact ⟨a, _, rfl, ⟨hrd, fun z => z⟩, rep ns⟩
    refine ⟨fun _ => False, [.shr (.lst (ns.map .int))], [], _, fr, [], ⟨.ref a, [], rfl, hrep, rfl, rfl⟩, List.nodup_nil, fun _ z => z.elim, ep, fun v H' cl => ?_⟩
    · have := cl.r
      simpa only [Rep] using this
  · have := pg_ok (P := l.prog) (base := base) ok bd X G c n i df fd hi F
    rw [hx] at this
    exact this
end Iq
set_option Elab.async false
set_option linter.all false
set_option maxRecDepth 100000
set_option maxHeartbeats 4000000
namespace Iq
open PySem L2

/-! ### the feed -/
def feed (cells : List Int) (nx rest cnt : Int) : D := .dic [(.inr "cells", .lst (cells.map .int)), (.inr "next", .int nx), (.inr "rest", .int rest), (.inr "count", .int cnt)]
def dS0 : Sm := .set 0 (.con (.str "count")) (.bin .Add (.idx (.var 0) (.con (.str "count"))) (.con (.int 1)))
def dS1 : Sm := .ife (.at (.cmp .Gt (.idx (.var 0) (.con (.str "rest"))) (.con (.int 0)))) [.asg 2 (.bin .Mod (.bi .int (.idx (.var 0) (.con (.str "rest")))) (.var 1)),
      .set 0 (.con (.str "rest")) (.bin .FloorDiv (.idx (.var 0) (.con (.str "rest"))) (.var 1)),
      .ret (.var 2)] []
def dS2 : Sm := .par 3 4 (.idx (.var 0) (.con (.str "cells"))) (.idx (.var 0) (.con (.str "next")))
def dS3 : Sm := .set 0 (.con (.str "next")) (.bin .Add (.var 4) (.con (.int 1)))
def dS4 : Sm := .ife (.and (.at (.cmp .Lt (.var 4) (.bi .len (.var 3)))) (.at (.cmp .GtE (.idx (.var 3) (.var 4)) (.bin .Pow (.con (.int 10)) (.con (.int 18)))))) [.set 0 (.con (.str "rest")) (.bin .FloorDiv (.idx (.var 3) (.var 4)) (.var 1)),
      .ret (.bin .Mod (.bi .int (.idx (.var 3) (.var 4))) (.var 1))] []
def dS5 : Sm := .asg 5 (.ite (.at (.cmp .Gt (.bi .len (.var 3)) (.con (.int 0)))) (.idx (.var 3) (.bin .Mod (.bi .int (.var 4)) (.bi .len (.var 3)))) (.con (.int 271828)))
def mixer : List Sm := [
      .asg 6 (.bin .Mod (.bi .int (.bin .Add (.bin .Add (.bin .Mult (.bin .Mod (.bi .int (.var 5)) (.con (.int 1000003))) (.con (.int 3571))) (.bin .Mult (.idx (.var 0) (.con (.str "count"))) (.con (.int 104651)))) (.con (.int 19)))) (.con (.int 2147483629))),
      .asg 6 (.bin .Mod (.bi .int (.bin .Add (.bin .Add (.bin .Mult (.var 6) (.var 6)) (.bin .Mult (.idx (.var 0) (.con (.str "count"))) (.con (.int 7919)))) (.con (.int 101)))) (.con (.int 2147483587))),
      .asg 6 (.bin .Mod (.bi .int (.bin .Add (.bin .Add (.bin .Mult (.var 6) (.var 6)) (.bin .Mult (.con (.int 613)) (.var 6))) (.con (.int 7)))) (.con (.int 2147483563))),
      .ret (.bin .Mod (.bi .int (.bin .FloorDiv (.var 6) (.con (.int 128)))) (.var 1))]
def drawFn : Fn := ⟨2, 7, [true, false], dS0 :: dS1 :: dS2 :: dS3 :: dS4 :: dS5 :: mixer⟩
theorem feed_count {cells : List Int} {nx rest cnt : Int} : idxD (feed cells nx rest cnt) (.str "count") = .ok (.int cnt) := by rfl
theorem feed_rest {cells : List Int} {nx rest cnt : Int} : idxD (feed cells nx rest cnt) (.str "rest") = .ok (.int rest) := by rfl
theorem feed_next {cells : List Int} {nx rest cnt : Int} : idxD (feed cells nx rest cnt) (.str "next") = .ok (.int nx) := by rfl
theorem feed_cells {cells : List Int} {nx rest cnt : Int} : idxD (feed cells nx rest cnt) (.str "cells") = .ok (.lst (cells.map .int)) := by rfl
theorem put_count {cells : List Int} {nx rest cnt x : Int} : setD (feed cells nx rest cnt) (.str "count") (.int x) = .ok (feed cells nx rest x) := by rfl
theorem put_rest {cells : List Int} {nx rest cnt x : Int} : setD (feed cells nx rest cnt) (.str "rest") (.int x) = .ok (feed cells nx x cnt) := by rfl
theorem put_next {cells : List Int} {nx rest cnt x : Int} : setD (feed cells nx rest cnt) (.str "next") (.int x) = .ok (feed cells x rest cnt) := by rfl
theorem ev_nx {P : Pr} {s : Sm} {ss : List Sm} {ς ς1 : List Sl} {r : R (Fl × List Sl)} (h : evS P s ς = .ok (.nx, ς1)) (k : evB P ss ς1 = r) : evB P (s :: ss) ς = r := by
  simp only [evB, h, R.bind_ok, k]
theorem ev_rt {P : Pr} {s : Sm} {ss : List Sm} {ς ς1 : List Sl} {d : D} {fr : Bool} (h : evS P s ς = .ok (.rt d fr, ς1)) : evB P (s :: ss) ς = .ok (.rt d fr, ς1) := by
  simp only [evB, h, R.bind_ok]
theorem mod_ok {i j : Int} (h : 0 < j) : binD .Mod (.int i) (.int j) = .ok (.int (i % j), false) := by simp only [binD, h, if_true]
theorem div_ok {i j : Int} (h : 0 < j) (h2 : j < 1073741824) : binD .FloorDiv (.int i) (.int j) = .ok (.int (i / j), false) := by simp only [binD, h, h2, and_self, if_true]
theorem mul_ok1 {i j : Int} (h : -(2 ^ 64) < i) (h2 : i < 2 ^ 64) : binD .Mult (.int i) (.int j) = .ok (.int (i * j), false) := by
  simp only [binD, h, h2, decide_true, Bool.and_self, Bool.true_or, if_true]
theorem mul_ok2 {i j : Int} (h : -(2 ^ 64) < j) (h2 : j < 2 ^ 64) : binD .Mult (.int i) (.int j) = .ok (.int (i * j), false) := by
  simp only [binD, h, h2, decide_true, Bool.and_self, Bool.or_true, if_true]
theorem add_ok {i j : Int} : binD .Add (.int i) (.int j) = .ok (.int (i + j), false) := rfl
theorem mixer_go (P : Pr) {cells : List Int} {nx rest cnt many c : Int} {s2 s3 s4 s6 : Sl} (hm : 0 < many) :
    ∃ r s6', evB P mixer [.own true (feed cells nx rest cnt), .shr (.int many), s2, s3, s4, .shr (.int c), s6] = .ok (.rt (.int r) false, [.own true (feed cells nx rest cnt), .shr (.int many), s2, s3, s4, .shr (.int c), s6']) ∧ 0 ≤ r ∧ r < many := by
  obtain ⟨m1, e1, g1, g2⟩ : ∃ m1, ((c % 1000003 * 3571 + cnt * 104651 + 19) % 2147483629 : Int) = m1 ∧ 0 ≤ m1 ∧ m1 < 2147483629 := ⟨_, rfl, by omega, by omega⟩
  obtain ⟨m2, e2, g3, g4⟩ : ∃ m2, ((m1 * m1 + cnt * 7919 + 101) % 2147483587 : Int) = m2 ∧ 0 ≤ m2 ∧ m2 < 2147483587 := ⟨_, rfl, Int.emod_nonneg _ (by omega), Int.emod_lt_of_pos _ (by omega)⟩
  obtain ⟨m3, e3, g5, g6⟩ : ∃ m3, ((m2 * m2 + 613 * m2 + 7) % 2147483563 : Int) = m3 ∧ 0 ≤ m3 ∧ m3 < 2147483563 := ⟨_, rfl, Int.emod_nonneg _ (by omega), Int.emod_lt_of_pos _ (by omega)⟩
  have q1 : evS P (.asg 6 (.bin .Mod (.bi .int (.bin .Add (.bin .Add (.bin .Mult (.bin .Mod (.bi .int (.var 5)) (.con (.int 1000003))) (.con (.int 3571))) (.bin .Mult (.idx (.var 0) (.con (.str "count"))) (.con (.int 104651)))) (.con (.int 19)))) (.con (.int 2147483629)))) [.own true (feed cells nx rest cnt), .shr (.int many), s2, s3, s4, .shr (.int c), s6]
      = .ok (.nx, [.own true (feed cells nx rest cnt), .shr (.int many), s2, s3, s4, .shr (.int c), .shr (.int m1)]) := by
    simp [evS, evE, Iq.hd, deref, biD, mod_ok, feed_count, add_ok, mul_ok2, e1, R.bind_ok]
  have q2 : evS P (.asg 6 (.bin .Mod (.bi .int (.bin .Add (.bin .Add (.bin .Mult (.var 6) (.var 6)) (.bin .Mult (.idx (.var 0) (.con (.str "count"))) (.con (.int 7919)))) (.con (.int 101)))) (.con (.int 2147483587)))) [.own true (feed cells nx rest cnt), .shr (.int many), s2, s3, s4, .shr (.int c), .shr (.int m1)]
      = .ok (.nx, [.own true (feed cells nx rest cnt), .shr (.int many), s2, s3, s4, .shr (.int c), .shr (.int m2)]) := by
    have : binD .Mult (.int m1) (.int m1) = .ok (.int (m1 * m1), false) := mul_ok1 (by omega) (by omega)
    simp [evS, evE, Iq.hd, deref, biD, mod_ok, feed_count, add_ok, this, mul_ok2, e2, R.bind_ok]
  have q3 : evS P (.asg 6 (.bin .Mod (.bi .int (.bin .Add (.bin .Add (.bin .Mult (.var 6) (.var 6)) (.bin .Mult (.con (.int 613)) (.var 6))) (.con (.int 7)))) (.con (.int 2147483563)))) [.own true (feed cells nx rest cnt), .shr (.int many), s2, s3, s4, .shr (.int c), .shr (.int m2)]
      = .ok (.nx, [.own true (feed cells nx rest cnt), .shr (.int many), s2, s3, s4, .shr (.int c), .shr (.int m3)]) := by
    have : binD .Mult (.int m2) (.int m2) = .ok (.int (m2 * m2), false) := mul_ok1 (by omega) (by omega)
    simp [evS, evE, Iq.hd, deref, biD, mod_ok, add_ok, this, mul_ok1, e3, R.bind_ok]
  refine ⟨m3 / 128 % many, .shr (.int m3), ?_, Int.emod_nonneg _ (by omega), Int.emod_lt_of_pos _ hm⟩
  refine ev_nx q1 (ev_nx q2 (ev_nx q3 (ev_rt ?_)))
  simp [evS, evE, Iq.hd, deref, biD, mod_ok hm, div_ok, R.bind_ok]
section
variable (P : Pr) {cells : List Int} {nx rest cnt many : Int} {s2 s3 s4 s5 s6 : Sl}
theorem d0_go : evS P dS0 [.own true (feed cells nx rest cnt), .shr (.int many), s2, s3, s4, s5, s6] = .ok (.nx, [.own true (feed cells nx rest (cnt + 1)), .shr (.int many), s2, s3, s4, s5, s6]) := by
  simp [dS0, evS, evE, Iq.hd, deref, feed_count, put_count, R.bind_ok, isOwn, setSl, add_ok]
theorem d1_go (hm : 0 < many) (hm2 : many < 1073741824) (c : 0 < rest) : evS P dS1 [.own true (feed cells nx rest cnt), .shr (.int many), s2, s3, s4, s5, s6] = .ok (.rt (.int (rest % many)) false, [.own true (feed cells nx (rest / many) cnt), .shr (.int many), .shr (.int (rest % many)), s3, s4, s5, s6]) := by
  simp [dS1, evS, evB, evE, evT, Iq.hd, deref, feed_rest, put_rest, R.bind_ok, isOwn, setSl, cmpD, truth, c, mod_ok hm, div_ok hm hm2, biD]
theorem d1_no (c : ¬ 0 < rest) : evS P dS1 [.own true (feed cells nx rest cnt), .shr (.int many), s2, s3, s4, s5, s6] = .ok (.nx, [.own true (feed cells nx rest cnt), .shr (.int many), s2, s3, s4, s5, s6]) := by
  simp [dS1, evS, evB, evE, evT, Iq.hd, deref, feed_rest, R.bind_ok, cmpD, truth, c]
theorem d2_go : evS P dS2 [.own true (feed cells nx rest cnt), .shr (.int many), s2, s3, s4, s5, s6] = .ok (.nx, [.own true (feed cells nx rest cnt), .shr (.int many), s2, .shr (.lst (cells.map .int)), .shr (.int nx), s5, s6]) := by
  simp [dS2, evS, evL, evE, Iq.hd, deref, feed_cells, feed_next, R.bind_ok, setAll]
theorem d3_go {k : Int} : evS P dS3 [.own true (feed cells nx rest cnt), .shr (.int many), s2, s3, .shr (.int k), s5, s6] = .ok (.nx, [.own true (feed cells (k + 1) rest cnt), .shr (.int many), s2, s3, .shr (.int k), s5, s6]) := by
  simp [dS3, evS, evE, Iq.hd, deref, put_next, R.bind_ok, isOwn, setSl, add_ok]
theorem d4_go {k c : Int} (hm : 0 < many) (hm2 : many < 1073741824) (c2 : k < (cells.length : Nat)) (hc : idxD (.lst (cells.map .int)) (.int k) = .ok (.int c)) (c3 : (1000000000000000000 : Int) ≤ c) : evS P dS4 [.own true (feed cells nx rest cnt), .shr (.int many), s2, .shr (.lst (cells.map .int)), .shr (.int k), s5, s6] = .ok (.rt (.int (c % many)) false, [.own true (feed cells nx (c / many) cnt), .shr (.int many), s2, .shr (.lst (cells.map .int)), .shr (.int k), s5, s6]) := by
  have pw : binD .Pow (.int 10) (.int 18) = .ok (.int 1000000000000000000, false) := by simp [binD]
  simp [dS4, evS, evB, evE, evT, Iq.hd, deref, put_rest, R.bind_ok, isOwn, setSl, cmpD, ltD, truth, c2, hc, c3, pw, mod_ok hm, div_ok hm hm2, biD]
theorem d4_no {k : Int} (h : ¬ k < (cells.length : Nat) ∨ ∃ c, idxD (.lst (cells.map .int)) (.int k) = .ok (.int c) ∧ ¬ (1000000000000000000 : Int) ≤ c) : evS P dS4 [.own true (feed cells nx rest cnt), .shr (.int many), s2, .shr (.lst (cells.map .int)), .shr (.int k), s5, s6] = .ok (.nx, [.own true (feed cells nx rest cnt), .shr (.int many), s2, .shr (.lst (cells.map .int)), .shr (.int k), s5, s6]) := by
  have pw : binD .Pow (.int 10) (.int 18) = .ok (.int 1000000000000000000, false) := by simp [binD]
  by_cases c2 : k < (cells.length : Nat)
  · rcases h with h | ⟨c, hc, c3⟩
    · exact absurd c2 h
    · simp [dS4, evS, evB, evE, evT, Iq.hd, deref, R.bind_ok, cmpD, ltD, truth, c2, hc, c3, pw, biD]
  · simp [dS4, evS, evB, evE, evT, Iq.hd, deref, R.bind_ok, cmpD, ltD, truth, c2, biD]
theorem cell_at {i : Int} (g1 : 0 ≤ i) (g2 : i < (cells.length : Nat)) : ∃ c : Int, idxD (.lst (cells.map .int)) (.int i) = .ok (.int c) := by
  have h : (i.toNat : Nat) < cells.length := by omega
  refine ⟨cells[i.toNat], ?_⟩
  have : atI (cells.map D.int) i = some (.int cells[i.toNat]) := by
    unfold atI ixN
    simp [g1, g2, h]
  simp only [idxD, this]
theorem d5_go {k : Int} (h0 : 0 ≤ k) : ∃ c, evS P dS5 [.own true (feed cells nx rest cnt), .shr (.int many), s2, .shr (.lst (cells.map .int)), .shr (.int k), s5, s6] = .ok (.nx, [.own true (feed cells nx rest cnt), .shr (.int many), s2, .shr (.lst (cells.map .int)), .shr (.int k), .shr (.int c), s6]) := by
  by_cases hn : 0 < (cells.length : Int)
  · obtain ⟨c, hc⟩ := cell_at (cells := cells) (i := k % (cells.length : Nat)) (Int.emod_nonneg _ (by omega)) (Int.emod_lt_of_pos _ hn)
    refine ⟨c, ?_⟩
    have hn' : 0 < cells.length := by omega
    simp [dS5, evS, evE, evT, Iq.hd, deref, R.bind_ok, cmpD, truth, biD, hn', hc, mod_ok hn]
  · have : cells = [] := by
      cases cells with
      | nil => rfl
      | cons _ _ => simp at hn
    subst this
    exact ⟨271828, by simp [dS5, evS, evE, evT, Iq.hd, deref, R.bind_ok, cmpD, truth, biD]⟩
theorem draw_go (h0 : 0 ≤ nx) (hm : 0 < many) (hm2 : many < 1073741824) :
    ∃ r nx' rest' cnt', run P drawFn [.own true (feed cells nx rest cnt), .shr (.int many)] = .ok (.int r, false, [feed cells nx' rest' cnt']) ∧ 0 ≤ r ∧ r < many ∧ 0 ≤ nx' := by
  have fin : ∀ {r nx' rest' cnt' : Int} {t2 t3 t4 t5 t6 : Sl}, evB P (dS0 :: dS1 :: dS2 :: dS3 :: dS4 :: dS5 :: mixer) [.own true (feed cells nx rest cnt), .shr (.int many), .no, .no, .no, .no, .no] = .ok (.rt (.int r) false, [.own true (feed cells nx' rest' cnt'), .shr (.int many), t2, t3, t4, t5, t6]) →
      run P drawFn [.own true (feed cells nx rest cnt), .shr (.int many)] = .ok (.int r, false, [feed cells nx' rest' cnt']) := fun e => by
    simp [run, drawFn, ioFit, e, R.bind_ok, outs]
  by_cases c1 : 0 < rest
  · exact ⟨_, _, _, _, fin (ev_nx (d0_go P) (ev_rt (d1_go P hm hm2 c1))), Int.emod_nonneg _ (by omega), Int.emod_lt_of_pos _ hm, h0⟩
  by_cases c2 : nx < (cells.length : Nat) ∧ ∃ c, idxD (.lst (cells.map .int)) (.int nx) = .ok (.int c) ∧ (1000000000000000000 : Int) ≤ c
  · obtain ⟨c2, c, hc, c3⟩ := c2
    exact ⟨_, _, _, _, fin (ev_nx (d0_go P) (ev_nx (d1_no P c1) (ev_nx (d2_go P) (ev_nx (d3_go P) (ev_rt (d4_go P hm hm2 c2 hc c3)))))), Int.emod_nonneg _ (by omega), Int.emod_lt_of_pos _ hm, by omega⟩
  · have no : ¬ nx < (cells.length : Nat) ∨ ∃ c, idxD (.lst (cells.map .int)) (.int nx) = .ok (.int c) ∧ ¬ (1000000000000000000 : Int) ≤ c := by
      by_cases q : nx < (cells.length : Nat)
      · obtain ⟨c, hc⟩ := cell_at h0 q
        exact .inr ⟨c, hc, fun z => c2 ⟨q, c, hc, z⟩⟩
      · exact .inl q
    obtain ⟨c, e5⟩ := d5_go P (cells := cells) (nx := nx + 1) (rest := rest) (cnt := cnt + 1) (many := many) (s2 := .no) (s5 := .no) (s6 := .no) h0
    obtain ⟨r, s6', e, g1, g2⟩ := mixer_go P (cells := cells) (nx := nx + 1) (rest := rest) (cnt := cnt + 1) (many := many) (c := c) (s2 := .no) (s3 := .shr (.lst (cells.map .int))) (s4 := .shr (.int nx)) (s6 := .no) hm
    exact ⟨r, nx + 1, rest, cnt + 1, fin (ev_nx (d0_go P) (ev_nx (d1_no P c1) (ev_nx (d2_go P) (ev_nx (d3_go P) (ev_nx (d4_no P no) (ev_nx e5 e)))))), g1, g2, by omega⟩
end
end Iq
set_option Elab.async false
set_option linter.all false
set_option maxRecDepth 100000
set_option maxHeartbeats 4000000
namespace Iq
open PySem L2

/-! ### comprehensions and loops -/
section
variable {tst : List Sl → R (Bool × List Sl)} {el : List Sl → R (D × Bool × List Sl)} {t : Tg} {Inv : List Sl → Prop} {body : List Sl → R (Fl × List Sl)}
theorem lc_sat {Pd : D → Prop} : ∀ (xs : List D) (ς : List Sl), Inv ς →
    (∀ x ∈ xs, ∀ ς, Inv ς → ∃ ς1 b ς2, bindT t x (wipeS ς (tgS t)) = .ok ς1 ∧ tst ς1 = .ok (b, ς2) ∧ (b = false → Inv ς2) ∧ (b = true → ∃ d fr ς3, el ς2 = .ok (d, fr, ς3) ∧ Pd d ∧ Inv ς3)) →
    ∃ ds ς', lcGo tst el t xs ς = .ok (ds, ς') ∧ (∀ d ∈ ds, Pd d) ∧ ds.length ≤ xs.length ∧ Inv ς'
  | [], ς, h, _ => ⟨[], ς, rfl, by simp, by simp, h⟩
  | x :: xs, ς, h, st => by
    obtain ⟨ς1, b, ς2, e1, e2, g1, g2⟩ := st x (by simp) ς h
    cases b with
    | false =>
      obtain ⟨ds, ς', e3, p, l, i⟩ := lc_sat xs ς2 (g1 rfl) fun y hy => st y (List.mem_cons_of_mem _ hy)
      exact ⟨ds, ς', by simp only [lcGo, e1, R.bind_ok, e2, cond_false, e3], p, by simp; omega, i⟩
    | true =>
      obtain ⟨d, fr, ς3, e3, pd, i3⟩ := g2 rfl
      obtain ⟨ds, ς', e4, p, l, i⟩ := lc_sat xs ς3 i3 fun y hy => st y (List.mem_cons_of_mem _ hy)
      refine ⟨d :: ds, ς', by simp only [lcGo, e1, R.bind_ok, e2, cond_true, e3, e4], ?_, by simp; omega, i⟩
      intro z hz
      rcases List.mem_cons.mp hz with rfl | hz
      · exact pd
      · exact p z hz
theorem lc_all {Pd : D → Prop} : ∀ (xs : List D) (ς : List Sl), Inv ς →
    (∀ x ∈ xs, ∀ ς, Inv ς → ∃ ς1 ς2, bindT t x (wipeS ς (tgS t)) = .ok ς1 ∧ tst ς1 = .ok (true, ς2) ∧ ∃ d fr ς3, el ς2 = .ok (d, fr, ς3) ∧ Pd d ∧ Inv ς3) →
    ∃ ds ς', lcGo tst el t xs ς = .ok (ds, ς') ∧ (∀ d ∈ ds, Pd d) ∧ ds.length = xs.length ∧ Inv ς'
  | [], ς, h, _ => ⟨[], ς, rfl, by simp, by simp, h⟩
  | x :: xs, ς, h, st => by
    obtain ⟨ς1, ς2, e1, e2, d, fr, ς3, e3, pd, i3⟩ := st x (by simp) ς h
    obtain ⟨ds, ς', e4, p, l, i⟩ := lc_all xs ς3 i3 fun y hy => st y (List.mem_cons_of_mem _ hy)
    refine ⟨d :: ds, ς', by simp only [lcGo, e1, R.bind_ok, e2, cond_true, e3, e4], ?_, by simp; omega, i⟩
    intro z hz
    rcases List.mem_cons.mp hz with rfl | hz
    · exact pd
    · exact p z hz
theorem lc_fm {p : D → Bool} {g : D → D} : ∀ (xs : List D) (ς : List Sl), Inv ς →
    (∀ x ∈ xs, ∀ ς, Inv ς → ∃ ς1 ς2, bindT t x (wipeS ς (tgS t)) = .ok ς1 ∧ tst ς1 = .ok (p x, ς2) ∧ (p x = false → Inv ς2) ∧ (p x = true → ∃ fr ς3, el ς2 = .ok (g x, fr, ς3) ∧ Inv ς3)) →
    ∃ ς', lcGo tst el t xs ς = .ok ((xs.filter p).map g, ς') ∧ Inv ς'
  | [], ς, h, _ => ⟨ς, rfl, h⟩
  | x :: xs, ς, h, st => by
    obtain ⟨ς1, ς2, e1, e2, g1, g2⟩ := st x (by simp) ς h
    cases b : p x with
    | false =>
      obtain ⟨ς', e3, i⟩ := lc_fm xs ς2 (g1 b) fun y hy => st y (List.mem_cons_of_mem _ hy)
      exact ⟨ς', by simp only [lcGo, e1, R.bind_ok, e2, b, cond_false, e3, List.filter_cons, Bool.false_eq_true, if_false], i⟩
    | true =>
      obtain ⟨fr, ς3, e3, i3⟩ := g2 b
      obtain ⟨ς', e4, i⟩ := lc_fm xs ς3 i3 fun y hy => st y (List.mem_cons_of_mem _ hy)
      exact ⟨ς', by simp only [lcGo, e1, R.bind_ok, e2, b, cond_true, e3, e4, List.filter_cons, if_true, List.map_cons], i⟩
theorem for_sat {Iv : Nat → List Sl → Prop} : ∀ (xs : List D) (i : Nat) (ς : List Sl), Iv i ς →
    (∀ x ∈ xs, ∀ i ς, Iv i ς → ∃ ς1 ς2, bindT t x ς = .ok ς1 ∧ body ς1 = .ok (.nx, ς2) ∧ Iv (i + 1) ς2) → ∃ ς', forGo t body xs ς = .ok (.nx, ς') ∧ Iv (i + xs.length) ς'
  | [], i, ς, h, _ => ⟨ς, rfl, h⟩
  | x :: xs, i, ς, h, st => by
    obtain ⟨ς1, ς2, e1, e2, g⟩ := st x (by simp) i ς h
    obtain ⟨ς', e3, i'⟩ := for_sat xs (i + 1) ς2 g fun y hy => st y (List.mem_cons_of_mem _ hy)
    refine ⟨ς', by simp only [forGo, e1, R.bind_ok, e2, e3], ?_⟩
    have : i + 1 + xs.length = i + (x :: xs).length := by simp; omega
    rw [← this]; exact i'
end

theorem ev_comp {P : Pr} {e : Ex} {t : Tg} {k : Ik} {ss : List Ex} {c : Option Tx} {ς ς1 ς2 : List Sl} {rs xs ds : List D} (e1 : evL P ss ς = .ok (rs, ς1)) (e2 : walk k rs = .ok xs) (e3 : (tgS t).any (isOwn ς1) = false) (e4 : lcGo (evQ P c) (evE P e) t xs ς1 = .ok (ds, ς2)) :
    evE P (.comp e t k ss c) ς = .ok (.lst ds, true, backS ς1 (tgS t) ς2) := by
  simp only [evE.eq_23, e1, R.bind_ok, e2, e3, cond_false, e4]

/-! ### the feed and what is drawn of it -/
def Fd (d : D) : Prop := ∃ cells nx rest cnt, d = feed cells nx rest cnt ∧ 0 ≤ nx
def Draws (P : Pr) (k : Nat) : Prop := P.io k = [true, false] ∧ ∀ f (m : Int), Fd f → 0 < m → m < 1073741824 → ∃ r f', P.fn k [.own true f, .shr (.int m)] = .ok (.int r, false, [f']) ∧ 0 ≤ r ∧ r < m ∧ Fd f'
theorem draws_of {fs : List Fn} {cs : List D} {n k : Nat} (h : fs[k]? = some drawFn) : Draws ⟨cs, fun j => ((fs[j]?).map Fn.io).getD [], callN fs cs (n + 1)⟩ k := by
  refine ⟨by simp [h, drawFn], fun f m ⟨cells, nx, rest, cnt, e, h0⟩ h1 h2 => ?_⟩
  subst e
  obtain ⟨r, nx', rest', cnt', e, g1, g2, g3⟩ := draw_go ⟨cs, fun j => ((fs[j]?).map Fn.io).getD [], callN fs cs n⟩ (cells := cells) (rest := rest) (cnt := cnt) h0 h1 h2
  exact ⟨r, _, by simp only [callN, h]; exact e, g1, g2, _, _, _, _, rfl, g3⟩
def feedFn : Fn := ⟨1, 2, [], [.ret (.dct ["cells", "next", "rest", "count"] [(.comp (.bi .int (.var 1)) (.nm 1) .seq [(.sli (.var 0) none (some (.con (.int 63))))] none), (.con (.int 0)), (.con (.int 0)), (.con (.int 0))])]⟩
theorem feed_go (P : Pr) (ns : List Int) : ∃ f, Fd f ∧ run P feedFn [.shr (.lst (ns.map .int))] = .ok (f, true, []) := by
  refine ⟨feed (ns.take 63) 0 0 0, ⟨_, _, _, _, rfl, by omega⟩, ?_⟩
  have cut : cutL (ns.map D.int) none (some 63) = (ns.take 63).map .int := by
    unfold cutL
    simp only [HT.sIx_none, List.drop_zero, Nat.sub_zero]
    rw [show ((63 : Int)) = ((63 : Nat) : Int) from rfl, HT.sIx_nat, ← List.map_take]
    simp only [List.length_map]
    congr 1
    rw [List.take_eq_take_iff]
    omega
  obtain ⟨ς', e, i⟩ := lc_fm (tst := evQ P none) (el := evE P (.bi .int (.var 1))) (t := .nm 1) (Inv := fun ς => ∃ s, ς = [.shr (.lst (ns.map .int)), s]) (p := fun _ => true) (g := id) ((ns.take 63).map .int) [.shr (.lst (ns.map .int)), .no] ⟨_, rfl⟩ fun x hx ς ⟨s, hs⟩ => by
    subst hs
    obtain ⟨i, _, rfl⟩ := List.mem_map.mp hx
    refine ⟨_, _, rfl, rfl, fun h => (Bool.noConfusion h), fun _ => ⟨_, _, rfl, _, rfl⟩⟩
  obtain ⟨s, rfl⟩ := i
  have e' := ev_comp (P := P) (ss := [(.sli (.var 0) none (some (.con (.int 63))))]) (ς := [.shr (.lst (ns.map .int)), .no]) (k := .seq) (c := none) (rs := [.lst ((ns.take 63).map .int)]) (ς1 := [.shr (.lst (ns.map .int)), .no]) (by simp [-List.map_take, evL, evE.eq_17, evE.eq_1, evE.eq_2, evO, Iq.hd, deref, R.bind_ok, sliD, intOf, cut]) rfl rfl e
  simp [run, feedFn, ioFit, evB, evS, evE.eq_7, evE.eq_2, evL, R.bind_ok, e', outs, backS, tgS, feed, List.filter_eq_self.mpr]
def pickFn (k : Nat) : Fn := ⟨2, 2, [true, false], [.ret (.idx (.var 1) (.call k [(.var 0), (.bi .len (.var 1))]))]⟩
theorem pick_len {P : Pr} {k : Nat} (h : Draws P k) {f x : D} {n : Int} (hf : Fd f) (e : biD .len x = .ok (.int n, false)) (h1 : 0 < n) (h2 : n < 1073741824) :
    ∃ r f', Fd f' ∧ 0 ≤ r ∧ r < n ∧ ∀ y, idxD x (.int r) = .ok y → run P (pickFn k) [.own true f, .shr x] = .ok (y, false, [f']) := by
  obtain ⟨r, f', e2, g1, g2, g3⟩ := h.2 f n hf h1 h2
  refine ⟨r, f', g3, g1, g2, fun y hy => ?_⟩
  simp [run, pickFn, ioFit, evB, evS, evE, evA, h.1, Iq.hd, deref, R.bind_ok, e, callG, hdS, argsS, argS, e2, putOuts, setOwn, hy, outs]
theorem at_some {α : Type} {xs : List α} {r : Int} (h1 : 0 ≤ r) (h2 : r < (xs.length : Nat)) : ∃ y ∈ xs, atI xs r = some y := by
  have h : (r.toNat : Nat) < xs.length := by omega
  refine ⟨xs[r.toNat], List.getElem_mem h, ?_⟩
  unfold atI ixN
  simp [h1, h2, h]
theorem pick_lst {P : Pr} {k : Nat} (h : Draws P k) {f : D} {xs : List D} (hf : Fd f) (h1 : 0 < xs.length) (h2 : xs.length < 1073741824) :
    ∃ y f', y ∈ xs ∧ Fd f' ∧ run P (pickFn k) [.own true f, .shr (.lst xs)] = .ok (y, false, [f']) := by
  obtain ⟨r, f', g, r1, r2, e⟩ := pick_len h hf (x := .lst xs) (n := xs.length) rfl (by omega) (by omega)
  obtain ⟨y, hy, e2⟩ := at_some r1 r2
  exact ⟨y, f', hy, g, e y (by simp only [idxD, e2])⟩
theorem pick_str {P : Pr} {k : Nat} (h : Draws P k) {f : D} {z : Str} (hf : Fd f) (h1 : 0 < z.length) (h2 : z.length ≤ sizeLine) :
    ∃ c f', c ∈ z.cps.toList ∧ Fd f' ∧ run P (pickFn k) [.own true f, .shr (.str z)] = .ok (.str ⟨#[c]⟩, false, [f']) := by
  have hz : sizeLine = 16777216 := sizeLine_eq
  obtain ⟨r, f', g, r1, r2, e⟩ := pick_len h hf (x := .str z) (n := z.length) (by simp only [biD, h2, if_true]) (by omega) (by omega)
  have hl : z.cps.toList.length = z.length := by simp [Str.length]
  obtain ⟨y, hy, e2⟩ := at_some (xs := z.cps.toList) r1 (by rw [hl]; exact r2)
  exact ⟨y, f', hy, g, e _ (by simp only [idxD, h2, if_true, e2])⟩

/-! ### small data -/
def okS (l : Nat) (x : Str) : Bool := decide (x.length ≤ l) && PyData.strOk x
def okB (l : Nat) : Nat → D → Bool
  | _, .non => true
  | _, .bl _ => true
  | _, .int _ => true
  | _, .str x => okS l x
  | k + 1, .tup xs => decide (xs.length ≤ l) && xs.all (okB l k)
  | k + 1, .lst xs => decide (xs.length ≤ l) && xs.all (okB l k)
  | _, _ => false
theorem okS_mono {l l' : Nat} {x : Str} (h : okS l x = true) (hl : l ≤ l') : okS l' x = true := by
  simp only [okS, Bool.and_eq_true, decide_eq_true_eq] at h ⊢
  exact ⟨by omega, h.2⟩
theorem okB_mono {l l' : Nat} (hl : l ≤ l') : ∀ {k k' : Nat} {d : D}, k ≤ k' → okB l k d = true → okB l' k' d = true
  | _, _, .non, _, _ => by simp only [okB]
  | _, _, .bl _, _, _ => by simp only [okB]
  | _, _, .int _, _, _ => by simp only [okB]
  | _, _, .str x, _, h => by simp only [okB] at h ⊢; exact okS_mono h hl
  | 0, _, .tup _, _, h => by simp only [okB] at h; cases h
  | 0, _, .lst _, _, h => by simp only [okB] at h; cases h
  | k + 1, 0, .tup _, hk, _ => by omega
  | k + 1, 0, .lst _, hk, _ => by omega
  | k + 1, k' + 1, .tup xs, hk, h => by
    simp only [okB, Bool.and_eq_true, decide_eq_true_eq, List.all_eq_true] at h ⊢
    exact ⟨by omega, fun x hx => okB_mono hl (by omega) (h.2 x hx)⟩
  | k + 1, k' + 1, .lst xs, hk, h => by
    simp only [okB, Bool.and_eq_true, decide_eq_true_eq, List.all_eq_true] at h ⊢
    exact ⟨by omega, fun x hx => okB_mono hl (by omega) (h.2 x hx)⟩
  | 0, _, .dic _, _, h => by simp only [okB] at h; cases h
  | _ + 1, _, .dic _, _, h => by simp only [okB] at h; cases h
  | 0, _, .fn _, _, h => by simp only [okB] at h; cases h
  | _ + 1, _, .fn _, _, h => by simp only [okB] at h; cases h
theorem all_py {l k : Nat} (ih : ∀ d, okB l k d = true → ∃ p, d.py = some p ∧ p.canLay0 = true ∧ p.depth ≤ k) : ∀ (xs : List D), xs.all (okB l k) = true → ∃ ps, D.pyL xs = some ps ∧ PyData.canLayAll0 ps = true ∧ PyData.depthAll ps ≤ k
  | [], _ => ⟨[], by simp only [D.pyL], by simp only [PyData.canLayAll0], by simp [PyData.depthAll]⟩
  | x :: xs, h => by
    simp only [List.all_cons, Bool.and_eq_true] at h
    obtain ⟨p, e1, c1, d1⟩ := ih x h.1
    obtain ⟨ps, e2, c2, d2⟩ := all_py ih xs h.2
    refine ⟨p :: ps, by simp only [D.pyL, e1, e2], by simp only [PyData.canLayAll0, c1, c2, Bool.and_self], ?_⟩
    simp only [PyData.depthAll]
    omega
theorem ok_py {l : Nat} : ∀ {k : Nat} (d : D), okB l k d = true → ∃ p, d.py = some p ∧ p.canLay0 = true ∧ p.depth ≤ k
  | k, .non, _ => ⟨.none, by simp only [D.py], by simp only [PyData.canLay0], by simp [PyData.depth]⟩
  | k, .bl b, _ => ⟨.bool b, by simp only [D.py], by simp only [PyData.canLay0], by simp [PyData.depth]⟩
  | k, .int b, _ => ⟨.int b, by simp only [D.py], by simp only [PyData.canLay0], by simp [PyData.depth]⟩
  | k, .str x, h => by
    simp only [okB, okS, Bool.and_eq_true] at h
    exact ⟨.str x, by simp only [D.py], by simp only [PyData.canLay0]; exact h.2, by simp [PyData.depth]⟩
  | 0, .tup _, h => by simp only [okB] at h; cases h
  | 0, .lst _, h => by simp only [okB] at h; cases h
  | k + 1, .tup xs, h => by
    simp only [okB, Bool.and_eq_true] at h
    obtain ⟨ps, e, c, d⟩ := all_py (fun d hd => ok_py d hd) xs h.2
    exact ⟨.tuple ps, by simp only [D.py, e, Option.map_some], by simp only [PyData.canLay0]; exact c, by simp only [PyData.depth]; omega⟩
  | k + 1, .lst xs, h => by
    simp only [okB, Bool.and_eq_true] at h
    obtain ⟨ps, e, c, d⟩ := all_py (fun d hd => ok_py d hd) xs h.2
    exact ⟨.list ps, by simp only [D.py, e, Option.map_some], by simp only [PyData.canLay0]; exact c, by simp only [PyData.depth]; omega⟩
  | 0, .dic _, h => by simp only [okB] at h; cases h
  | _ + 1, .dic _, h => by simp only [okB] at h; cases h
  | 0, .fn _, h => by simp only [okB] at h; cases h
  | _ + 1, .fn _, h => by simp only [okB] at h; cases h
theorem ok_shaped {l k : Nat} {d : D} (h : okB l k d = true) (hk : k ≤ 64) : ∃ p, d.py = some p ∧ SeqAt.shaped p = true := by
  obtain ⟨p, e, c, dp⟩ := ok_py d h
  exact ⟨p, e, by simp only [SeqAt.shaped, c, Bool.true_and, decide_eq_true_eq]; omega⟩
end Iq
set_option Elab.async false
set_option linter.all false
set_option maxRecDepth 100000
set_option maxHeartbeats 4000000
namespace Iq
open PySem L2
/-! ### closed expressions -/
def getO : O → Option D
  | .ok r => some r.1
  | .bad => none
mutual
def clo : Ex → Option D
  | .con d => some d
  | .tup es => (cloL es).map .tup
  | .lst es => (cloL es).map .lst
  | .neg e => match clo e with
    | some (.int i) => some (.int (-i))
    | _ => none
  | .bin op a b => match clo a, clo b with
    | some x, some y => getO (binD op x y)
    | _, _ => none
  | _ => none
def cloL : List Ex → Option (List D)
  | [] => some []
  | e :: es => match clo e, cloL es with
    | some d, some ds => some (d :: ds)
    | _, _ => none
end
theorem clo_hd {P : Pr} {e : Ex} {d : D} {fr : Bool} {ς : List Sl} (h : clo e = some d) (k : evE P e ς = .ok (d, fr, ς)) : Iq.hd e (evE P e) ς = .ok (.val d, ς) := by
  cases e with
  | var i => simp only [clo] at h; cases h
  | _ => simp only [Iq.hd, k, R.bind_ok]
mutual
theorem clo_ok {P : Pr} : ∀ {e : Ex} {d : D}, clo e = some d → ∀ ς, ∃ fr, evE P e ς = .ok (d, fr, ς)
  | .con d, _, h, ς => by simp only [clo] at h; cases h; exact ⟨false, by simp only [evE]⟩
  | .tup es, d, h, ς => by
    simp only [clo] at h
    obtain ⟨ds, e1, rfl⟩ := Option.map_eq_some_iff.mp h
    exact ⟨false, by simp only [evE, cloL_ok e1 ς, R.bind_ok]⟩
  | .lst es, d, h, ς => by
    simp only [clo] at h
    obtain ⟨ds, e1, rfl⟩ := Option.map_eq_some_iff.mp h
    exact ⟨true, by simp only [evE, cloL_ok e1 ς, R.bind_ok]⟩
  | .neg e, d, h, ς => by
    simp only [clo] at h
    split at h
    · rename_i i e1
      cases h
      obtain ⟨fr, e2⟩ := clo_ok (P := P) e1 ς
      exact ⟨false, by simp only [evE, clo_hd e1 e2, R.bind_ok, deref, intOf]⟩
    · cases h
  | .bin op a b, d, h, ς => by
    simp only [clo] at h
    split at h
    · rename_i x y e1 e2
      obtain ⟨f1, g1⟩ := clo_ok (P := P) e1 ς
      obtain ⟨f2, g2⟩ := clo_ok (P := P) e2 ς
      cases q : binD op x y with
      | bad => rw [q] at h; cases h
      | ok o =>
        rw [q] at h
        cases h
        exact ⟨o.2, by simp only [evE, clo_hd e1 g1, clo_hd e2 g2, R.bind_ok, deref, q]⟩
    · cases h
  | .var _, _, h, _ => by simp only [clo] at h; cases h
  | .glo _, _, h, _ => by simp only [clo] at h; cases h
  | .fnv _, _, h, _ => by simp only [clo] at h; cases h
  | .dct _ _, _, h, _ => by simp only [clo] at h; cases h
  | .nt _, _, h, _ => by simp only [clo] at h; cases h
  | .and _ _, _, h, _ => by simp only [clo] at h; cases h
  | .or _ _, _, h, _ => by simp only [clo] at h; cases h
  | .ite _ _ _, _, h, _ => by simp only [clo] at h; cases h
  | .cmp _ _ _, _, h, _ => by simp only [clo] at h; cases h
  | .chn _ _ _ _ _, _, h, _ => by simp only [clo] at h; cases h
  | .idx _ _, _, h, _ => by simp only [clo] at h; cases h
  | .sli _ _ _, _, h, _ => by simp only [clo] at h; cases h
  | .call _ _, _, h, _ => by simp only [clo] at h; cases h
  | .calv _ _, _, h, _ => by simp only [clo] at h; cases h
  | .bi _ _, _, h, _ => by simp only [clo] at h; cases h
  | .isi _ _, _, h, _ => by simp only [clo] at h; cases h
  | .join _ _, _, h, _ => by simp only [clo] at h; cases h
  | .comp _ _ _ _ _, _, h, _ => by simp only [clo] at h; cases h
theorem cloL_ok {P : Pr} : ∀ {es : List Ex} {ds : List D}, cloL es = some ds → ∀ ς, evL P es ς = .ok (ds, ς)
  | [], _, h, ς => by simp only [cloL] at h; cases h; simp only [evL]
  | e :: es, ds, h, ς => by
    simp only [cloL] at h
    split at h
    · rename_i d ds' e1 e2
      cases h
      obtain ⟨fr, g1⟩ := clo_ok (P := P) e1 ς
      simp only [evL, g1, R.bind_ok, cloL_ok e2 ς]
    · cases h
end
/-- closed, small, n items -/
def okL (l k n : Nat) (es : List Ex) : Bool := match cloL es with
  | some ds => decide (ds.length = n) && ds.all (okB l k)
  | none => false
theorem okL_is {l k n : Nat} {es : List Ex} (h : okL l k n es = true) : ∃ ds, cloL es = some ds ∧ ds.length = n ∧ ∀ d ∈ ds, okB l k d = true := by
  unfold okL at h
  split at h
  · rename_i ds e
    simp only [Bool.and_eq_true, decide_eq_true_eq, List.all_eq_true] at h
    exact ⟨ds, e, h.1, h.2⟩
  · cases h
theorem asg_lst {P : Pr} {i : Nat} {es : List Ex} {ds : List D} (h : cloL es = some ds) (ς : List Sl) : evS P (.asg i (.lst es)) ς = .ok (.nx, ς.set i (.own false (.lst ds))) := by
  simp only [evS, evE, cloL_ok h ς, R.bind_ok, cond_true]
theorem ext_lst {P : Pr} {i : Nat} {es : List Ex} {ds as : List D} {b : Bool} {ς : List Sl} (h : cloL es = some ds) (hi : ς[i]? = some (.own b (.lst as))) (hl : as.length + ds.length ≤ 10000) : evS P (.ext i (.lst es)) ς = .ok (.nx, ς.set i (.own b (.lst (as ++ ds)))) := by
  have hz : as.length + ds.length ≤ sizeLine := by
    have : sizeLine = 16777216 := sizeLine_eq
    omega
  simp only [evS, isOwnL, hi, cond_true, evE, cloL_ok h ς, R.bind_ok, extG, setSl, extD, hz, if_true]
end Iq
set_option Elab.async false
set_option linter.all false
set_option maxRecDepth 100000
set_option maxHeartbeats 0
namespace Q
open PySem L2 Iq
def top (i : Nat) : Stmt := PySem.Challenge.pw_forkyields_k66_events.main.body.getD i (.Pass ⟨0, 0, 0, 0⟩)
def mk (x : Str) (i : Nat) : He.DefD := ⟨(x, none), x, x, defArgs (top i), defBody (top i), defScope (top i), [], []⟩
/-- is_integer -/
def f0 : Fn := ⟨1, 1, [], [.ret (.and (.isi (.var 0) [.int]) (.nt (.isi (.var 0) [.bool])))]⟩
def d0 : Df := ⟨mk "is_integer" 5, ["thing"], ["thing"], f0⟩
theorem b0 : BindP d0.d d0.ps := fun _ _ _ _ _ _ us hl => match us, hl with | [_], _ => rfl
/-- is_number -/
def f1 : Fn := ⟨1, 1, [], [.ret (.and (.call 0 [(.var 0)]) (.cmp .GtE (.var 0) (.con (.int 0))))]⟩
def d1 : Df := ⟨mk "is_number" 6, ["thing"], ["thing"], f1⟩
theorem b1 : BindP d1.d d1.ps := fun _ _ _ _ _ _ us hl => match us, hl with | [_], _ => rfl
/-- is_name -/
def f2 : Fn := ⟨1, 2, [], [.ife (.or (.nt (.at (.isi (.var 0) [.str]))) (.nt (.at (.chn .LtE .LtE (.con (.int 1)) (.bi .len (.var 0)) (.glo 1))))) [.ret (.con (.bl false))] [],
      .ret (.bi .all (.comp (.cmp .In (.var 1) (.glo 0)) (.nm 1) .seq [(.var 0)] none))]⟩
def d2 : Df := ⟨mk "is_name" 7, ["thing", "sign"], ["thing"], f2⟩
theorem b2 : BindP d2.d d2.ps := fun _ _ _ _ _ _ us hl => match us, hl with | [_], _ => rfl
/-- is_tuple_of -/
def f3 : Fn := ⟨2, 2, [], [.ret (.and (.isi (.var 0) [.tuple]) (.cmp .Eq (.bi .len (.var 0)) (.var 1)))]⟩
def d3 : Df := ⟨mk "is_tuple_of" 8, ["thing", "many"], ["thing", "many"], f3⟩
theorem b3 : BindP d3.d d3.ps := fun _ _ _ _ _ _ us hl => match us, hl with | [_, _], _ => rfl
/-- is_step -/
def f4 : Fn := ⟨1, 1, [], [.ife (.or (.nt (.at (.call 3 [(.var 0), (.con (.int 3))]))) (.nt (.at (.call 1 [(.idx (.var 0) (.con (.int 0)))])))) [.ret (.con (.bl false))] [],
      .ife (.or (.nt (.at (.isi (.idx (.var 0) (.con (.int 1))) [.str]))) (.at (.cmp .NotIn (.idx (.var 0) (.con (.int 1))) (.glo 2)))) [.ret (.con (.bl false))] [],
      .ife (.at (.cmp .In (.idx (.var 0) (.con (.int 1))) (.glo 3))) [.ret (.call 1 [(.idx (.var 0) (.con (.int 2)))])] [],
      .ret (.and (.call 0 [(.idx (.var 0) (.con (.int 2)))]) (.cmp .Eq (.idx (.var 0) (.con (.int 2))) (.neg (.con (.int 1)))))]⟩
def d4 : Df := ⟨mk "is_step" 9, ["thing"], ["thing"], f4⟩
theorem b4 : BindP d4.d d4.ps := fun _ _ _ _ _ _ us hl => match us, hl with | [_], _ => rfl
/-- is_guard -/
def f5 : Fn := ⟨1, 1, [], [.ret (.and (.isi (.var 0) [.str]) (.cmp .In (.var 0) (.glo 4)))]⟩
def d5 : Df := ⟨mk "is_guard" 12, ["thing"], ["thing"], f5⟩
theorem b5 : BindP d5.d d5.ps := fun _ _ _ _ _ _ us hl => match us, hl with | [_], _ => rfl
/-- is_event -/
def f6 : Fn := ⟨1, 6, [], [.ife (.or (.nt (.at (.isi (.var 0) [.tuple]))) (.or (.at (.cmp .Eq (.var 0) (.tup []))) (.or (.nt (.at (.isi (.idx (.var 0) (.con (.int 0))) [.str]))) (.at (.cmp .NotIn (.idx (.var 0) (.con (.int 0))) (.glo 5)))))) [.ret (.con (.bl false))] [],
      .star 1 2 (.var 0),
      .asg 3 (.idx (.glo 5) (.var 1)),
      .ret (.and (.cmp .Eq (.bi .len (.var 2)) (.bi .len (.var 3))) (.bi .all (.comp (.calv 4 [(.var 5)]) (.tp [4, 5]) .zip [(.var 3), (.var 2)] none)))]⟩
def d6 : Df := ⟨mk "is_event" 14, ["thing", "head", "parts", "checks", "check", "part"], ["thing"], f6⟩
theorem b6 : BindP d6.d d6.ps := fun _ _ _ _ _ _ us hl => match us, hl with | [_], _ => rfl
/-- _law_feed -/
def f7 : Fn := ⟨1, 2, [], [.ret (.dct ["cells", "next", "rest", "count"] [(.comp (.bi .int (.var 1)) (.nm 1) .seq [(.sli (.var 0) none (some (.con (.int 63))))] none), (.con (.int 0)), (.con (.int 0)), (.con (.int 0))])]⟩
def d7 : Df := ⟨mk "_law_feed" 16, ["_law_script", "_law_cell"], ["_law_script"], f7⟩
theorem b7 : BindP d7.d d7.ps := fun _ _ _ _ _ _ us hl => match us, hl with | [_], _ => rfl
/-- _law_draw -/
def f8 : Fn := ⟨2, 7, [true, false], [.set 0 (.con (.str "count")) (.bin .Add (.idx (.var 0) (.con (.str "count"))) (.con (.int 1))),
      .ife (.at (.cmp .Gt (.idx (.var 0) (.con (.str "rest"))) (.con (.int 0)))) [.asg 2 (.bin .Mod (.bi .int (.idx (.var 0) (.con (.str "rest")))) (.var 1)),
      .set 0 (.con (.str "rest")) (.bin .FloorDiv (.idx (.var 0) (.con (.str "rest"))) (.var 1)),
      .ret (.var 2)] [],
      .par 3 4 (.idx (.var 0) (.con (.str "cells"))) (.idx (.var 0) (.con (.str "next"))),
      .set 0 (.con (.str "next")) (.bin .Add (.var 4) (.con (.int 1))),
      .ife (.and (.at (.cmp .Lt (.var 4) (.bi .len (.var 3)))) (.at (.cmp .GtE (.idx (.var 3) (.var 4)) (.bin .Pow (.con (.int 10)) (.con (.int 18)))))) [.set 0 (.con (.str "rest")) (.bin .FloorDiv (.idx (.var 3) (.var 4)) (.var 1)),
      .ret (.bin .Mod (.bi .int (.idx (.var 3) (.var 4))) (.var 1))] [],
      .asg 5 (.ite (.at (.cmp .Gt (.bi .len (.var 3)) (.con (.int 0)))) (.idx (.var 3) (.bin .Mod (.bi .int (.var 4)) (.bi .len (.var 3)))) (.con (.int 271828))),
      .asg 6 (.bin .Mod (.bi .int (.bin .Add (.bin .Add (.bin .Mult (.bin .Mod (.bi .int (.var 5)) (.con (.int 1000003))) (.con (.int 3571))) (.bin .Mult (.idx (.var 0) (.con (.str "count"))) (.con (.int 104651)))) (.con (.int 19)))) (.con (.int 2147483629))),
      .asg 6 (.bin .Mod (.bi .int (.bin .Add (.bin .Add (.bin .Mult (.var 6) (.var 6)) (.bin .Mult (.idx (.var 0) (.con (.str "count"))) (.con (.int 7919)))) (.con (.int 101)))) (.con (.int 2147483587))),
      .asg 6 (.bin .Mod (.bi .int (.bin .Add (.bin .Add (.bin .Mult (.var 6) (.var 6)) (.bin .Mult (.con (.int 613)) (.var 6))) (.con (.int 7)))) (.con (.int 2147483563))),
      .ret (.bin .Mod (.bi .int (.bin .FloorDiv (.var 6) (.con (.int 128)))) (.var 1))]⟩
def d8 : Df := ⟨mk "_law_draw" 17, ["_law_feed_here", "_law_many", "_law_digit", "_law_cells", "_law_k", "_law_cell", "_law_mixed"], ["_law_feed_here", "_law_many"], f8⟩
theorem b8 : BindP d8.d d8.ps := fun _ _ _ _ _ _ us hl => match us, hl with | [_, _], _ => rfl
/-- _law_pick -/
def f9 : Fn := ⟨2, 2, [true, false], [.ret (.idx (.var 1) (.call 8 [(.var 0), (.bi .len (.var 1))]))]⟩
def d9 : Df := ⟨mk "_law_pick" 18, ["_law_feed_here", "_law_things"], ["_law_feed_here", "_law_things"], f9⟩
theorem b9 : BindP d9.d d9.ps := fun _ _ _ _ _ _ us hl => match us, hl with | [_, _], _ => rfl
/-- _law_is_number -/
def f10 : Fn := ⟨1, 1, [], [.ret (.and (.isi (.var 0) [.int]) (.and (.nt (.isi (.var 0) [.bool])) (.cmp .GtE (.var 0) (.con (.int 0)))))]⟩
def d10 : Df := ⟨mk "_law_is_number" 19, ["_law_thing"], ["_law_thing"], f10⟩
theorem b10 : BindP d10.d d10.ps := fun _ _ _ _ _ _ us hl => match us, hl with | [_], _ => rfl
/-- _law_is_name -/
def f11 : Fn := ⟨1, 2, [], [.ife (.or (.nt (.at (.isi (.var 0) [.str]))) (.nt (.at (.chn .LtE .LtE (.con (.int 1)) (.bi .len (.var 0)) (.con (.int 8)))))) [.ret (.con (.bl false))] [],
      .ret (.cmp .Eq (.comp (.var 1) (.nm 1) .seq [(.var 0)] (some (.at (.cmp .NotIn (.var 1) (.con (.str "abcdefghijklmnopqrstuvwxyz")))))) (.lst []))]⟩
def d11 : Df := ⟨mk "_law_is_name" 20, ["_law_thing", "_law_sign"], ["_law_thing"], f11⟩
theorem b11 : BindP d11.d d11.ps := fun _ _ _ _ _ _ us hl => match us, hl with | [_], _ => rfl
/-- _law_is_step -/
def f12 : Fn := ⟨1, 2, [], [.ife (.or (.nt (.at (.isi (.var 0) [.tuple]))) (.or (.at (.cmp .NotEq (.bi .len (.var 0)) (.con (.int 3)))) (.or (.nt (.at (.call 10 [(.idx (.var 0) (.con (.int 0)))]))) (.nt (.at (.isi (.idx (.var 0) (.con (.int 1))) [.str])))))) [.ret (.con (.bl false))] [],
      .ife (.at (.cmp .In (.idx (.var 0) (.con (.int 1))) (.tup [(.con (.str "go")), (.con (.str "take"))]))) [.ret (.call 10 [(.idx (.var 0) (.con (.int 2)))])] [],
      .asg 1 (.cmp .In (.idx (.var 0) (.con (.int 1))) (.tup [(.con (.str "fork")), (.con (.str "none")), (.con (.str "later")), (.con (.str "kill")), (.con (.str "release")), (.con (.str "exit"))])),
      .ret (.and (.var 1) (.and (.isi (.idx (.var 0) (.con (.int 2))) [.int]) (.and (.nt (.isi (.idx (.var 0) (.con (.int 2))) [.bool])) (.cmp .Eq (.idx (.var 0) (.con (.int 2))) (.neg (.con (.int 1)))))))]⟩
def d12 : Df := ⟨mk "_law_is_step" 21, ["_law_thing", "_law_is_word"], ["_law_thing"], f12⟩
theorem b12 : BindP d12.d d12.ps := fun _ _ _ _ _ _ us hl => match us, hl with | [_], _ => rfl
/-- _law_is_event -/
def f13 : Fn := ⟨1, 1, [], [.ife (.or (.nt (.at (.isi (.var 0) [.tuple]))) (.or (.at (.cmp .Lt (.bi .len (.var 0)) (.con (.int 2)))) (.nt (.at (.isi (.idx (.var 0) (.con (.int 0))) [.str]))))) [.ret (.con (.bl false))] [],
      .ife (.at (.cmp .In (.idx (.var 0) (.con (.int 0))) (.tup [(.con (.str "exclude")), (.con (.str "allow"))]))) [.ret (.and (.cmp .Eq (.bi .len (.var 0)) (.con (.int 4))) (.and (.call 11 [(.idx (.var 0) (.con (.int 1)))]) (.and (.call 10 [(.idx (.var 0) (.con (.int 2)))]) (.call 11 [(.idx (.var 0) (.con (.int 3)))]))))] [],
      .ife (.at (.cmp .NotEq (.bi .len (.var 0)) (.con (.int 2)))) [.ret (.con (.bl false))] [],
      .ife (.at (.cmp .Eq (.idx (.var 0) (.con (.int 0))) (.con (.str "step")))) [.ret (.call 12 [(.idx (.var 0) (.con (.int 1)))])] [],
      .ife (.at (.cmp .Eq (.idx (.var 0) (.con (.int 0))) (.con (.str "guard")))) [.ret (.and (.isi (.idx (.var 0) (.con (.int 1))) [.str]) (.cmp .In (.idx (.var 0) (.con (.int 1))) (.tup [(.con (.str "on")), (.con (.str "off"))])))] [],
      .ret (.and (.cmp .Eq (.idx (.var 0) (.con (.int 0))) (.con (.str "mark"))) (.call 11 [(.idx (.var 0) (.con (.int 1)))]))]⟩
def d13 : Df := ⟨mk "_law_is_event" 22, ["_law_thing"], ["_law_thing"], f13⟩
theorem b13 : BindP d13.d d13.ps := fun _ _ _ _ _ _ us hl => match us, hl with | [_], _ => rfl
/-- _law_strange -/
def f14 : Fn := ⟨1, 2, [true], [.asg 1 (.lst [(.con (.int 0)), (.con (.int 1)), (.neg (.con (.int 1))), (.con (.int 2)), (.con (.bl true)), (.con (.bl false)), (.con .non), (.con (.str "")), (.con (.str "a")), (.con (.str "abcdefgh")), (.con (.str "abcdefghi")), (.con (.str "A")), (.con (.str "a b")), (.con (.str "a1")), (.con (.str "-")), (.tup []), (.lst []), (.tup [(.con (.str "a"))])]),
      .ext 1 (.lst [(.lst [(.con (.str "a"))]), (.con (.str "on")), (.con (.str "off")), (.con (.str "On")), (.con (.str "step")), (.con (.str "mark")), (.con (.str "guard")), (.con (.str "exclude")), (.con (.str "allow")), (.con (.str "go")), (.con (.str "fork")), (.con (.str "take")), (.con (.str "none"))]),
      .ext 1 (.lst [(.con (.str "later")), (.con (.str "kill")), (.con (.str "release")), (.con (.str "exit")), (.con (.str "wait")), (.bin .Pow (.con (.int 10)) (.con (.int 59))), (.neg (.bin .Pow (.con (.int 10)) (.con (.int 59)))), (.tup [(.con (.int 0)), (.con (.str "go")), (.con (.int 1))]), (.tup [(.con (.int 0)), (.con (.str "exit")), (.neg (.con (.int 1)))]), (.con (.int 40))]),
      .ext 1 (.lst [(.lst [(.con (.int 0)), (.con (.str "go")), (.con (.int 1))]), (.tup [(.con (.int 0)), (.con (.str "take"))]), (.tup [(.con (.str "step")), (.tup [(.con (.int 0)), (.con (.str "none")), (.neg (.con (.int 1)))])]), (.tup [(.con (.str "mark")), (.con (.str "a"))]), (.tup [(.con (.str "guard")), (.con (.bl true))]), (.tup [(.con .non), (.con .non)])]),
      .ret (.call 9 [(.var 0), (.var 1)])]⟩
def d14 : Df := ⟨mk "_law_strange" 23, ["_law_feed_here", "_law_things"], ["_law_feed_here"], f14⟩
theorem b14 : BindP d14.d d14.ps := fun _ _ _ _ _ _ us hl => match us, hl with | [_], _ => rfl
/-- _law_bent -/
def f15 : Fn := ⟨2, 5, [true, false], [.ife (.and (.at (.isi (.var 1) [.tuple])) (.and (.at (.cmp .Gt (.bi .len (.var 1)) (.con (.int 0)))) (.at (.cmp .Gt (.call 8 [(.var 0), (.con (.int 5))]) (.con (.int 0)))))) [.asg 2 (.call 8 [(.var 0), (.bi .len (.var 1))]),
      .ret (.bin .Add (.bin .Add (.sli (.var 1) none (some (.var 2))) (.tup [(.call 15 [(.var 0), (.idx (.var 1) (.var 2))])])) (.sli (.var 1) (some (.bin .Add (.var 2) (.con (.int 1)))) none))] [],
      .par 3 4 (.call 8 [(.var 0), (.con (.int 7))]) (.call 14 [(.var 0)]),
      .ife (.and (.at (.isi (.var 1) [.tuple])) (.at (.cmp .Lt (.var 3) (.con (.int 5))))) [.asg 2 (.call 8 [(.var 0), (.bin .Add (.bi .len (.var 1)) (.con (.int 1)))]),
      .ife (.at (.cmp .Eq (.var 3) (.con (.int 0)))) [.ret (.bi .list (.var 1))] [],
      .ife (.at (.cmp .Eq (.var 3) (.con (.int 1)))) [.ret (.bin .Add (.sli (.var 1) none (some (.var 2))) (.sli (.var 1) (some (.bin .Add (.var 2) (.con (.int 1)))) none))] [],
      .ife (.at (.cmp .Eq (.var 3) (.con (.int 2)))) [.ret (.bin .Add (.bin .Add (.sli (.var 1) none (some (.var 2))) (.sli (.var 1) (some (.var 2)) (some (.bin .Add (.var 2) (.con (.int 1)))))) (.sli (.var 1) (some (.var 2)) none))] [],
      .ret (.ite (.at (.cmp .Eq (.var 3) (.con (.int 3)))) (.bin .Add (.bin .Add (.sli (.var 1) none (some (.var 2))) (.tup [(.var 4)])) (.sli (.var 1) (some (.var 2)) none)) (.bin .Add (.sli (.var 1) (some (.var 2)) none) (.sli (.var 1) none (some (.var 2)))))] [],
      .ife (.and (.at (.isi (.var 1) [.str])) (.at (.cmp .Lt (.var 3) (.con (.int 4))))) [.ret (.bin .Add (.bin .Add (.sli (.var 1) none (some (.var 3))) (.call 9 [(.var 0), (.lst [(.con (.str "a")), (.con (.str "A")), (.con (.str "")), (.con (.str " ")), (.con (.str "z")), (.con (.str "0"))])])) (.sli (.var 1) (some (.var 3)) none))] [],
      .ret (.var 4)]⟩
def d15 : Df := ⟨mk "_law_bent" 24, ["_law_feed_here", "_law_thing", "_law_k", "_law_way", "_law_strange_here"], ["_law_feed_here", "_law_thing"], f15⟩
theorem b15 : BindP d15.d d15.ps := fun _ _ _ _ _ _ us hl => match us, hl with | [_, _], _ => rfl
/-- _law_right -/
def f16 : Fn := ⟨1, 2, [], [.asg 1 (.call 6 [(.var 0)]),
      .ret (.and (.isi (.var 1) [.bool]) (.cmp .Eq (.var 1) (.call 13 [(.var 0)])))]⟩
def d16 : Df := ⟨mk "_law_right" 25, ["_law_thing", "_law_told"], ["_law_thing"], f16⟩
theorem b16 : BindP d16.d d16.ps := fun _ _ _ _ _ _ us hl => match us, hl with | [_], _ => rfl
/-- law -/
def f17 : Fn := ⟨1, 12, [], [.asg 1 (.call 7 [(.var 0)]),
      .asg 2 (.comp (.call 14 [(.var 1)]) (.nm 4) .rng [(.con (.int 12))] none),
      .asg 3 (.lst [(.con (.str "go")), (.con (.str "fork")), (.con (.str "take")), (.con (.str "none")), (.con (.str "later")), (.con (.str "kill")), (.con (.str "release")), (.con (.str "exit"))]),
      .loop (.nm 4) .rng [(.con (.int 14))] [.asg 5 (.join "" (.comp (.call 9 [(.var 1), (.con (.str "abmz"))]) (.nm 11) .rng [(.bin .Add (.con (.int 1)) (.call 8 [(.var 1), (.con (.int 8))]))] none)),
      .asg 6 (.call 9 [(.var 1), (.lst [(.con (.int 0)), (.con (.int 1)), (.con (.int 7)), (.con (.int 12)), (.bin .Pow (.con (.int 10)) (.con (.int 59))), (.con (.int 3))])]),
      .asg 7 (.call 9 [(.var 1), (.var 3)]),
      .asg 8 (.tup [(.con (.str "step")), (.tup [(.var 6), (.var 7), (.ite (.at (.cmp .In (.var 7) (.tup [(.con (.str "go")), (.con (.str "take"))]))) (.call 8 [(.var 1), (.con (.int 9))]) (.neg (.con (.int 1))))])]),
      .asg 9 (.tup [(.call 9 [(.var 1), (.lst [(.con (.str "exclude")), (.con (.str "allow"))])]), (.var 5), (.var 6), (.call 9 [(.var 1), (.lst [(.con (.str "h")), (.con (.str "abcdefgh")), (.var 5)])])]),
      .loop (.nm 10) .seq [(.tup [(.var 8), (.var 9), (.tup [(.con (.str "mark")), (.var 5)]), (.tup [(.con (.str "guard")), (.call 9 [(.var 1), (.lst [(.con (.str "on")), (.con (.str "off"))])])])])] [.app 2 (.var 10),
      .app 2 (.call 15 [(.var 1), (.var 10)])],
      .app 2 (.call 15 [(.var 1), (.call 15 [(.var 1), (.var 8)])]),
      .app 2 (.tup [(.con (.str "step")), (.tup [(.var 6), (.var 7), (.call 9 [(.var 1), (.lst [(.neg (.con (.int 1))), (.con (.int 0)), (.con (.int 1)), (.con (.bl true)), (.con .non), (.neg (.con (.int 2)))])])])])],
      .ext 2 (.lst [(.tup [(.con (.str "mark")), (.bin .Mult (.con (.str "a")) (.con (.int 9)))]), (.tup [(.con (.str "exclude")), (.con (.str "a")), (.con (.int 0)), (.con (.str ""))]), (.lst [(.con (.str "mark")), (.con (.str "a"))])]),
      .ext 2 (.lst [(.tup [(.con (.str "step")), (.lst [(.con (.int 0)), (.con (.str "go")), (.con (.int 1))])]), (.tup [(.con (.str "step")), (.tup [(.con (.bl true)), (.con (.str "go")), (.con (.int 1))])]), (.tup [(.con (.str "exclude")), (.con (.str "a")), (.con (.bl true)), (.con (.str "h"))]), (.tup [(.con (.str "guard")), (.con .non)])]),
      .app 2 (.tup [(.con (.str "step")), (.con (.int 0)), (.con (.str "go")), (.con (.int 1))]),
      .ret (.cmp .Eq (.comp (.var 10) (.nm 10) .seq [(.var 2)] (some (.nt (.at (.call 16 [(.var 10)]))))) (.lst []))]⟩
def d17 : Df := ⟨mk "law" 26, ["_law_script", "_law_feed_here", "_law_things", "_law_words", "_law_lap", "_law_name", "_law_number", "_law_word", "_law_event", "_law_late", "_law_thing", "_law_k"], ["_law_script"], f17⟩
theorem b17 : BindP d17.d d17.ps := fun _ _ _ _ _ _ us hl => match us, hl with | [_], _ => rfl
def pg : Pg := ⟨[d0, d1, d2, d3, d4, d5, d6, d7, d8, d9, d10, d11, d12, d13, d14, d15, d16, d17],
  [("LETTERS", (.str "abcdefghijklmnopqrstuvwxyz")), ("LONGEST_NAME", (.int 8)), ("STEP_WORDS", (.tup [(.str "go"), (.str "fork"), (.str "take"), (.str "none"), (.str "later"), (.str "kill"), (.str "release"), (.str "exit")])), ("NUMBERED_WORDS", (.tup [(.str "go"), (.str "take")])), ("GUARDS", (.tup [(.str "on"), (.str "off")]))],
  [("EVENT_PARTS", [("step", (.tup [(.fn 4)])), ("exclude", (.tup [(.fn 2), (.fn 1), (.fn 2)])), ("allow", (.tup [(.fn 2), (.fn 1), (.fn 2)])), ("guard", (.tup [(.fn 5)])), ("mark", (.tup [(.fn 2)]))])]⟩
theorem bd : ∀ (i : Nat) x, pg.dfs[i]? = some x → BindP x.d x.ps := fun _ x h =>
  ((List.forall_mem_cons.mpr ⟨b0, (List.forall_mem_cons.mpr ⟨b1, (List.forall_mem_cons.mpr ⟨b2, (List.forall_mem_cons.mpr ⟨b3, (List.forall_mem_cons.mpr ⟨b4, (List.forall_mem_cons.mpr ⟨b5, (List.forall_mem_cons.mpr ⟨b6, (List.forall_mem_cons.mpr ⟨b7, (List.forall_mem_cons.mpr ⟨b8, (List.forall_mem_cons.mpr ⟨b9, (List.forall_mem_cons.mpr ⟨b10, (List.forall_mem_cons.mpr ⟨b11, (List.forall_mem_cons.mpr ⟨b12, (List.forall_mem_cons.mpr ⟨b13, (List.forall_mem_cons.mpr ⟨b14, (List.forall_mem_cons.mpr ⟨b15, (List.forall_mem_cons.mpr ⟨b16, (List.forall_mem_cons.mpr ⟨b17, (List.forall_mem_nil _)⟩)⟩)⟩)⟩)⟩)⟩)⟩)⟩)⟩)⟩)⟩)⟩)⟩)⟩)⟩)⟩)⟩)⟩) : ∀ x ∈ pg.dfs, BindP x.d x.ps) x (List.mem_of_getElem? h)

theorem ok : pg.ok = true := by decide +kernel
abbrev R : PySem.W.OpenRow := PySem.W.OpenLaw.row PySem.Challenge.rw_forkyields_k66_events
abbrev hook : PySem.W.Hook := hookI 4 pg.hk
def obs (s : PySem.W.SharedT) : AlI := obsIG 4 pg.hk (HandSHeadRun.getT s)
theorem obs_eq (s : PySem.W.SharedT) : obs s = hook.obs s.abs := obsIG_eq (HandSHeadRun.getT_eq s)
def loose : List PySem.Str := ["LETTERS", "LONGEST_NAME", "STEP_WORDS", "NUMBERED_WORDS", "is_integer", "is_number", "is_name", "is_tuple_of", "is_step", "GUARDS", "is_guard", "EVENT_PARTS", "is_event", "_law_feed", "_law_draw", "_law_pick", "_law_is_number", "_law_is_name", "_law_is_step", "_law_is_event", "_law_strange", "_law_bent", "_law_right"]
theorem goes (w : World) : HandSHeadRun.RunEq R (PySem.W.view R.prog [26]) hook obs 3000 loose w := by
  revert w
  refine PySem.W.byRow2 "special-get-raises" (fun w os => ?_) (fun w os => ?_) <;> kernel_rfl
end Q
open PySem PySem.W PySem.Calls PyProof.Rows in
theorem Q.done {n : Nat} (hr : L2.Room n callerA) (hp : ∀ ns : List Int, ns.length ≤ 63 → ∃ fr, Q.pg.call n 17 [.shr (.lst (ns.map .int))] = .ok (.bl true, fr, [])) : PySem.Challenge.rw_forkyields_k66_events.Holds := by
  w_on; o_law
  refine HandSHeadRun.head_any (r := OpenLaw.row PySem.Challenge.rw_forkyields_k66_events) (q := view (OpenLaw.row PySem.Challenge.rw_forkyields_k66_events).prog [26]) (H := Q.hook) (ob := Q.obs) (M := 3000) (loose := Q.loose) (d := HandSHeadRun.topDef (OpenLaw.row PySem.Challenge.rw_forkyields_k66_events).prog 26) (kwd := []) Q.obs_eq
    (by kernel_rfl) (fun s => by kernel_rfl) Q.goes (by kernel_rfl) (by kernel_rfl) (by kernel_rfl) (by rfl) (by first | assumption | decide +kernel) (by decide +kernel) ⟨rfl, rfl, rfl, rfl, rfl, by decide +kernel⟩ ?hw ?hc
  case hw => w_witness2
  case hc => exact Iq.walk_iq (l := PySem.Challenge.rw_forkyields_k66_events) (m := 63) (i := 17) (df := Q.d17) rfl (by decide) (by kernel_rfl) hr Q.ok Q.bd rfl rfl (by kernel_rfl) hp
set_option Elab.async false
set_option linter.all false
set_option maxRecDepth 100000
set_option maxHeartbeats 4000000
namespace Q
open PySem L2 Iq
def Pn (n : Nat) : Pr := ⟨pg.hk.cv, fun j => ((pg.fs[j]?).map Fn.io).getD [], pg.call n⟩
theorem fn0 (n : Nat) : (Pn (n + 1)).fn 0 = Iq.run (Pn n) f0 := rfl
theorem fn1 (n : Nat) : (Pn (n + 1)).fn 1 = Iq.run (Pn n) f1 := rfl
theorem fn2 (n : Nat) : (Pn (n + 1)).fn 2 = Iq.run (Pn n) f2 := rfl
theorem fn3 (n : Nat) : (Pn (n + 1)).fn 3 = Iq.run (Pn n) f3 := rfl
theorem fn4 (n : Nat) : (Pn (n + 1)).fn 4 = Iq.run (Pn n) f4 := rfl
theorem fn5 (n : Nat) : (Pn (n + 1)).fn 5 = Iq.run (Pn n) f5 := rfl
theorem fn6 (n : Nat) : (Pn (n + 1)).fn 6 = Iq.run (Pn n) f6 := rfl
theorem fn7 (n : Nat) : (Pn (n + 1)).fn 7 = Iq.run (Pn n) f7 := rfl
theorem fn8 (n : Nat) : (Pn (n + 1)).fn 8 = Iq.run (Pn n) f8 := rfl
theorem fn9 (n : Nat) : (Pn (n + 1)).fn 9 = Iq.run (Pn n) f9 := rfl
theorem fn10 (n : Nat) : (Pn (n + 1)).fn 10 = Iq.run (Pn n) f10 := rfl
theorem fn11 (n : Nat) : (Pn (n + 1)).fn 11 = Iq.run (Pn n) f11 := rfl
theorem fn12 (n : Nat) : (Pn (n + 1)).fn 12 = Iq.run (Pn n) f12 := rfl
theorem fn13 (n : Nat) : (Pn (n + 1)).fn 13 = Iq.run (Pn n) f13 := rfl
theorem fn14 (n : Nat) : (Pn (n + 1)).fn 14 = Iq.run (Pn n) f14 := rfl
theorem fn15 (n : Nat) : (Pn (n + 1)).fn 15 = Iq.run (Pn n) f15 := rfl
theorem fn16 (n : Nat) : (Pn (n + 1)).fn 16 = Iq.run (Pn n) f16 := rfl
theorem fn17 (n : Nat) : (Pn (n + 1)).fn 17 = Iq.run (Pn n) f17 := rfl
theorem io0 (n : Nat) : (Pn n).io 0 = [] := rfl
theorem io1 (n : Nat) : (Pn n).io 1 = [] := rfl
theorem io2 (n : Nat) : (Pn n).io 2 = [] := rfl
theorem io3 (n : Nat) : (Pn n).io 3 = [] := rfl
theorem io4 (n : Nat) : (Pn n).io 4 = [] := rfl
theorem io5 (n : Nat) : (Pn n).io 5 = [] := rfl
theorem io6 (n : Nat) : (Pn n).io 6 = [] := rfl
theorem io7 (n : Nat) : (Pn n).io 7 = [] := rfl
theorem io8 (n : Nat) : (Pn n).io 8 = [true, false] := rfl
theorem io9 (n : Nat) : (Pn n).io 9 = [true, false] := rfl
theorem io10 (n : Nat) : (Pn n).io 10 = [] := rfl
theorem io11 (n : Nat) : (Pn n).io 11 = [] := rfl
theorem io12 (n : Nat) : (Pn n).io 12 = [] := rfl
theorem io13 (n : Nat) : (Pn n).io 13 = [] := rfl
theorem io14 (n : Nat) : (Pn n).io 14 = [true] := rfl
theorem io15 (n : Nat) : (Pn n).io 15 = [true, false] := rfl
theorem io16 (n : Nat) : (Pn n).io 16 = [] := rfl
theorem io17 (n : Nat) : (Pn n).io 17 = [] := rfl
theorem ty_beq (a b : Ty) : (a == b) = decide (a = b) := rfl
def letters : Str := "abcdefghijklmnopqrstuvwxyz"
def words : List D := [.str "go", .str "fork", .str "take", .str "none", .str "later", .str "kill", .str "release", .str "exit"]
def parts : List (Key × D) := [(.inr "step", .tup [.fn 4]), (.inr "exclude", .tup [.fn 2, .fn 1, .fn 2]), (.inr "allow", .tup [.fn 2, .fn 1, .fn 2]), (.inr "guard", .tup [.fn 5]), (.inr "mark", .tup [.fn 2])]
theorem cs0 (n : Nat) : (Pn n).cs[0]? = some (.str letters) := rfl
theorem cs1 (n : Nat) : (Pn n).cs[1]? = some (.int 8) := rfl
theorem cs2 (n : Nat) : (Pn n).cs[2]? = some (.tup words) := rfl
theorem cs3 (n : Nat) : (Pn n).cs[3]? = some (.tup [.str "go", .str "take"]) := rfl
theorem cs4 (n : Nat) : (Pn n).cs[4]? = some (.tup [.str "on", .str "off"]) := rfl
theorem cs5 (n : Nat) : (Pn n).cs[5]? = some (.dic parts) := rfl
def isInt : D → Bool
  | .int _ => true
  | _ => false
def isNum : D → Bool
  | .int i => decide (0 ≤ i)
  | _ => false
/-- data of the law: no function, no dict -/
def plain : D → Bool
  | .fn _ => false
  | .dic _ => false
  | _ => true
theorem c0 (n : Nat) {d : D} (h : plain d = true) : (Pn (n + 1)).fn 0 [.shr d] = .ok (.bl (isInt d), false, []) := by
  rw [fn0]
  cases d <;> first | (simp only [plain] at h; cases h; done) | simp [f0, Iq.run, ioFit, evB, evS, evE.eq_1, evE.eq_2, evE.eq_3, evE.eq_4, evE.eq_5, evE.eq_6, evE.eq_7, evE.eq_8, evE.eq_9, evE.eq_10, evE.eq_11, evE.eq_12, evE.eq_13, evE.eq_14, evE.eq_15, evE.eq_16, evE.eq_17, evE.eq_18, evE.eq_19, evE.eq_20, evE.eq_21, evE.eq_22, evL, evA, evO, evT, Iq.hd, deref, R.bind_ok, truth, intOf, callG, hdS, argsS, argS, putOuts, setOwn, outs, isOwn, isTys, isTy, ty_beq, isInt]
theorem c1 (n : Nat) {d : D} (h : plain d = true) : (Pn (n + 2)).fn 1 [.shr d] = .ok (.bl (isNum d), false, []) := by
  rw [fn1]
  have e := c0 n h
  cases d <;> simp only [isInt] at e <;> first | (simp only [plain] at h; cases h; done) | simp [f1, Iq.run, ioFit, evB, evS, evE.eq_1, evE.eq_2, evE.eq_3, evE.eq_4, evE.eq_5, evE.eq_6, evE.eq_7, evE.eq_8, evE.eq_9, evE.eq_10, evE.eq_11, evE.eq_12, evE.eq_13, evE.eq_14, evE.eq_15, evE.eq_16, evE.eq_17, evE.eq_18, evE.eq_19, evE.eq_20, evE.eq_21, evE.eq_22, evL, evA, evO, evT, Iq.hd, deref, R.bind_ok, truth, intOf, callG, hdS, argsS, argS, putOuts, setOwn, outs, isOwn, io0, e, isNum, cmpD]
theorem c10 (n : Nat) {d : D} (h : plain d = true) : (Pn (n + 1)).fn 10 [.shr d] = .ok (.bl (isNum d), false, []) := by
  rw [fn10]
  cases d <;> first | (simp only [plain] at h; cases h; done) | simp [f10, Iq.run, ioFit, evB, evS, evE.eq_1, evE.eq_2, evE.eq_3, evE.eq_4, evE.eq_5, evE.eq_6, evE.eq_7, evE.eq_8, evE.eq_9, evE.eq_10, evE.eq_11, evE.eq_12, evE.eq_13, evE.eq_14, evE.eq_15, evE.eq_16, evE.eq_17, evE.eq_18, evE.eq_19, evE.eq_20, evE.eq_21, evE.eq_22, evL, evA, evO, evT, Iq.hd, deref, R.bind_ok, truth, intOf, callG, hdS, argsS, argS, putOuts, setOwn, outs, isOwn, isTys, isTy, ty_beq, isNum, cmpD]
def lenIs : D → Int → Bool
  | .tup xs, m => (xs.length : Int) == m
  | _, _ => false
theorem c3 (n : Nat) {d : D} {m : Int} (h : plain d = true) : (Pn (n + 1)).fn 3 [.shr d, .shr (.int m)] = .ok (.bl (lenIs d m), false, []) := by
  rw [fn3]
  cases d <;> first | (simp only [plain] at h; cases h; done) | simp [f3, Iq.run, ioFit, evB, evS, evE.eq_1, evE.eq_2, evE.eq_3, evE.eq_4, evE.eq_5, evE.eq_6, evE.eq_7, evE.eq_8, evE.eq_9, evE.eq_10, evE.eq_11, evE.eq_12, evE.eq_13, evE.eq_14, evE.eq_15, evE.eq_16, evE.eq_17, evE.eq_18, evE.eq_19, evE.eq_20, evE.eq_21, evE.eq_22, evL, evA, evO, evT, Iq.hd, deref, R.bind_ok, truth, intOf, callG, hdS, argsS, argS, putOuts, setOwn, outs, isOwn, isTys, isTy, ty_beq, lenIs, biD, cmpD, eqD, D.py, PyData.eqv, SeqAt.shaped, PyData.canLay0, PyData.depth]

theorem int_eq {i j : Int} : eqD (.int i) (.int j) = .ok (i == j) := by simp [eqD, D.py, PyData.eqv, SeqAt.shaped, PyData.canLay0, PyData.depth]
theorem str_eq {x y : Str} (hx : PyData.strOk x = true) (hy : PyData.strOk y = true) : eqD (.str x) (.str y) = .ok (x == y) := by simp [eqD, D.py, PyData.eqv, SeqAt.shaped, PyData.canLay0, PyData.depth, hx, hy]
theorem bl_eq {a b : Bool} : eqD (.bl a) (.bl b) = .ok (a == b) := by simp [eqD, D.py, PyData.eqv, SeqAt.shaped, PyData.canLay0, PyData.depth]
theorem pyL_nil : ∀ {xs : List D} {ps : List PyData}, D.pyL xs = some ps → ps.isEmpty = xs.isEmpty
  | [], _, h => by simp only [D.pyL] at h; cases h; rfl
  | x :: xs, ps, h => by
    simp only [D.pyL] at h
    split at h
    · cases h; rfl
    · cases h
theorem tup_nil {l k : Nat} {xs : List D} (h : okB l k (.tup xs) = true) (hk : k ≤ 64) : eqD (.tup xs) (.tup []) = .ok xs.isEmpty := by
  obtain ⟨p, e, s⟩ := ok_shaped h hk
  simp only [D.py] at e
  obtain ⟨ps, e1, e2⟩ := Option.map_eq_some_iff.mp e
  subst e2
  have := pyL_nil e1
  have s0 : SeqAt.shaped (.tuple []) = true := by decide +kernel
  simp only [eqD, D.py, e1, Option.map_some, D.pyL, s, s0, Bool.and_self, if_true, PyData.eqv, ← this]
  cases ps <;> simp [PyData.eqvAll]
theorem lst_nil {l k : Nat} {xs : List D} (h : okB l k (.lst xs) = true) (hk : k ≤ 64) : eqD (.lst xs) (.lst []) = .ok xs.isEmpty := by
  obtain ⟨p, e, s⟩ := ok_shaped h hk
  simp only [D.py] at e
  obtain ⟨ps, e1, e2⟩ := Option.map_eq_some_iff.mp e
  subst e2
  have := pyL_nil e1
  have s0 : SeqAt.shaped (.list []) = true := by decide +kernel
  simp only [eqD, D.py, e1, Option.map_some, D.pyL, s, s0, Bool.and_self, if_true, PyData.eqv, ← this]
  cases ps <;> simp [PyData.eqvAll]
/-! ### names -/
def signB : D → Bool
  | .str a => !(Builtin.Str.occurrences letters a 0 letters.length 1).isEmpty
  | _ => false
def nameB : D → Bool
  | .str s => decide (1 ≤ (s.length : Int)) && (decide ((s.length : Int) ≤ 8) && (chars s).all signB)
  | _ => false
theorem bls_map {α : Type} {g : α → Bool} : ∀ (xs : List α), bls (xs.map fun x => D.bl (g x)) = some (xs.map g)
  | [] => rfl
  | x :: xs => by simp only [List.map_cons, bls, bls_map xs, Option.map_some]
theorem mem_chars {z : Str} {x : D} (h : x ∈ chars z) : ∃ c ∈ z.cps.toList, x = .str ⟨#[c]⟩ := by
  obtain ⟨c, hc, rfl⟩ := List.mem_map.mp h
  exact ⟨c, hc, rfl⟩
theorem c2 (n : Nat) {d : D} (h : plain d = true) (hl : ∀ s, d = .str s → s.length ≤ sizeLine) : (Pn (n + 1)).fn 2 [.shr d] = .ok (.bl (nameB d), false, []) := by
  rw [fn2]
  cases d with
  | fn _ => cases h
  | dic _ => cases h
  | str s =>
    have hz := hl s rfl
    by_cases g1 : (1 : Int) ≤ s.length
    · by_cases g2 : (s.length : Int) ≤ 8
      · obtain ⟨ς', e, i⟩ := lc_fm (tst := evQ (Pn n) none) (el := evE (Pn n) (.cmp .In (.var 1) (.glo 0))) (t := .nm 1) (Inv := fun ς => ∃ s1, ς = [.shr (.str s), s1]) (p := fun _ => true) (g := fun c => .bl (signB c)) (chars s) [.shr (.str s), .no] ⟨_, rfl⟩ fun x hx ς ⟨s1, hs⟩ => by
          subst hs
          obtain ⟨c, _, rfl⟩ := mem_chars hx
          refine ⟨[.shr (.str s), .shr (.str ⟨#[c]⟩)], [.shr (.str s), .shr (.str ⟨#[c]⟩)], rfl, rfl, fun h => (Bool.noConfusion h), fun _ => ⟨false, [.shr (.str s), .shr (.str ⟨#[c]⟩)], ?_, _, rfl⟩⟩
          simp [Iq.run, ioFit, evB, evS, evE.eq_1, evE.eq_2, evE.eq_3, evE.eq_4, evE.eq_5, evE.eq_6, evE.eq_7, evE.eq_8, evE.eq_9, evE.eq_10, evE.eq_11, evE.eq_12, evE.eq_13, evE.eq_14, evE.eq_15, evE.eq_16, evE.eq_17, evE.eq_18, evE.eq_19, evE.eq_20, evE.eq_21, evE.eq_22, evL, evA, evO, evT, Iq.hd, deref, R.bind_ok, truth, intOf, callG, hdS, argsS, argS, putOuts, setOwn, outs, isOwn, cs0, cmpD, inD, signB]
        obtain ⟨s1, rfl⟩ := i
        have e' := ev_comp (P := Pn n) (ss := [.var 0]) (ς := [.shr (.str s), .no]) (k := .seq) (c := none) (rs := [.str s]) (ς1 := [.shr (.str s), .no]) (by simp [Iq.run, ioFit, evB, evS, evE.eq_1, evE.eq_2, evE.eq_3, evE.eq_4, evE.eq_5, evE.eq_6, evE.eq_7, evE.eq_8, evE.eq_9, evE.eq_10, evE.eq_11, evE.eq_12, evE.eq_13, evE.eq_14, evE.eq_15, evE.eq_16, evE.eq_17, evE.eq_18, evE.eq_19, evE.eq_20, evE.eq_21, evE.eq_22, evL, evA, evO, evT, Iq.hd, deref, R.bind_ok, truth, intOf, callG, hdS, argsS, argS, putOuts, setOwn, outs, isOwn, evL]) (by simp only [walk, hz, if_true]) rfl e
        rw [List.filter_eq_self.mpr (fun _ _ => rfl)] at e'
        simp [f2, Iq.run, ioFit, evB, evS, evE.eq_1, evE.eq_2, evE.eq_3, evE.eq_4, evE.eq_5, evE.eq_6, evE.eq_7, evE.eq_8, evE.eq_9, evE.eq_10, evE.eq_11, evE.eq_12, evE.eq_13, evE.eq_14, evE.eq_15, evE.eq_16, evE.eq_17, evE.eq_18, evE.eq_19, evE.eq_20, evE.eq_21, evE.eq_22, evL, evA, evO, evT, Iq.hd, deref, R.bind_ok, truth, intOf, callG, hdS, argsS, argS, putOuts, setOwn, outs, isOwn, isTys, isTy, ty_beq, biD, hz, cmpD, leI, g1, g2, cs1, e', bls_map, nameB, backS, tgS, List.all_map, Function.comp_def]
      · simp [f2, Iq.run, ioFit, evB, evS, evE.eq_1, evE.eq_2, evE.eq_3, evE.eq_4, evE.eq_5, evE.eq_6, evE.eq_7, evE.eq_8, evE.eq_9, evE.eq_10, evE.eq_11, evE.eq_12, evE.eq_13, evE.eq_14, evE.eq_15, evE.eq_16, evE.eq_17, evE.eq_18, evE.eq_19, evE.eq_20, evE.eq_21, evE.eq_22, evL, evA, evO, evT, Iq.hd, deref, R.bind_ok, truth, intOf, callG, hdS, argsS, argS, putOuts, setOwn, outs, isOwn, isTys, isTy, ty_beq, biD, hz, cmpD, leI, g1, g2, cs1, nameB]
    · simp [f2, Iq.run, ioFit, evB, evS, evE.eq_1, evE.eq_2, evE.eq_3, evE.eq_4, evE.eq_5, evE.eq_6, evE.eq_7, evE.eq_8, evE.eq_9, evE.eq_10, evE.eq_11, evE.eq_12, evE.eq_13, evE.eq_14, evE.eq_15, evE.eq_16, evE.eq_17, evE.eq_18, evE.eq_19, evE.eq_20, evE.eq_21, evE.eq_22, evL, evA, evO, evT, Iq.hd, deref, R.bind_ok, truth, intOf, callG, hdS, argsS, argS, putOuts, setOwn, outs, isOwn, isTys, isTy, ty_beq, biD, hz, cmpD, leI, g1, cs1, nameB]
  | _ => simp [f2, Iq.run, ioFit, evB, evS, evE.eq_1, evE.eq_2, evE.eq_3, evE.eq_4, evE.eq_5, evE.eq_6, evE.eq_7, evE.eq_8, evE.eq_9, evE.eq_10, evE.eq_11, evE.eq_12, evE.eq_13, evE.eq_14, evE.eq_15, evE.eq_16, evE.eq_17, evE.eq_18, evE.eq_19, evE.eq_20, evE.eq_21, evE.eq_22, evL, evA, evO, evT, Iq.hd, deref, R.bind_ok, truth, intOf, callG, hdS, argsS, argS, putOuts, setOwn, outs, isOwn, isTys, isTy, ty_beq, nameB]
theorem chr_ok {l : Nat} {s : Str} (h : okS l s = true) {x : D} (hx : x ∈ chars s) : okB (l + 1) 0 x = true := by
  obtain ⟨c, hc, rfl⟩ := mem_chars hx
  simp only [okS, Bool.and_eq_true, PyData.strOk] at h
  have : decide (c < 0x110000) = true := by
    have h2 := h.2
    rw [← Array.all_toList, List.all_eq_true] at h2
    exact h2 c hc
  simp only [okB, okS, PyData.strOk, Bool.and_eq_true, decide_eq_true_eq]
  refine ⟨by show 1 ≤ l + 1; omega, ?_⟩
  simpa using this
theorem c11 (n : Nat) {d : D} {l k : Nat} (h : okB l k d = true) (hl : l ≤ 1000) (hp : plain d = true) : (Pn (n + 1)).fn 11 [.shr d] = .ok (.bl (nameB d), false, []) := by
  rw [fn11]
  cases d with
  | fn _ => cases hp
  | dic _ => cases hp
  | str s =>
    have ho : okS l s = true := by simpa only [okB] using h
    have hz : s.length ≤ sizeLine := by
      simp only [okS, Bool.and_eq_true, decide_eq_true_eq] at ho
      have : sizeLine = 16777216 := sizeLine_eq
      omega
    by_cases g1 : (1 : Int) ≤ s.length
    · by_cases g2 : (s.length : Int) ≤ 8
      · obtain ⟨ς', e, i⟩ := lc_fm (tst := evQ (Pn n) (some (.at (.cmp .NotIn (.var 1) (.con (.str "abcdefghijklmnopqrstuvwxyz")))))) (el := evE (Pn n) (.var 1)) (t := .nm 1) (Inv := fun ς => ∃ s1, ς = [.shr (.str s), s1]) (p := fun c => !(signB c)) (g := id) (chars s) [.shr (.str s), .no] ⟨_, rfl⟩ fun x hx ς ⟨s1, hs⟩ => by
          subst hs
          obtain ⟨c, _, rfl⟩ := mem_chars hx
          refine ⟨[.shr (.str s), .shr (.str ⟨#[c]⟩)], [.shr (.str s), .shr (.str ⟨#[c]⟩)], rfl, ?_, fun _ => ⟨_, rfl⟩, fun _ => ⟨false, [.shr (.str s), .shr (.str ⟨#[c]⟩)], ?_, _, rfl⟩⟩
          · simp [Iq.run, ioFit, evB, evS, evE.eq_1, evE.eq_2, evE.eq_3, evE.eq_4, evE.eq_5, evE.eq_6, evE.eq_7, evE.eq_8, evE.eq_9, evE.eq_10, evE.eq_11, evE.eq_12, evE.eq_13, evE.eq_14, evE.eq_15, evE.eq_16, evE.eq_17, evE.eq_18, evE.eq_19, evE.eq_20, evE.eq_21, evE.eq_22, evL, evA, evO, evT, Iq.hd, deref, R.bind_ok, truth, intOf, callG, hdS, argsS, argS, putOuts, setOwn, outs, isOwn, evQ, cmpD, inD, signB, notR, letters]
          · simp [Iq.run, ioFit, evB, evS, evE.eq_1, evE.eq_2, evE.eq_3, evE.eq_4, evE.eq_5, evE.eq_6, evE.eq_7, evE.eq_8, evE.eq_9, evE.eq_10, evE.eq_11, evE.eq_12, evE.eq_13, evE.eq_14, evE.eq_15, evE.eq_16, evE.eq_17, evE.eq_18, evE.eq_19, evE.eq_20, evE.eq_21, evE.eq_22, evL, evA, evO, evT, Iq.hd, deref, R.bind_ok, truth, intOf, callG, hdS, argsS, argS, putOuts, setOwn, outs, isOwn]
        obtain ⟨s1, rfl⟩ := i
        rw [List.map_id] at e
        have e' := ev_comp (P := Pn n) (ss := [.var 0]) (ς := [.shr (.str s), .no]) (k := .seq) (rs := [.str s]) (ς1 := [.shr (.str s), .no]) (by simp [Iq.run, ioFit, evB, evS, evE.eq_1, evE.eq_2, evE.eq_3, evE.eq_4, evE.eq_5, evE.eq_6, evE.eq_7, evE.eq_8, evE.eq_9, evE.eq_10, evE.eq_11, evE.eq_12, evE.eq_13, evE.eq_14, evE.eq_15, evE.eq_16, evE.eq_17, evE.eq_18, evE.eq_19, evE.eq_20, evE.eq_21, evE.eq_22, evL, evA, evO, evT, Iq.hd, deref, R.bind_ok, truth, intOf, callG, hdS, argsS, argS, putOuts, setOwn, outs, isOwn, evL]) (by simp only [walk, hz, if_true]) rfl e
        have ok : okB (l + 1) 1 (.lst ((chars s).filter fun c => !(signB c))) = true := by
          simp only [okB, Bool.and_eq_true, decide_eq_true_eq, List.all_eq_true]
          refine ⟨?_, fun x hx => chr_ok ho (List.mem_filter.mp hx).1⟩
          have h1 : ((chars s).filter fun c => !(signB c)).length ≤ (chars s).length := List.length_filter_le _ _
          have h2 : (chars s).length = s.length := by rw [chars_len]; rfl
          simp only [okS, Bool.and_eq_true, decide_eq_true_eq] at ho
          omega
        have em : ((chars s).filter fun c => !(signB c)).isEmpty = (chars s).all signB := by
          rw [Bool.eq_iff_iff, List.isEmpty_iff, List.filter_eq_nil_iff, List.all_eq_true]
          simp
        simp [f11, Iq.run, ioFit, evB, evS, evE.eq_1, evE.eq_2, evE.eq_3, evE.eq_4, evE.eq_5, evE.eq_6, evE.eq_7, evE.eq_8, evE.eq_9, evE.eq_10, evE.eq_11, evE.eq_12, evE.eq_13, evE.eq_14, evE.eq_15, evE.eq_16, evE.eq_17, evE.eq_18, evE.eq_19, evE.eq_20, evE.eq_21, evE.eq_22, evL, evA, evO, evT, Iq.hd, deref, R.bind_ok, truth, intOf, callG, hdS, argsS, argS, putOuts, setOwn, outs, isOwn, isTys, isTy, ty_beq, biD, hz, cmpD, leI, g1, g2, e', lst_nil ok (by omega), em, nameB, backS, tgS]
      · simp [f11, Iq.run, ioFit, evB, evS, evE.eq_1, evE.eq_2, evE.eq_3, evE.eq_4, evE.eq_5, evE.eq_6, evE.eq_7, evE.eq_8, evE.eq_9, evE.eq_10, evE.eq_11, evE.eq_12, evE.eq_13, evE.eq_14, evE.eq_15, evE.eq_16, evE.eq_17, evE.eq_18, evE.eq_19, evE.eq_20, evE.eq_21, evE.eq_22, evL, evA, evO, evT, Iq.hd, deref, R.bind_ok, truth, intOf, callG, hdS, argsS, argS, putOuts, setOwn, outs, isOwn, isTys, isTy, ty_beq, biD, hz, cmpD, leI, g1, g2, nameB]
    · simp [f11, Iq.run, ioFit, evB, evS, evE.eq_1, evE.eq_2, evE.eq_3, evE.eq_4, evE.eq_5, evE.eq_6, evE.eq_7, evE.eq_8, evE.eq_9, evE.eq_10, evE.eq_11, evE.eq_12, evE.eq_13, evE.eq_14, evE.eq_15, evE.eq_16, evE.eq_17, evE.eq_18, evE.eq_19, evE.eq_20, evE.eq_21, evE.eq_22, evL, evA, evO, evT, Iq.hd, deref, R.bind_ok, truth, intOf, callG, hdS, argsS, argS, putOuts, setOwn, outs, isOwn, isTys, isTy, ty_beq, biD, hz, cmpD, leI, g1, nameB]
  | _ => simp [f11, Iq.run, ioFit, evB, evS, evE.eq_1, evE.eq_2, evE.eq_3, evE.eq_4, evE.eq_5, evE.eq_6, evE.eq_7, evE.eq_8, evE.eq_9, evE.eq_10, evE.eq_11, evE.eq_12, evE.eq_13, evE.eq_14, evE.eq_15, evE.eq_16, evE.eq_17, evE.eq_18, evE.eq_19, evE.eq_20, evE.eq_21, evE.eq_22, evL, evA, evO, evT, Iq.hd, deref, R.bind_ok, truth, intOf, callG, hdS, argsS, argS, putOuts, setOwn, outs, isOwn, isTys, isTy, ty_beq, nameB]

end Q
set_option Elab.async false
set_option linter.all false
set_option maxRecDepth 100000
set_option maxHeartbeats 4000000
namespace Q
open PySem L2 Iq
/-! ### steps -/
def in2 (w : Str) : Bool := inV (.str w) [.str "go", .str "take"]
def in6 (w : Str) : Bool := inV (.str w) [.str "fork", .str "none", .str "later", .str "kill", .str "release", .str "exit"]
def in8 (w : Str) : Bool := inV (.str w) [.str "go", .str "fork", .str "take", .str "none", .str "later", .str "kill", .str "release", .str "exit"]
theorem in_8 (w : Str) : in8 w = (in2 w || in6 w) := by
  unfold in8 in2 in6 inV
  simp only [List.any_cons, List.any_nil, Bool.or_false]
  ac_rfl
def isM1 : D → Bool
  | .int i => i == -1
  | _ => false
def stepB : D → Bool
  | .tup [a, .str w, c] => isNum a && (in8 w && (if in2 w then isNum c else isM1 c))
  | _ => false
theorem ix0 {a : D} {xs : List D} : idxD (.tup (a :: xs)) (.int 0) = .ok a := by simp [idxD, atI, ixN]
theorem ix1 {a b : D} {xs : List D} : idxD (.tup (a :: b :: xs)) (.int 1) = .ok b := by
  have : (1 : Int) < ↑xs.length + 1 + 1 := by omega
  simp [idxD, atI, ixN, this]
theorem ix2 {a b c : D} {xs : List D} : idxD (.tup (a :: b :: c :: xs)) (.int 2) = .ok c := by
  have : (2 : Int) < ↑xs.length + 1 + 1 + 1 := by omega
  simp [idxD, atI, ixN, this]
theorem ix3 {a b c d : D} {xs : List D} : idxD (.tup (a :: b :: c :: d :: xs)) (.int 3) = .ok d := by
  have : (3 : Int) < ↑xs.length + 1 + 1 + 1 + 1 := by omega
  simp [idxD, atI, ixN, this]
theorem w8 (w : Str) : inD (.str w) (.tup words) = .ok (in8 w) := rfl
theorem w2 (w : Str) : inD (.str w) (.tup [.str "go", .str "take"]) = .ok (in2 w) := rfl
theorem w6 (w : Str) : inD (.str w) (.tup [.str "fork", .str "none", .str "later", .str "kill", .str "release", .str "exit"]) = .ok (in6 w) := rfl
theorem plain_of {l k : Nat} {d : D} (h : okB l k d = true) : plain d = true := by
  cases d <;> first | rfl | (cases k <;> (simp only [okB] at h; cases h))
theorem stepB_no {xs : List D} (h : xs.length ≠ 3) : stepB (.tup xs) = false := by
  rcases xs with _ | ⟨a, _ | ⟨b, _ | ⟨c, _ | ⟨e, r⟩⟩⟩⟩
  · rfl
  · rfl
  · simp only [stepB]
  · simp at h
  · simp only [stepB]
theorem neg1 : (-1 : Int) = Int.negSucc 0 := rfl
theorem c4 (n : Nat) {d : D} {l k : Nat} (h : okB l k d = true) : (Pn (n + 3)).fn 4 [.shr d] = .ok (.bl (stepB d), false, []) := by
  rw [fn4]
  have e3 := c3 (n + 1) (m := 3) (plain_of h)
  cases d with
  | tup xs =>
    simp only [lenIs] at e3
    by_cases hx : xs.length = 3
    · match xs, hx, h, e3 with
      | [a, b, c], _, h, e3 =>
        obtain ⟨k, rfl⟩ : ∃ k', k = k' + 1 := by cases k with
          | zero => simp only [okB] at h; cases h
          | succ k => exact ⟨k, rfl⟩
        simp only [okB, List.all_cons, List.all_nil, Bool.and_true, Bool.and_eq_true] at h
        obtain ⟨_, ha, hb, hc⟩ := h
        have e1 := c1 n (plain_of ha)
        have e2 := c1 n (plain_of hc)
        have e0 := c0 (n + 1) (plain_of hc)
        have e3' : (Pn (n + 2)).fn 3 [.shr (.tup [a, b, c]), .shr (.int 3)] = .ok (.bl true, false, []) := e3
        cases ga : isNum a with
        | false => simp [f4, Iq.run, ioFit, evB, evS, evE.eq_1, evE.eq_2, evE.eq_3, evE.eq_4, evE.eq_5, evE.eq_6, evE.eq_7, evE.eq_8, evE.eq_9, evE.eq_10, evE.eq_11, evE.eq_12, evE.eq_13, evE.eq_14, evE.eq_15, evE.eq_16, evE.eq_17, evE.eq_18, evE.eq_19, evE.eq_20, evE.eq_21, evE.eq_22, evL, evA, evO, evT, Iq.hd, deref, R.bind_ok, truth, intOf, callG, hdS, argsS, argS, putOuts, setOwn, outs, isOwn, io3, io1, io0, e3', ix0, ix1, ix2, e1, ga, stepB] ; cases b <;> simp [ga]
        | true =>
          rw [ga] at e1
          cases b with
          | str w =>
            cases g8 : in8 w with
            | false => simp [f4, Iq.run, ioFit, evB, evS, evE.eq_1, evE.eq_2, evE.eq_3, evE.eq_4, evE.eq_5, evE.eq_6, evE.eq_7, evE.eq_8, evE.eq_9, evE.eq_10, evE.eq_11, evE.eq_12, evE.eq_13, evE.eq_14, evE.eq_15, evE.eq_16, evE.eq_17, evE.eq_18, evE.eq_19, evE.eq_20, evE.eq_21, evE.eq_22, evL, evA, evO, evT, Iq.hd, deref, R.bind_ok, truth, intOf, callG, hdS, argsS, argS, putOuts, setOwn, outs, isOwn, io3, io1, io0, e3', ix0, ix1, ix2, e1, ga, stepB, isTys, isTy, ty_beq, cmpD, cs2, w8, g8, notR]
            | true =>
              cases g2 : in2 w with
              | true => simp [f4, Iq.run, ioFit, evB, evS, evE.eq_1, evE.eq_2, evE.eq_3, evE.eq_4, evE.eq_5, evE.eq_6, evE.eq_7, evE.eq_8, evE.eq_9, evE.eq_10, evE.eq_11, evE.eq_12, evE.eq_13, evE.eq_14, evE.eq_15, evE.eq_16, evE.eq_17, evE.eq_18, evE.eq_19, evE.eq_20, evE.eq_21, evE.eq_22, evL, evA, evO, evT, Iq.hd, deref, R.bind_ok, truth, intOf, callG, hdS, argsS, argS, putOuts, setOwn, outs, isOwn, io3, io1, io0, e3', ix0, ix1, ix2, e1, e2, ga, stepB, isTys, isTy, ty_beq, cmpD, cs2, cs3, w8, w2, g8, g2, notR]
              | false =>
                cases c <;> simp only [isInt] at e0 <;> simp [f4, Iq.run, ioFit, evB, evS, evE.eq_1, evE.eq_2, evE.eq_3, evE.eq_4, evE.eq_5, evE.eq_6, evE.eq_7, evE.eq_8, evE.eq_9, evE.eq_10, evE.eq_11, evE.eq_12, evE.eq_13, evE.eq_14, evE.eq_15, evE.eq_16, evE.eq_17, evE.eq_18, evE.eq_19, evE.eq_20, evE.eq_21, evE.eq_22, evL, evA, evO, evT, Iq.hd, deref, R.bind_ok, truth, intOf, callG, hdS, argsS, argS, putOuts, setOwn, outs, isOwn, io3, io1, io0, e3', ix0, ix1, ix2, e1, e0, ga, stepB, isTys, isTy, ty_beq, cmpD, cs2, cs3, w8, w2, g8, g2, notR, int_eq, isM1]
          | fn _ => exact absurd (plain_of hb) (by simp [plain])
          | dic _ => exact absurd (plain_of hb) (by simp [plain])
          | _ => simp [f4, Iq.run, ioFit, evB, evS, evE.eq_1, evE.eq_2, evE.eq_3, evE.eq_4, evE.eq_5, evE.eq_6, evE.eq_7, evE.eq_8, evE.eq_9, evE.eq_10, evE.eq_11, evE.eq_12, evE.eq_13, evE.eq_14, evE.eq_15, evE.eq_16, evE.eq_17, evE.eq_18, evE.eq_19, evE.eq_20, evE.eq_21, evE.eq_22, evL, evA, evO, evT, Iq.hd, deref, R.bind_ok, truth, intOf, callG, hdS, argsS, argS, putOuts, setOwn, outs, isOwn, io3, io1, io0, e3', ix0, ix1, ix2, e1, ga, stepB, isTys, isTy, ty_beq]
    · have : ((xs.length : Int) == 3) = false := by
        rw [beq_eq_false_iff_ne]; omega
      rw [this] at e3
      simp [f4, Iq.run, ioFit, evB, evS, evE.eq_1, evE.eq_2, evE.eq_3, evE.eq_4, evE.eq_5, evE.eq_6, evE.eq_7, evE.eq_8, evE.eq_9, evE.eq_10, evE.eq_11, evE.eq_12, evE.eq_13, evE.eq_14, evE.eq_15, evE.eq_16, evE.eq_17, evE.eq_18, evE.eq_19, evE.eq_20, evE.eq_21, evE.eq_22, evL, evA, evO, evT, Iq.hd, deref, R.bind_ok, truth, intOf, callG, hdS, argsS, argS, putOuts, setOwn, outs, isOwn, io3, io1, io0, e3, stepB_no hx]
  | fn _ => exact absurd (plain_of h) (by simp [plain])
  | dic _ => exact absurd (plain_of h) (by simp [plain])
  | _ => simp only [lenIs] at e3; simp [f4, Iq.run, ioFit, evB, evS, evE.eq_1, evE.eq_2, evE.eq_3, evE.eq_4, evE.eq_5, evE.eq_6, evE.eq_7, evE.eq_8, evE.eq_9, evE.eq_10, evE.eq_11, evE.eq_12, evE.eq_13, evE.eq_14, evE.eq_15, evE.eq_16, evE.eq_17, evE.eq_18, evE.eq_19, evE.eq_20, evE.eq_21, evE.eq_22, evL, evA, evO, evT, Iq.hd, deref, R.bind_ok, truth, intOf, callG, hdS, argsS, argS, putOuts, setOwn, outs, isOwn, io3, io1, io0, e3, stepB]
theorem c12 (n : Nat) {d : D} {l k : Nat} (h : okB l k d = true) : (Pn (n + 2)).fn 12 [.shr d] = .ok (.bl (stepB d), false, []) := by
  rw [fn12]
  cases d with
  | tup xs =>
    by_cases hx : xs.length = 3
    · match xs, hx, h with
      | [a, b, c], _, h =>
        obtain ⟨k, rfl⟩ : ∃ k', k = k' + 1 := by cases k with
          | zero => simp only [okB] at h; cases h
          | succ k => exact ⟨k, rfl⟩
        simp only [okB, List.all_cons, List.all_nil, Bool.and_true, Bool.and_eq_true] at h
        obtain ⟨_, ha, hb, hc⟩ := h
        have e1 := c10 n (plain_of ha)
        have e2 := c10 n (plain_of hc)
        cases ga : isNum a with
        | false => simp [f12, Iq.run, ioFit, evB, evS, evE.eq_1, evE.eq_2, evE.eq_3, evE.eq_4, evE.eq_5, evE.eq_6, evE.eq_7, evE.eq_8, evE.eq_9, evE.eq_10, evE.eq_11, evE.eq_12, evE.eq_13, evE.eq_14, evE.eq_15, evE.eq_16, evE.eq_17, evE.eq_18, evE.eq_19, evE.eq_20, evE.eq_21, evE.eq_22, evL, evA, evO, evT, Iq.hd, deref, R.bind_ok, truth, intOf, callG, hdS, argsS, argS, putOuts, setOwn, outs, isOwn, io10, ix0, ix1, ix2, e1, ga, stepB, isTys, isTy, ty_beq, biD, cmpD, int_eq, notR] ; cases b <;> simp [ga]
        | true =>
          rw [ga] at e1
          cases b with
          | str w =>
            have g8 := in_8 w
            cases g2 : in2 w with
            | true =>
              rw [g2, Bool.true_or] at g8
              simp [f12, Iq.run, ioFit, evB, evS, evE.eq_1, evE.eq_2, evE.eq_3, evE.eq_4, evE.eq_5, evE.eq_6, evE.eq_7, evE.eq_8, evE.eq_9, evE.eq_10, evE.eq_11, evE.eq_12, evE.eq_13, evE.eq_14, evE.eq_15, evE.eq_16, evE.eq_17, evE.eq_18, evE.eq_19, evE.eq_20, evE.eq_21, evE.eq_22, evL, evA, evO, evT, Iq.hd, deref, R.bind_ok, truth, intOf, callG, hdS, argsS, argS, putOuts, setOwn, outs, isOwn, io10, ix0, ix1, ix2, e1, e2, ga, stepB, isTys, isTy, ty_beq, cmpD, w2, g8, g2, notR, biD, int_eq]
            | false =>
              rw [g2, Bool.false_or] at g8
              cases g6 : in6 w with
              | false =>
                rw [g6] at g8
                simp [f12, Iq.run, ioFit, evB, evS, evE.eq_1, evE.eq_2, evE.eq_3, evE.eq_4, evE.eq_5, evE.eq_6, evE.eq_7, evE.eq_8, evE.eq_9, evE.eq_10, evE.eq_11, evE.eq_12, evE.eq_13, evE.eq_14, evE.eq_15, evE.eq_16, evE.eq_17, evE.eq_18, evE.eq_19, evE.eq_20, evE.eq_21, evE.eq_22, evL, evA, evO, evT, Iq.hd, deref, R.bind_ok, truth, intOf, callG, hdS, argsS, argS, putOuts, setOwn, outs, isOwn, io10, ix0, ix1, ix2, e1, e2, ga, stepB, isTys, isTy, ty_beq, cmpD, w2, w6, g8, g2, g6, notR, biD, int_eq]
              | true =>
                rw [g6] at g8
                cases c with
                | fn _ => exact absurd (plain_of hc) (by simp [plain])
                | dic _ => exact absurd (plain_of hc) (by simp [plain])
                | _ => simp [f12, Iq.run, ioFit, evB, evS, evE.eq_1, evE.eq_2, evE.eq_3, evE.eq_4, evE.eq_5, evE.eq_6, evE.eq_7, evE.eq_8, evE.eq_9, evE.eq_10, evE.eq_11, evE.eq_12, evE.eq_13, evE.eq_14, evE.eq_15, evE.eq_16, evE.eq_17, evE.eq_18, evE.eq_19, evE.eq_20, evE.eq_21, evE.eq_22, evL, evA, evO, evT, Iq.hd, deref, R.bind_ok, truth, intOf, callG, hdS, argsS, argS, putOuts, setOwn, outs, isOwn, io10, ix0, ix1, ix2, e1, e2, ga, stepB, isTys, isTy, ty_beq, cmpD, w2, w6, g8, g2, g6, notR, biD, int_eq, isM1]
          | fn _ => exact absurd (plain_of hb) (by simp [plain])
          | dic _ => exact absurd (plain_of hb) (by simp [plain])
          | _ => simp [f12, Iq.run, ioFit, evB, evS, evE.eq_1, evE.eq_2, evE.eq_3, evE.eq_4, evE.eq_5, evE.eq_6, evE.eq_7, evE.eq_8, evE.eq_9, evE.eq_10, evE.eq_11, evE.eq_12, evE.eq_13, evE.eq_14, evE.eq_15, evE.eq_16, evE.eq_17, evE.eq_18, evE.eq_19, evE.eq_20, evE.eq_21, evE.eq_22, evL, evA, evO, evT, Iq.hd, deref, R.bind_ok, truth, intOf, callG, hdS, argsS, argS, putOuts, setOwn, outs, isOwn, io10, ix0, ix1, ix2, e1, ga, stepB, isTys, isTy, ty_beq, biD, cmpD, int_eq, notR]
    · have : ((xs.length : Int) == 3) = false := by
        rw [beq_eq_false_iff_ne]; omega
      simp [f12, Iq.run, ioFit, evB, evS, evE.eq_1, evE.eq_2, evE.eq_3, evE.eq_4, evE.eq_5, evE.eq_6, evE.eq_7, evE.eq_8, evE.eq_9, evE.eq_10, evE.eq_11, evE.eq_12, evE.eq_13, evE.eq_14, evE.eq_15, evE.eq_16, evE.eq_17, evE.eq_18, evE.eq_19, evE.eq_20, evE.eq_21, evE.eq_22, evL, evA, evO, evT, Iq.hd, deref, R.bind_ok, truth, intOf, callG, hdS, argsS, argS, putOuts, setOwn, outs, isOwn, stepB_no hx, isTys, isTy, ty_beq, biD, cmpD, int_eq, notR, this]
  | fn _ => exact absurd (plain_of h) (by simp [plain])
  | dic _ => exact absurd (plain_of h) (by simp [plain])
  | _ => simp [f12, Iq.run, ioFit, evB, evS, evE.eq_1, evE.eq_2, evE.eq_3, evE.eq_4, evE.eq_5, evE.eq_6, evE.eq_7, evE.eq_8, evE.eq_9, evE.eq_10, evE.eq_11, evE.eq_12, evE.eq_13, evE.eq_14, evE.eq_15, evE.eq_16, evE.eq_17, evE.eq_18, evE.eq_19, evE.eq_20, evE.eq_21, evE.eq_22, evL, evA, evO, evT, Iq.hd, deref, R.bind_ok, truth, intOf, callG, hdS, argsS, argS, putOuts, setOwn, outs, isOwn, stepB, isTys, isTy, ty_beq]
end Q
set_option Elab.async false
set_option linter.all false
set_option maxRecDepth 100000
set_option maxHeartbeats 4000000
namespace Q
open PySem L2 Iq
def inG (w : Str) : Bool := inV (.str w) [.str "on", .str "off"]
def guardB : D → Bool
  | .str w => inG w
  | _ => false
theorem wG (w : Str) : inD (.str w) (.tup [.str "on", .str "off"]) = .ok (inG w) := rfl
theorem c5 (n : Nat) {d : D} (h : plain d = true) : (Pn (n + 1)).fn 5 [.shr d] = .ok (.bl (guardB d), false, []) := by
  rw [fn5]
  cases d <;> first | (simp only [plain] at h; cases h; done) | simp [f5, Iq.run, ioFit, evB, evS, evE.eq_1, evE.eq_2, evE.eq_3, evE.eq_4, evE.eq_5, evE.eq_6, evE.eq_7, evE.eq_8, evE.eq_9, evE.eq_10, evE.eq_11, evE.eq_12, evE.eq_13, evE.eq_14, evE.eq_15, evE.eq_16, evE.eq_17, evE.eq_18, evE.eq_19, evE.eq_20, evE.eq_21, evE.eq_22, evL, evA, evO, evT, Iq.hd, deref, R.bind_ok, truth, intOf, callG, hdS, argsS, argS, putOuts, setOwn, outs, isOwn, isTys, isTy, ty_beq, guardB, cmpD, cs4, wG]
/-! ### events -/
def one (g : D → Bool) : List D → Bool
  | [x] => g x
  | _ => false
def three (f g h : D → Bool) : List D → Bool
  | [x, y, z] => f x && (g y && h z)
  | _ => false
def eventB : D → Bool
  | .tup (.str h :: r) => if h = "step" then one stepB r else if h = "exclude" ∨ h = "allow" then three nameB isNum nameB r else if h = "guard" then one guardB r else if h = "mark" then one nameB r else false
  | _ => false
theorem fit (h : Str) : keyFit parts (.inr h) = true := rfl
theorem v1 : valD parts (.inr "step") = some (.tup [.fn 4]) := rfl
theorem v2 : valD parts (.inr "exclude") = some (.tup [.fn 2, .fn 1, .fn 2]) := rfl
theorem v3 : valD parts (.inr "allow") = some (.tup [.fn 2, .fn 1, .fn 2]) := rfl
theorem v4 : valD parts (.inr "guard") = some (.tup [.fn 5]) := rfl
theorem v5 : valD parts (.inr "mark") = some (.tup [.fn 2]) := rfl
theorem v0 {h : Str} (h1 : h ≠ "step") (h2 : h ≠ "exclude") (h3 : h ≠ "allow") (h4 : h ≠ "guard") (h5 : h ≠ "mark") : valD parts (.inr h) = none := by
  have : ∀ a : Str, h ≠ a → decide ((Sum.inr a : Key) = Sum.inr h) = false := fun a q => decide_eq_false fun z => q (by injection z with z; exact z.symm)
  simp only [valD, parts, List.find?_cons, this _ h1, this _ h2, this _ h3, this _ h4, this _ h5, List.find?_nil, Option.map_none]
/-- the head of is_event, where the word is known -/
theorem ev_tail {n : Nat} {h : Str} {r cs : List D} {b : Bool} (hv : valD parts (.inr h) = some (.tup cs)) (hn : eqD (.tup (.str h :: r)) (.tup []) = .ok false)
    (go : evE (Pn n) (.and (.cmp .Eq (.bi .len (.var 2)) (.bi .len (.var 3))) (.bi .all (.comp (.calv 4 [(.var 5)]) (.tp [4, 5]) .zip [(.var 3), (.var 2)] none))) [.shr (.tup (.str h :: r)), .shr (.str h), .own false (.lst r), .shr (.tup cs), .no, .no] = .ok (.bl b, false, [.shr (.tup (.str h :: r)), .shr (.str h), .shr (.lst r), .shr (.tup cs), .no, .no]) ∨
      evE (Pn n) (.and (.cmp .Eq (.bi .len (.var 2)) (.bi .len (.var 3))) (.bi .all (.comp (.calv 4 [(.var 5)]) (.tp [4, 5]) .zip [(.var 3), (.var 2)] none))) [.shr (.tup (.str h :: r)), .shr (.str h), .own false (.lst r), .shr (.tup cs), .no, .no] = .ok (.bl b, false, [.shr (.tup (.str h :: r)), .shr (.str h), .own false (.lst r), .shr (.tup cs), .no, .no])) :
    Iq.run (Pn n) f6 [.shr (.tup (.str h :: r))] = .ok (.bl b, false, []) := by
  have p1 : evS (Pn n) (.ife (.or (.nt (.at (.isi (.var 0) [.tuple]))) (.or (.at (.cmp .Eq (.var 0) (.tup []))) (.or (.nt (.at (.isi (.idx (.var 0) (.con (.int 0))) [.str]))) (.at (.cmp .NotIn (.idx (.var 0) (.con (.int 0))) (.glo 5)))))) [.ret (.con (.bl false))] []) [.shr (.tup (.str h :: r)), .no, .no, .no, .no, .no] = .ok (.nx, [.shr (.tup (.str h :: r)), .no, .no, .no, .no, .no]) := by
    simp [Iq.run, ioFit, evB, evS, evE.eq_1, evE.eq_2, evE.eq_3, evE.eq_4, evE.eq_5, evE.eq_6, evE.eq_7, evE.eq_8, evE.eq_9, evE.eq_10, evE.eq_11, evE.eq_12, evE.eq_13, evE.eq_14, evE.eq_15, evE.eq_16, evE.eq_17, evE.eq_18, evE.eq_19, evE.eq_20, evE.eq_21, evE.eq_22, evL, evA, evO, evT, Iq.hd, deref, R.bind_ok, truth, intOf, callG, hdS, argsS, argS, putOuts, setOwn, outs, isOwn, isTys, isTy, ty_beq, cmpD, hn, ix0, notR, inD, Iq.keyOf, fit, hv, cs5]
  have p2 : evS (Pn n) (.star 1 2 (.var 0)) [.shr (.tup (.str h :: r)), .no, .no, .no, .no, .no] = .ok (.nx, [.shr (.tup (.str h :: r)), .shr (.str h), .own false (.lst r), .no, .no, .no]) := by
    simp [Iq.run, ioFit, evB, evS, evE.eq_1, evE.eq_2, evE.eq_3, evE.eq_4, evE.eq_5, evE.eq_6, evE.eq_7, evE.eq_8, evE.eq_9, evE.eq_10, evE.eq_11, evE.eq_12, evE.eq_13, evE.eq_14, evE.eq_15, evE.eq_16, evE.eq_17, evE.eq_18, evE.eq_19, evE.eq_20, evE.eq_21, evE.eq_22, evL, evA, evO, evT, Iq.hd, deref, R.bind_ok, truth, intOf, callG, hdS, argsS, argS, putOuts, setOwn, outs, isOwn]
  have p3 : evS (Pn n) (.asg 3 (.idx (.glo 5) (.var 1))) [.shr (.tup (.str h :: r)), .shr (.str h), .own false (.lst r), .no, .no, .no] = .ok (.nx, [.shr (.tup (.str h :: r)), .shr (.str h), .own false (.lst r), .shr (.tup cs), .no, .no]) := by
    simp [Iq.run, ioFit, evB, evS, evE.eq_1, evE.eq_2, evE.eq_3, evE.eq_4, evE.eq_5, evE.eq_6, evE.eq_7, evE.eq_8, evE.eq_9, evE.eq_10, evE.eq_11, evE.eq_12, evE.eq_13, evE.eq_14, evE.eq_15, evE.eq_16, evE.eq_17, evE.eq_18, evE.eq_19, evE.eq_20, evE.eq_21, evE.eq_22, evL, evA, evO, evT, Iq.hd, deref, R.bind_ok, truth, intOf, callG, hdS, argsS, argS, putOuts, setOwn, outs, isOwn, cs5, idxD, Iq.keyOf, fit, hv]
  have e : ∃ ς', evB (Pn n) f6.body [.shr (.tup (.str h :: r)), .no, .no, .no, .no, .no] = .ok (.rt (.bl b) false, ς') := by
    rcases go with go | go
    · exact ⟨_, ev_nx p1 (ev_nx p2 (ev_nx p3 (ev_rt (by simp only [evS, go, R.bind_ok]; rfl))))⟩
    · exact ⟨_, ev_nx p1 (ev_nx p2 (ev_nx p3 (ev_rt (by simp only [evS, go, R.bind_ok]; rfl))))⟩
  obtain ⟨ς', e⟩ := e
  have e' : evB (Pn n) f6.body ([.shr (.tup (.str h :: r))] ++ List.replicate (f6.nl - f6.np) .no) = .ok (.rt (.bl b) false, ς') := e
  unfold Iq.run
  rw [if_pos ⟨rfl, by decide, by decide, rfl⟩, e']
  rfl
theorem ev_short {n : Nat} {ς : List Sl} {r cs : List D} (hl : ((r.length : Int) == cs.length) = false) (h2 : ς[2]? = some (.own false (.lst r))) (h3 : ς[3]? = some (.shr (.tup cs))) :
    evE (Pn n) (.and (.cmp .Eq (.bi .len (.var 2)) (.bi .len (.var 3))) (.bi .all (.comp (.calv 4 [(.var 5)]) (.tp [4, 5]) .zip [(.var 3), (.var 2)] none))) ς = .ok (.bl false, false, ς) := by
  simp [Iq.run, ioFit, evB, evS, evE.eq_1, evE.eq_2, evE.eq_3, evE.eq_4, evE.eq_5, evE.eq_6, evE.eq_7, evE.eq_8, evE.eq_9, evE.eq_10, evE.eq_11, evE.eq_12, evE.eq_13, evE.eq_14, evE.eq_15, evE.eq_16, evE.eq_17, evE.eq_18, evE.eq_19, evE.eq_20, evE.eq_21, evE.eq_22, evL, evA, evO, evT, Iq.hd, deref, R.bind_ok, truth, intOf, callG, hdS, argsS, argS, putOuts, setOwn, outs, isOwn, h2, h3, biD, cmpD, int_eq, hl]
theorem ev_one {n k : Nat} {g : D → Bool} {t : D} {h : Str} {x : D} (io : (Pn n).io k = []) (e : (Pn n).fn k [.shr x] = .ok (.bl (g x), false, [])) :
    evE (Pn n) (.and (.cmp .Eq (.bi .len (.var 2)) (.bi .len (.var 3))) (.bi .all (.comp (.calv 4 [(.var 5)]) (.tp [4, 5]) .zip [(.var 3), (.var 2)] none))) [.shr t, .shr (.str h), .own false (.lst [x]), .shr (.tup [.fn k]), .no, .no] = .ok (.bl (g x), false, [.shr t, .shr (.str h), .shr (.lst [x]), .shr (.tup [.fn k]), .no, .no]) := by
  have lc : lcGo (evQ (Pn n) none) (evE (Pn n) (.calv 4 [(.var 5)])) (.tp [4, 5]) [.tup [.fn k, x]] [.shr t, .shr (.str h), .shr (.lst [x]), .shr (.tup [.fn k]), .no, .no] = .ok ([.bl (g x)], [.shr t, .shr (.str h), .shr (.lst [x]), .shr (.tup [.fn k]), .shr (.fn k), .shr x]) := by
    simp [lcGo, bindT, setAll, wipeS, tgS, evQ, Iq.run, ioFit, evB, evS, evE.eq_1, evE.eq_2, evE.eq_3, evE.eq_4, evE.eq_5, evE.eq_6, evE.eq_7, evE.eq_8, evE.eq_9, evE.eq_10, evE.eq_11, evE.eq_12, evE.eq_13, evE.eq_14, evE.eq_15, evE.eq_16, evE.eq_17, evE.eq_18, evE.eq_19, evE.eq_20, evE.eq_21, evE.eq_22, evL, evA, evO, evT, Iq.hd, deref, R.bind_ok, truth, intOf, callG, hdS, argsS, argS, putOuts, setOwn, outs, isOwn, io, e]
  have co := ev_comp (P := Pn n) (ss := [(.var 3), (.var 2)]) (ς := [.shr t, .shr (.str h), .own false (.lst [x]), .shr (.tup [.fn k]), .no, .no]) (k := .zip) (rs := [.tup [.fn k], .lst [x]]) (ς1 := [.shr t, .shr (.str h), .shr (.lst [x]), .shr (.tup [.fn k]), .no, .no]) (by simp [Iq.run, ioFit, evB, evS, evE.eq_1, evE.eq_2, evE.eq_3, evE.eq_4, evE.eq_5, evE.eq_6, evE.eq_7, evE.eq_8, evE.eq_9, evE.eq_10, evE.eq_11, evE.eq_12, evE.eq_13, evE.eq_14, evE.eq_15, evE.eq_16, evE.eq_17, evE.eq_18, evE.eq_19, evE.eq_20, evE.eq_21, evE.eq_22, evL, evA, evO, evT, Iq.hd, deref, R.bind_ok, truth, intOf, callG, hdS, argsS, argS, putOuts, setOwn, outs, isOwn]) rfl rfl lc
  simp [Iq.run, ioFit, evB, evS, evE.eq_1, evE.eq_2, evE.eq_3, evE.eq_4, evE.eq_5, evE.eq_6, evE.eq_7, evE.eq_8, evE.eq_9, evE.eq_10, evE.eq_11, evE.eq_12, evE.eq_13, evE.eq_14, evE.eq_15, evE.eq_16, evE.eq_17, evE.eq_18, evE.eq_19, evE.eq_20, evE.eq_21, evE.eq_22, evL, evA, evO, evT, Iq.hd, deref, R.bind_ok, truth, intOf, callG, hdS, argsS, argS, putOuts, setOwn, outs, isOwn, biD, cmpD, int_eq, co, bls, backS, tgS]
theorem ev_three {n : Nat} {t : D} {h : Str} {x y z : D} (ex : (Pn n).fn 2 [.shr x] = .ok (.bl (nameB x), false, [])) (ey : (Pn n).fn 1 [.shr y] = .ok (.bl (isNum y), false, [])) (ez : (Pn n).fn 2 [.shr z] = .ok (.bl (nameB z), false, [])) :
    evE (Pn n) (.and (.cmp .Eq (.bi .len (.var 2)) (.bi .len (.var 3))) (.bi .all (.comp (.calv 4 [(.var 5)]) (.tp [4, 5]) .zip [(.var 3), (.var 2)] none))) [.shr t, .shr (.str h), .own false (.lst [x, y, z]), .shr (.tup [.fn 2, .fn 1, .fn 2]), .no, .no] = .ok (.bl (nameB x && (isNum y && nameB z)), false, [.shr t, .shr (.str h), .shr (.lst [x, y, z]), .shr (.tup [.fn 2, .fn 1, .fn 2]), .no, .no]) := by
  have lc : lcGo (evQ (Pn n) none) (evE (Pn n) (.calv 4 [(.var 5)])) (.tp [4, 5]) [.tup [.fn 2, x], .tup [.fn 1, y], .tup [.fn 2, z]] [.shr t, .shr (.str h), .shr (.lst [x, y, z]), .shr (.tup [.fn 2, .fn 1, .fn 2]), .no, .no] = .ok ([.bl (nameB x), .bl (isNum y), .bl (nameB z)], [.shr t, .shr (.str h), .shr (.lst [x, y, z]), .shr (.tup [.fn 2, .fn 1, .fn 2]), .shr (.fn 2), .shr z]) := by
    simp [lcGo, bindT, setAll, wipeS, tgS, evQ, Iq.run, ioFit, evB, evS, evE.eq_1, evE.eq_2, evE.eq_3, evE.eq_4, evE.eq_5, evE.eq_6, evE.eq_7, evE.eq_8, evE.eq_9, evE.eq_10, evE.eq_11, evE.eq_12, evE.eq_13, evE.eq_14, evE.eq_15, evE.eq_16, evE.eq_17, evE.eq_18, evE.eq_19, evE.eq_20, evE.eq_21, evE.eq_22, evL, evA, evO, evT, Iq.hd, deref, R.bind_ok, truth, intOf, callG, hdS, argsS, argS, putOuts, setOwn, outs, isOwn, io2, io1, ex, ey, ez]
  have co := ev_comp (P := Pn n) (ss := [(.var 3), (.var 2)]) (ς := [.shr t, .shr (.str h), .own false (.lst [x, y, z]), .shr (.tup [.fn 2, .fn 1, .fn 2]), .no, .no]) (k := .zip) (rs := [.tup [.fn 2, .fn 1, .fn 2], .lst [x, y, z]]) (ς1 := [.shr t, .shr (.str h), .shr (.lst [x, y, z]), .shr (.tup [.fn 2, .fn 1, .fn 2]), .no, .no]) (by simp [Iq.run, ioFit, evB, evS, evE.eq_1, evE.eq_2, evE.eq_3, evE.eq_4, evE.eq_5, evE.eq_6, evE.eq_7, evE.eq_8, evE.eq_9, evE.eq_10, evE.eq_11, evE.eq_12, evE.eq_13, evE.eq_14, evE.eq_15, evE.eq_16, evE.eq_17, evE.eq_18, evE.eq_19, evE.eq_20, evE.eq_21, evE.eq_22, evL, evA, evO, evT, Iq.hd, deref, R.bind_ok, truth, intOf, callG, hdS, argsS, argS, putOuts, setOwn, outs, isOwn]) rfl rfl lc
  simp [Iq.run, ioFit, evB, evS, evE.eq_1, evE.eq_2, evE.eq_3, evE.eq_4, evE.eq_5, evE.eq_6, evE.eq_7, evE.eq_8, evE.eq_9, evE.eq_10, evE.eq_11, evE.eq_12, evE.eq_13, evE.eq_14, evE.eq_15, evE.eq_16, evE.eq_17, evE.eq_18, evE.eq_19, evE.eq_20, evE.eq_21, evE.eq_22, evL, evA, evO, evT, Iq.hd, deref, R.bind_ok, truth, intOf, callG, hdS, argsS, argS, putOuts, setOwn, outs, isOwn, biD, cmpD, int_eq, co, bls, backS, tgS]
theorem nil_no {l k : Nat} {x : D} {r : List D} (h : okB l k (.tup (x :: r)) = true) (hk : k ≤ 64) : eqD (.tup (x :: r)) (.tup []) = .ok false := tup_nil h hk
theorem ok_succ {l k : Nat} {xs : List D} (h : okB l k (.tup xs) = true) : ∃ k', k = k' + 1 ∧ ∀ x ∈ xs, okB l k' x = true := by
  cases k with
  | zero => simp only [okB] at h; cases h
  | succ k =>
    simp only [okB, Bool.and_eq_true, List.all_eq_true] at h
    exact ⟨k, rfl, h.2⟩
theorem len_no {r cs : List D} (h : r.length ≠ cs.length) : ((r.length : Int) == cs.length) = false := by
  rw [beq_eq_false_iff_ne]; omega
theorem one_no {g : D → Bool} {r : List D} (h : r.length ≠ 1) : one g r = false := by
  rcases r with _ | ⟨a, _ | ⟨b, r⟩⟩
  · rfl
  · simp at h
  · rfl
theorem three_no {f g i : D → Bool} {r : List D} (h : r.length ≠ 3) : three f g i r = false := by
  rcases r with _ | ⟨a, _ | ⟨b, _ | ⟨c, _ | ⟨e, r⟩⟩⟩⟩
  · rfl
  · rfl
  · rfl
  · simp at h
  · rfl
theorem small {l k : Nat} {d : D} (h : okB l k d = true) (hl : l ≤ 1000) : ∀ s, d = .str s → s.length ≤ sizeLine := fun s e => by
  subst e
  simp only [okB, okS, Bool.and_eq_true, decide_eq_true_eq] at h
  have : sizeLine = 16777216 := sizeLine_eq
  omega
theorem c6 (n : Nat) {d : D} {l k : Nat} (h : okB l k d = true) (hl : l ≤ 1000) (hk : k ≤ 64) : (Pn (n + 4)).fn 6 [.shr d] = .ok (.bl (eventB d), false, []) := by
  rw [fn6]
  cases d with
  | fn _ => exact absurd (plain_of h) (by simp [plain])
  | dic _ => exact absurd (plain_of h) (by simp [plain])
  | tup xs =>
    obtain ⟨k', rfl, hx⟩ := ok_succ h
    cases xs with
    | nil =>
      have := tup_nil h hk
      simp [f6, Iq.run, ioFit, evB, evS, evE.eq_1, evE.eq_2, evE.eq_3, evE.eq_4, evE.eq_5, evE.eq_6, evE.eq_7, evE.eq_8, evE.eq_9, evE.eq_10, evE.eq_11, evE.eq_12, evE.eq_13, evE.eq_14, evE.eq_15, evE.eq_16, evE.eq_17, evE.eq_18, evE.eq_19, evE.eq_20, evE.eq_21, evE.eq_22, evL, evA, evO, evT, Iq.hd, deref, R.bind_ok, truth, intOf, callG, hdS, argsS, argS, putOuts, setOwn, outs, isOwn, isTys, isTy, ty_beq, cmpD, this, eventB]
    | cons x r =>
      have hn := nil_no h hk
      have hr : ∀ y ∈ r, okB l k' y = true := fun y hy => hx y (List.mem_cons_of_mem _ hy)
      have h0 := hx x (by simp)
      cases x with
      | fn _ => exact absurd (plain_of h0) (by simp [plain])
      | dic _ => exact absurd (plain_of h0) (by simp [plain])
      | str w =>
        have ones : ∀ {f : Nat} {g : D → Bool}, valD parts (.inr w) = some (.tup [.fn f]) → (Pn (n + 3)).io f = [] → (∀ y ∈ r, (Pn (n + 3)).fn f [.shr y] = .ok (.bl (g y), false, [])) → Iq.run (Pn (n + 3)) f6 [.shr (.tup (.str w :: r))] = .ok (.bl (one g r), false, []) := fun {f g} hv hio hg => by
          by_cases hle : r.length = 1
          · match r, hle, hg, hn with
            | [y], _, hg, hn => exact ev_tail hv hn (.inl (ev_one hio (hg y (by simp))))
          · rw [one_no hle]
            exact ev_tail hv hn (.inr (ev_short (len_no hle) rfl rfl))
        have trees : valD parts (.inr w) = some (.tup [.fn 2, .fn 1, .fn 2]) → Iq.run (Pn (n + 3)) f6 [.shr (.tup (.str w :: r))] = .ok (.bl (three nameB isNum nameB r), false, []) := fun hv => by
          by_cases hle : r.length = 3
          · match r, hle, hr, hn with
            | [x, y, z], _, hr, hn => exact ev_tail hv hn (.inl (ev_three (c2 (n + 2) (plain_of (hr x (by simp))) (small (hr x (by simp)) hl)) (c1 (n + 1) (plain_of (hr y (by simp)))) (c2 (n + 2) (plain_of (hr z (by simp))) (small (hr z (by simp)) hl))))
          · rw [three_no hle]
            exact ev_tail hv hn (.inr (ev_short (len_no hle) rfl rfl))
        simp only [eventB]
        by_cases w1 : w = "step"
        · subst w1
          rw [if_pos rfl]
          exact ones v1 (io4 _) fun y hy => c4 n (hr y hy)
        rw [if_neg w1]
        by_cases w2 : w = "exclude"
        · subst w2
          rw [if_pos (.inl rfl)]
          exact trees v2
        by_cases w3 : w = "allow"
        · subst w3
          rw [if_pos (.inr rfl)]
          exact trees v3
        rw [if_neg (fun z => z.elim w2 w3)]
        by_cases w4 : w = "guard"
        · subst w4
          rw [if_pos rfl]
          exact ones v4 (io5 _) fun y hy => c5 (n + 2) (plain_of (hr y hy))
        rw [if_neg w4]
        by_cases w5 : w = "mark"
        · subst w5
          rw [if_pos rfl]
          exact ones v5 (io2 _) fun y hy => c2 (n + 2) (plain_of (hr y hy)) (small (hr y hy) hl)
        rw [if_neg w5]
        simp [f6, Iq.run, ioFit, evB, evS, evE.eq_1, evE.eq_2, evE.eq_3, evE.eq_4, evE.eq_5, evE.eq_6, evE.eq_7, evE.eq_8, evE.eq_9, evE.eq_10, evE.eq_11, evE.eq_12, evE.eq_13, evE.eq_14, evE.eq_15, evE.eq_16, evE.eq_17, evE.eq_18, evE.eq_19, evE.eq_20, evE.eq_21, evE.eq_22, evL, evA, evO, evT, Iq.hd, deref, R.bind_ok, truth, intOf, callG, hdS, argsS, argS, putOuts, setOwn, outs, isOwn, isTys, isTy, ty_beq, cmpD, hn, ix0, notR, inD, Iq.keyOf, fit, v0 w1 w2 w3 w4 w5, cs5]
      | _ => simp [f6, Iq.run, ioFit, evB, evS, evE.eq_1, evE.eq_2, evE.eq_3, evE.eq_4, evE.eq_5, evE.eq_6, evE.eq_7, evE.eq_8, evE.eq_9, evE.eq_10, evE.eq_11, evE.eq_12, evE.eq_13, evE.eq_14, evE.eq_15, evE.eq_16, evE.eq_17, evE.eq_18, evE.eq_19, evE.eq_20, evE.eq_21, evE.eq_22, evL, evA, evO, evT, Iq.hd, deref, R.bind_ok, truth, intOf, callG, hdS, argsS, argS, putOuts, setOwn, outs, isOwn, isTys, isTy, ty_beq, cmpD, hn, ix0, eventB]
  | _ => simp [f6, Iq.run, ioFit, evB, evS, evE.eq_1, evE.eq_2, evE.eq_3, evE.eq_4, evE.eq_5, evE.eq_6, evE.eq_7, evE.eq_8, evE.eq_9, evE.eq_10, evE.eq_11, evE.eq_12, evE.eq_13, evE.eq_14, evE.eq_15, evE.eq_16, evE.eq_17, evE.eq_18, evE.eq_19, evE.eq_20, evE.eq_21, evE.eq_22, evL, evA, evO, evT, Iq.hd, deref, R.bind_ok, truth, intOf, callG, hdS, argsS, argS, putOuts, setOwn, outs, isOwn, isTys, isTy, ty_beq, eventB]
end Q
set_option Elab.async false
set_option linter.all false
set_option maxRecDepth 100000
set_option maxHeartbeats 4000000
namespace Q
open PySem L2 Iq
theorem wX (h : Str) : inD (.str h) (.tup [.str "exclude", .str "allow"]) = .ok (decide (h = "exclude" ∨ h = "allow")) := by
  have : inD (.str h) (.tup [.str "exclude", .str "allow"]) = .ok (inV (.str h) [.str "exclude", .str "allow"]) := rfl
  rw [this]
  congr 1
  rw [Bool.eq_iff_iff]
  simp only [inV, eqV, List.any_cons, List.any_nil, Bool.or_false, Bool.or_eq_true, beq_iff_eq, decide_eq_true_eq]
  exact ⟨fun z => z.imp Eq.symm Eq.symm, fun z => z.imp Eq.symm Eq.symm⟩
theorem str_eq' {x y : Str} (hx : PyData.strOk x = true) (hy : PyData.strOk y = true) : eqD (.str x) (.str y) = .ok (decide (x = y)) := by
  rw [str_eq hx hy]
  congr 1
theorem sk1 : PyData.strOk "step" = true := by decide +kernel
theorem sk2 : PyData.strOk "guard" = true := by decide +kernel
theorem sk3 : PyData.strOk "mark" = true := by decide +kernel
theorem len_eq {m : Nat} {r : List D} : ((r.length : Int) == (m : Int)) = decide (r.length = m) := by
  rw [Bool.eq_iff_iff]; simp; omega
theorem c13 (n : Nat) {d : D} {l k : Nat} (h : okB l k d = true) (hl : l ≤ 1000) (hk : k ≤ 64) : (Pn (n + 3)).fn 13 [.shr d] = .ok (.bl (eventB d), false, []) := by
  rw [fn13]
  cases d with
  | fn _ => exact absurd (plain_of h) (by simp [plain])
  | dic _ => exact absurd (plain_of h) (by simp [plain])
  | tup xs =>
    obtain ⟨k', rfl, hx⟩ := ok_succ h
    cases xs with
    | nil => simp [f13, Iq.run, ioFit, evB, evS, evE.eq_1, evE.eq_2, evE.eq_3, evE.eq_4, evE.eq_5, evE.eq_6, evE.eq_7, evE.eq_8, evE.eq_9, evE.eq_10, evE.eq_11, evE.eq_12, evE.eq_13, evE.eq_14, evE.eq_15, evE.eq_16, evE.eq_17, evE.eq_18, evE.eq_19, evE.eq_20, evE.eq_21, evE.eq_22, evL, evA, evO, evT, Iq.hd, deref, R.bind_ok, truth, intOf, callG, hdS, argsS, argS, putOuts, setOwn, outs, isOwn, isTys, isTy, ty_beq, cmpD, ltD, biD, eventB]
    | cons x r =>
      have hr : ∀ y ∈ r, okB l k' y = true := fun y hy => hx y (List.mem_cons_of_mem _ hy)
      have h0 := hx x (by simp)
      cases r with
      | nil =>
        have : eventB (.tup [x]) = false := by
          cases x <;> simp only [eventB]
          split
          · rfl
          · split
            · rfl
            · split
              · rfl
              · split <;> rfl
        simp [f13, Iq.run, ioFit, evB, evS, evE.eq_1, evE.eq_2, evE.eq_3, evE.eq_4, evE.eq_5, evE.eq_6, evE.eq_7, evE.eq_8, evE.eq_9, evE.eq_10, evE.eq_11, evE.eq_12, evE.eq_13, evE.eq_14, evE.eq_15, evE.eq_16, evE.eq_17, evE.eq_18, evE.eq_19, evE.eq_20, evE.eq_21, evE.eq_22, evL, evA, evO, evT, Iq.hd, deref, R.bind_ok, truth, intOf, callG, hdS, argsS, argS, putOuts, setOwn, outs, isOwn, isTys, isTy, ty_beq, cmpD, ltD, biD, this]
      | cons y r =>
        have l2 : ¬ ((r.length : Int) + 1 + 1 < 2) := by omega
        cases x with
        | fn _ => exact absurd (plain_of h0) (by simp [plain])
        | dic _ => exact absurd (plain_of h0) (by simp [plain])
        | str w =>
          have sw : PyData.strOk w = true := by
            simp only [okB, okS, Bool.and_eq_true] at h0
            exact h0.2
          have q1 : evS (Pn (n + 2)) (.ife (.or (.nt (.at (.isi (.var 0) [.tuple]))) (.or (.at (.cmp .Lt (.bi .len (.var 0)) (.con (.int 2)))) (.nt (.at (.isi (.idx (.var 0) (.con (.int 0))) [.str]))))) [.ret (.con (.bl false))] []) [.shr (.tup (.str w :: y :: r))] = .ok (.nx, [.shr (.tup (.str w :: y :: r))]) := by
            simp [Iq.run, ioFit, evB, evS, evE.eq_1, evE.eq_2, evE.eq_3, evE.eq_4, evE.eq_5, evE.eq_6, evE.eq_7, evE.eq_8, evE.eq_9, evE.eq_10, evE.eq_11, evE.eq_12, evE.eq_13, evE.eq_14, evE.eq_15, evE.eq_16, evE.eq_17, evE.eq_18, evE.eq_19, evE.eq_20, evE.eq_21, evE.eq_22, evL, evA, evO, evT, Iq.hd, deref, R.bind_ok, truth, intOf, callG, hdS, argsS, argS, putOuts, setOwn, outs, isOwn, isTys, isTy, ty_beq, cmpD, ltD, biD, ix0, l2]
          have fin : ∀ {b : Bool} {ς'}, evB (Pn (n + 2)) f13.body [.shr (.tup (.str w :: y :: r))] = .ok (.rt (.bl b) false, ς') → Iq.run (Pn (n + 2)) f13 [.shr (.tup (.str w :: y :: r))] = .ok (.bl b, false, []) := fun {b ς'} e => by
            have e' : evB (Pn (n + 2)) f13.body ([.shr (.tup (.str w :: y :: r))] ++ List.replicate (f13.nl - f13.np) .no) = .ok (.rt (.bl b) false, ς') := e
            unfold Iq.run
            rw [if_pos ⟨rfl, by decide, by decide, rfl⟩, e']
            rfl
          simp only [eventB]
          by_cases wx : w = "exclude" ∨ w = "allow"
          · have w1 : w ≠ "step" := fun z => by subst z; revert wx; decide +kernel
            rw [if_neg w1, if_pos wx]
            refine fin (ev_nx q1 (ev_rt (ς1 := [.shr (.tup (.str w :: y :: r))]) ?_))
            by_cases hle : r.length = 2
            · match r, hle, hr with
              | [u, v], _, hr =>
                have e1 := c11 (n + 1) (hr y (by simp)) hl (plain_of (hr y (by simp)))
                have e2 := c10 (n + 1) (plain_of (hr u (by simp)))
                have e3 := c11 (n + 1) (hr v (by simp)) hl (plain_of (hr v (by simp)))
                cases g1 : nameB y <;> rw [g1] at e1 <;> cases g2 : isNum u <;> rw [g2] at e2 <;> simp [Iq.run, ioFit, evB, evS, evE.eq_1, evE.eq_2, evE.eq_3, evE.eq_4, evE.eq_5, evE.eq_6, evE.eq_7, evE.eq_8, evE.eq_9, evE.eq_10, evE.eq_11, evE.eq_12, evE.eq_13, evE.eq_14, evE.eq_15, evE.eq_16, evE.eq_17, evE.eq_18, evE.eq_19, evE.eq_20, evE.eq_21, evE.eq_22, evL, evA, evO, evT, Iq.hd, deref, R.bind_ok, truth, intOf, callG, hdS, argsS, argS, putOuts, setOwn, outs, isOwn, cmpD, ix0, ix1, ix2, ix3, wX, wx, biD, int_eq, io11, io10, e1, e2, e3, three, g1, g2]
            · have : ((r.length : Int) + 1 + 1 == 4) = false := by
                rw [beq_eq_false_iff_ne]; omega
              rw [three_no (by simp; omega)]
              simp [Iq.run, ioFit, evB, evS, evE.eq_1, evE.eq_2, evE.eq_3, evE.eq_4, evE.eq_5, evE.eq_6, evE.eq_7, evE.eq_8, evE.eq_9, evE.eq_10, evE.eq_11, evE.eq_12, evE.eq_13, evE.eq_14, evE.eq_15, evE.eq_16, evE.eq_17, evE.eq_18, evE.eq_19, evE.eq_20, evE.eq_21, evE.eq_22, evL, evA, evO, evT, Iq.hd, deref, R.bind_ok, truth, intOf, callG, hdS, argsS, argS, putOuts, setOwn, outs, isOwn, cmpD, ix0, wX, wx, biD, int_eq, this]
          · have q2 : evS (Pn (n + 2)) (.ife (.at (.cmp .In (.idx (.var 0) (.con (.int 0))) (.tup [(.con (.str "exclude")), (.con (.str "allow"))]))) [.ret (.and (.cmp .Eq (.bi .len (.var 0)) (.con (.int 4))) (.and (.call 11 [(.idx (.var 0) (.con (.int 1)))]) (.and (.call 10 [(.idx (.var 0) (.con (.int 2)))]) (.call 11 [(.idx (.var 0) (.con (.int 3)))]))))] []) [.shr (.tup (.str w :: y :: r))] = .ok (.nx, [.shr (.tup (.str w :: y :: r))]) := by
              have : decide (w = "exclude" ∨ w = "allow") = false := decide_eq_false wx
              simp [Iq.run, ioFit, evB, evS, evE.eq_1, evE.eq_2, evE.eq_3, evE.eq_4, evE.eq_5, evE.eq_6, evE.eq_7, evE.eq_8, evE.eq_9, evE.eq_10, evE.eq_11, evE.eq_12, evE.eq_13, evE.eq_14, evE.eq_15, evE.eq_16, evE.eq_17, evE.eq_18, evE.eq_19, evE.eq_20, evE.eq_21, evE.eq_22, evL, evA, evO, evT, Iq.hd, deref, R.bind_ok, truth, intOf, callG, hdS, argsS, argS, putOuts, setOwn, outs, isOwn, cmpD, ix0, wX, this]
            rw [if_neg wx]
            cases r with
            | cons z r =>
              have : ((r.length : Int) + 1 + 1 + 1 == 2) = false := by
                rw [beq_eq_false_iff_ne]; omega
              have hb : (if w = "step" then one stepB (y :: z :: r) else if w = "guard" then one guardB (y :: z :: r) else if w = "mark" then one nameB (y :: z :: r) else false) = false := by
                split
                · rfl
                · split
                  · rfl
                  · split <;> rfl
              rw [hb]
              refine fin (ev_nx q1 (ev_nx q2 (ev_rt (ς1 := [.shr (.tup (.str w :: y :: z :: r))]) ?_)))
              simp [Iq.run, ioFit, evB, evS, evE.eq_1, evE.eq_2, evE.eq_3, evE.eq_4, evE.eq_5, evE.eq_6, evE.eq_7, evE.eq_8, evE.eq_9, evE.eq_10, evE.eq_11, evE.eq_12, evE.eq_13, evE.eq_14, evE.eq_15, evE.eq_16, evE.eq_17, evE.eq_18, evE.eq_19, evE.eq_20, evE.eq_21, evE.eq_22, evL, evA, evO, evT, Iq.hd, deref, R.bind_ok, truth, intOf, callG, hdS, argsS, argS, putOuts, setOwn, outs, isOwn, cmpD, biD, int_eq, this, notR]
            | nil =>
              have q3 : evS (Pn (n + 2)) (.ife (.at (.cmp .NotEq (.bi .len (.var 0)) (.con (.int 2)))) [.ret (.con (.bl false))] []) [.shr (.tup [.str w, y])] = .ok (.nx, [.shr (.tup [.str w, y])]) := by
                simp [Iq.run, ioFit, evB, evS, evE.eq_1, evE.eq_2, evE.eq_3, evE.eq_4, evE.eq_5, evE.eq_6, evE.eq_7, evE.eq_8, evE.eq_9, evE.eq_10, evE.eq_11, evE.eq_12, evE.eq_13, evE.eq_14, evE.eq_15, evE.eq_16, evE.eq_17, evE.eq_18, evE.eq_19, evE.eq_20, evE.eq_21, evE.eq_22, evL, evA, evO, evT, Iq.hd, deref, R.bind_ok, truth, intOf, callG, hdS, argsS, argS, putOuts, setOwn, outs, isOwn, cmpD, biD, int_eq, notR]
              by_cases w1 : w = "step"
              · rw [if_pos w1]
                refine fin (ev_nx q1 (ev_nx q2 (ev_nx q3 (ev_rt (ς1 := [.shr (.tup [.str w, y])]) ?_))))
                have e1 := c12 n (hr y (by simp))
                simp [Iq.run, ioFit, evB, evS, evE.eq_1, evE.eq_2, evE.eq_3, evE.eq_4, evE.eq_5, evE.eq_6, evE.eq_7, evE.eq_8, evE.eq_9, evE.eq_10, evE.eq_11, evE.eq_12, evE.eq_13, evE.eq_14, evE.eq_15, evE.eq_16, evE.eq_17, evE.eq_18, evE.eq_19, evE.eq_20, evE.eq_21, evE.eq_22, evL, evA, evO, evT, Iq.hd, deref, R.bind_ok, truth, intOf, callG, hdS, argsS, argS, putOuts, setOwn, outs, isOwn, cmpD, ix0, ix1, (show eqD (.str w) (.str "step") = .ok true by rw [str_eq' sw sk1, decide_eq_true w1]), io12, e1, one]
              rw [if_neg w1]
              have q4 : evS (Pn (n + 2)) (.ife (.at (.cmp .Eq (.idx (.var 0) (.con (.int 0))) (.con (.str "step")))) [.ret (.call 12 [(.idx (.var 0) (.con (.int 1)))])] []) [.shr (.tup [.str w, y])] = .ok (.nx, [.shr (.tup [.str w, y])]) := by
                simp [Iq.run, ioFit, evB, evS, evE.eq_1, evE.eq_2, evE.eq_3, evE.eq_4, evE.eq_5, evE.eq_6, evE.eq_7, evE.eq_8, evE.eq_9, evE.eq_10, evE.eq_11, evE.eq_12, evE.eq_13, evE.eq_14, evE.eq_15, evE.eq_16, evE.eq_17, evE.eq_18, evE.eq_19, evE.eq_20, evE.eq_21, evE.eq_22, evL, evA, evO, evT, Iq.hd, deref, R.bind_ok, truth, intOf, callG, hdS, argsS, argS, putOuts, setOwn, outs, isOwn, cmpD, ix0, (show eqD (.str w) (.str "step") = .ok false by rw [str_eq' sw sk1, decide_eq_false w1])]
              by_cases w2 : w = "guard"
              · rw [if_pos w2]
                refine fin (ev_nx q1 (ev_nx q2 (ev_nx q3 (ev_nx q4 (ev_rt (ς1 := [.shr (.tup [.str w, y])]) ?_)))))
                have hy := plain_of (hr y (by simp))
                cases y <;> first | (simp only [plain] at hy; cases hy; done) | simp [Iq.run, ioFit, evB, evS, evE.eq_1, evE.eq_2, evE.eq_3, evE.eq_4, evE.eq_5, evE.eq_6, evE.eq_7, evE.eq_8, evE.eq_9, evE.eq_10, evE.eq_11, evE.eq_12, evE.eq_13, evE.eq_14, evE.eq_15, evE.eq_16, evE.eq_17, evE.eq_18, evE.eq_19, evE.eq_20, evE.eq_21, evE.eq_22, evL, evA, evO, evT, Iq.hd, deref, R.bind_ok, truth, intOf, callG, hdS, argsS, argS, putOuts, setOwn, outs, isOwn, cmpD, ix0, ix1, (show eqD (.str w) (.str "guard") = .ok true by rw [str_eq' sw sk2, decide_eq_true w2]), one, guardB, isTys, isTy, ty_beq, wG]
              rw [if_neg w2]
              have q5 : evS (Pn (n + 2)) (.ife (.at (.cmp .Eq (.idx (.var 0) (.con (.int 0))) (.con (.str "guard")))) [.ret (.and (.isi (.idx (.var 0) (.con (.int 1))) [.str]) (.cmp .In (.idx (.var 0) (.con (.int 1))) (.tup [(.con (.str "on")), (.con (.str "off"))])))] []) [.shr (.tup [.str w, y])] = .ok (.nx, [.shr (.tup [.str w, y])]) := by
                simp [Iq.run, ioFit, evB, evS, evE.eq_1, evE.eq_2, evE.eq_3, evE.eq_4, evE.eq_5, evE.eq_6, evE.eq_7, evE.eq_8, evE.eq_9, evE.eq_10, evE.eq_11, evE.eq_12, evE.eq_13, evE.eq_14, evE.eq_15, evE.eq_16, evE.eq_17, evE.eq_18, evE.eq_19, evE.eq_20, evE.eq_21, evE.eq_22, evL, evA, evO, evT, Iq.hd, deref, R.bind_ok, truth, intOf, callG, hdS, argsS, argS, putOuts, setOwn, outs, isOwn, cmpD, ix0, (show eqD (.str w) (.str "guard") = .ok false by rw [str_eq' sw sk2, decide_eq_false w2])]
              refine fin (ev_nx q1 (ev_nx q2 (ev_nx q3 (ev_nx q4 (ev_nx q5 (ev_rt (ς1 := [.shr (.tup [.str w, y])]) ?_))))))
              have e1 := c11 (n + 1) (hr y (by simp)) hl (plain_of (hr y (by simp)))
              by_cases w3 : w = "mark"
              · rw [if_pos w3]
                simp [Iq.run, ioFit, evB, evS, evE.eq_1, evE.eq_2, evE.eq_3, evE.eq_4, evE.eq_5, evE.eq_6, evE.eq_7, evE.eq_8, evE.eq_9, evE.eq_10, evE.eq_11, evE.eq_12, evE.eq_13, evE.eq_14, evE.eq_15, evE.eq_16, evE.eq_17, evE.eq_18, evE.eq_19, evE.eq_20, evE.eq_21, evE.eq_22, evL, evA, evO, evT, Iq.hd, deref, R.bind_ok, truth, intOf, callG, hdS, argsS, argS, putOuts, setOwn, outs, isOwn, cmpD, ix0, ix1, (show eqD (.str w) (.str "mark") = .ok true by rw [str_eq' sw sk3, decide_eq_true w3]), io11, e1, one]
              · rw [if_neg w3]
                simp [Iq.run, ioFit, evB, evS, evE.eq_1, evE.eq_2, evE.eq_3, evE.eq_4, evE.eq_5, evE.eq_6, evE.eq_7, evE.eq_8, evE.eq_9, evE.eq_10, evE.eq_11, evE.eq_12, evE.eq_13, evE.eq_14, evE.eq_15, evE.eq_16, evE.eq_17, evE.eq_18, evE.eq_19, evE.eq_20, evE.eq_21, evE.eq_22, evL, evA, evO, evT, Iq.hd, deref, R.bind_ok, truth, intOf, callG, hdS, argsS, argS, putOuts, setOwn, outs, isOwn, cmpD, ix0, (show eqD (.str w) (.str "mark") = .ok false by rw [str_eq' sw sk3, decide_eq_false w3])]
        | _ => simp [f13, Iq.run, ioFit, evB, evS, evE.eq_1, evE.eq_2, evE.eq_3, evE.eq_4, evE.eq_5, evE.eq_6, evE.eq_7, evE.eq_8, evE.eq_9, evE.eq_10, evE.eq_11, evE.eq_12, evE.eq_13, evE.eq_14, evE.eq_15, evE.eq_16, evE.eq_17, evE.eq_18, evE.eq_19, evE.eq_20, evE.eq_21, evE.eq_22, evL, evA, evO, evT, Iq.hd, deref, R.bind_ok, truth, intOf, callG, hdS, argsS, argS, putOuts, setOwn, outs, isOwn, isTys, isTy, ty_beq, cmpD, ltD, biD, ix0, l2, eventB]
  | _ => simp [f13, Iq.run, ioFit, evB, evS, evE.eq_1, evE.eq_2, evE.eq_3, evE.eq_4, evE.eq_5, evE.eq_6, evE.eq_7, evE.eq_8, evE.eq_9, evE.eq_10, evE.eq_11, evE.eq_12, evE.eq_13, evE.eq_14, evE.eq_15, evE.eq_16, evE.eq_17, evE.eq_18, evE.eq_19, evE.eq_20, evE.eq_21, evE.eq_22, evL, evA, evO, evT, Iq.hd, deref, R.bind_ok, truth, intOf, callG, hdS, argsS, argS, putOuts, setOwn, outs, isOwn, isTys, isTy, ty_beq, eventB]
theorem c16 (n : Nat) {d : D} {l k : Nat} (h : okB l k d = true) (hl : l ≤ 1000) (hk : k ≤ 64) : (Pn (n + 5)).fn 16 [.shr d] = .ok (.bl true, false, []) := by
  rw [fn16]
  have e1 := c6 n h hl hk
  have e2 := c13 (n + 1) h hl hk
  simp [f16, Iq.run, ioFit, evB, evS, evE.eq_1, evE.eq_2, evE.eq_3, evE.eq_4, evE.eq_5, evE.eq_6, evE.eq_7, evE.eq_8, evE.eq_9, evE.eq_10, evE.eq_11, evE.eq_12, evE.eq_13, evE.eq_14, evE.eq_15, evE.eq_16, evE.eq_17, evE.eq_18, evE.eq_19, evE.eq_20, evE.eq_21, evE.eq_22, evL, evA, evO, evT, Iq.hd, deref, R.bind_ok, truth, intOf, callG, hdS, argsS, argS, putOuts, setOwn, outs, isOwn, io6, io13, e1, e2, isTys, isTy, ty_beq, cmpD, bl_eq]
end Q
set_option Elab.async false
set_option linter.all false
set_option maxRecDepth 100000
set_option maxHeartbeats 4000000
namespace Q
open PySem L2 Iq
theorem dr (n : Nat) : Draws (Pn (n + 1)) 8 := draws_of (fs := pg.fs) rfl
theorem pk (n : Nat) : (Pn (n + 1)).fn 9 = Iq.run (Pn n) (pickFn 8) := rfl
theorem draw (n : Nat) {f : D} (m : Int) (hf : Fd f) (h1 : 0 < m) (h2 : m < 1073741824) : ∃ r f', (Pn (n + 1)).fn 8 [.own true f, .shr (.int m)] = .ok (.int r, false, [f']) ∧ 0 ≤ r ∧ r < m ∧ Fd f' := (dr n).2 f m hf h1 h2
theorem pick (n : Nat) {f : D} {xs : List D} (hf : Fd f) (h1 : 0 < xs.length) (h2 : xs.length < 1073741824) : ∃ y f', y ∈ xs ∧ Fd f' ∧ (Pn (n + 2)).fn 9 [.own true f, .shr (.lst xs)] = .ok (y, false, [f']) := by
  rw [pk]; exact pick_lst (dr n) hf h1 h2
/-! ### _law_strange -/
def st0 : List Ex := [(.con (.int 0)), (.con (.int 1)), (.neg (.con (.int 1))), (.con (.int 2)), (.con (.bl true)), (.con (.bl false)), (.con .non), (.con (.str "")), (.con (.str "a")), (.con (.str "abcdefgh")), (.con (.str "abcdefghi")), (.con (.str "A")), (.con (.str "a b")), (.con (.str "a1")), (.con (.str "-")), (.tup []), (.lst []), (.tup [(.con (.str "a"))])]
def st1 : List Ex := [(.lst [(.con (.str "a"))]), (.con (.str "on")), (.con (.str "off")), (.con (.str "On")), (.con (.str "step")), (.con (.str "mark")), (.con (.str "guard")), (.con (.str "exclude")), (.con (.str "allow")), (.con (.str "go")), (.con (.str "fork")), (.con (.str "take")), (.con (.str "none"))]
def st2 : List Ex := [(.con (.str "later")), (.con (.str "kill")), (.con (.str "release")), (.con (.str "exit")), (.con (.str "wait")), (.bin .Pow (.con (.int 10)) (.con (.int 59))), (.neg (.bin .Pow (.con (.int 10)) (.con (.int 59)))), (.tup [(.con (.int 0)), (.con (.str "go")), (.con (.int 1))]), (.tup [(.con (.int 0)), (.con (.str "exit")), (.neg (.con (.int 1)))]), (.con (.int 40))]
def st3 : List Ex := [(.lst [(.con (.int 0)), (.con (.str "go")), (.con (.int 1))]), (.tup [(.con (.int 0)), (.con (.str "take"))]), (.tup [(.con (.str "step")), (.tup [(.con (.int 0)), (.con (.str "none")), (.neg (.con (.int 1)))])]), (.tup [(.con (.str "mark")), (.con (.str "a"))]), (.tup [(.con (.str "guard")), (.con (.bl true))]), (.tup [(.con .non), (.con .non)])]
theorem st_body : f14.body = [.asg 1 (.lst st0), .ext 1 (.lst st1), .ext 1 (.lst st2), .ext 1 (.lst st3), .ret (.call 9 [(.var 0), (.var 1)])] := rfl
theorem s0_ok : okL 60 3 18 st0 = true := by decide +kernel
theorem s1_ok : okL 60 3 13 st1 = true := by decide +kernel
theorem s2_ok : okL 60 3 10 st2 = true := by decide +kernel
theorem s3_ok : okL 60 3 6 st3 = true := by decide +kernel
theorem c14 (n : Nat) {f : D} (hf : Fd f) : ∃ x f', okB 60 3 x = true ∧ Fd f' ∧ (Pn (n + 3)).fn 14 [.own true f] = .ok (x, false, [f']) := by
  obtain ⟨d0, g0, l0, p0⟩ := okL_is s0_ok
  obtain ⟨d1, g1, l1, p1⟩ := okL_is s1_ok
  obtain ⟨d2, g2, l2, p2⟩ := okL_is s2_ok
  obtain ⟨d3, g3, l3, p3⟩ := okL_is s3_ok
  obtain ⟨x, f', hx, hf', e⟩ := pick n (xs := d0 ++ d1 ++ d2 ++ d3) hf (by simp; omega) (by simp; omega)
  refine ⟨x, f', ?_, hf', ?_⟩
  · simp only [List.mem_append] at hx
    rcases hx with ((hx | hx) | hx) | hx
    · exact p0 x hx
    · exact p1 x hx
    · exact p2 x hx
    · exact p3 x hx
  rw [fn14]
  have q : evB (Pn (n + 2)) f14.body [.own true f, .no] = .ok (.rt x false, [.own true f', .shr (.lst (d0 ++ d1 ++ d2 ++ d3))]) := by
    rw [st_body]
    refine ev_nx (asg_lst g0 _) (ev_nx (ext_lst (as := d0) (b := false) g1 rfl (by omega)) (ev_nx (ext_lst (as := d0 ++ d1) (b := false) g2 rfl (by simp; omega)) (ev_nx (ext_lst (as := d0 ++ d1 ++ d2) (b := false) g3 rfl (by simp; omega)) (ev_rt ?_))))
    simp only [List.set_cons_zero, List.set_cons_succ]
    simp [Iq.run, ioFit, evB, evS, evE.eq_1, evE.eq_2, evE.eq_3, evE.eq_4, evE.eq_5, evE.eq_6, evE.eq_7, evE.eq_8, evE.eq_9, evE.eq_10, evE.eq_11, evE.eq_12, evE.eq_13, evE.eq_14, evE.eq_15, evE.eq_16, evE.eq_17, evE.eq_18, evE.eq_19, evE.eq_20, evE.eq_21, evE.eq_22, evL, evA, evO, evT, Iq.hd, deref, R.bind_ok, truth, intOf, callG, hdS, argsS, argS, putOuts, setOwn, outs, isOwn, io9, e, -List.append_assoc]
  have q' : evB (Pn (n + 2)) f14.body ([.own true f] ++ List.replicate (f14.nl - f14.np) .no) = .ok (.rt x false, [.own true f', .shr (.lst (d0 ++ d1 ++ d2 ++ d3))]) := q
  unfold Iq.run
  rw [if_pos ⟨rfl, by decide, by decide, rfl⟩, q']
  rfl
/-! ### cuts -/
theorem cut_mem {α : Type} {xs : List α} {lo hi : Option Int} {x : α} (h : x ∈ cutL xs lo hi) : x ∈ xs := List.mem_of_mem_drop (List.mem_of_mem_take h)
theorem cut_len {α : Type} {xs : List α} {lo hi : Option Int} : (cutL xs lo hi).length ≤ xs.length := by
  unfold cutL
  rw [List.length_take, List.length_drop]
  omega
theorem cutS_ok {l : Nat} {z : Str} {lo hi : Option Int} (h : okS l z = true) : okS l (cutS z lo hi) = true := by
  simp only [okS, Bool.and_eq_true, decide_eq_true_eq, PyData.strOk] at h ⊢
  obtain ⟨h1, h2⟩ := h
  rw [← Array.all_toList, List.all_eq_true] at h2
  refine ⟨?_, ?_⟩
  · have : (cutS z lo hi).length ≤ z.length := by
      show (cutS z lo hi).cps.size ≤ z.cps.size
      unfold cutS
      rw [List.size_toArray, List.length_take, List.length_drop, Array.length_toList]
      omega
    omega
  · rw [← Array.all_toList, List.all_eq_true]
    intro c hc
    exact h2 c (List.mem_of_mem_drop (List.mem_of_mem_take (by simpa [cutS] using hc)))
theorem app_ok {l m : Nat} {a b : Str} (h1 : okS l a = true) (h2 : okS m b = true) : okS (l + m) (a ++ b) = true := by
  simp only [okS, Bool.and_eq_true, decide_eq_true_eq, PyData.strOk] at h1 h2 ⊢
  have e : (a ++ b).cps = a.cps ++ b.cps := rfl
  refine ⟨?_, ?_⟩
  · show (a ++ b).cps.size ≤ l + m
    rw [e, Array.size_append]
    have g1 : a.cps.size ≤ l := h1.1
    have g2 : b.cps.size ≤ m := h2.1
    omega
  · rw [e, Array.all_append, h1.2, h2.2]; rfl
theorem add_tup {a b : List D} (h : a.length + b.length ≤ 10000) : binD .Add (.tup a) (.tup b) = .ok (.tup (a ++ b), false) := by
  have : a.length + b.length ≤ sizeLine := by
    have : sizeLine = 16777216 := sizeLine_eq
    omega
  simp only [binD, this, if_true]
theorem add_str {a b : Str} (h : a.length + b.length ≤ 10000) : binD .Add (.str a) (.str b) = .ok (.str (a ++ b), false) := by
  have : a.length + b.length ≤ sizeLine := by
    have : sizeLine = 16777216 := sizeLine_eq
    omega
  simp only [binD, this, if_true]
theorem okS_len {l : Nat} {z : Str} (h : okS l z = true) : z.length ≤ l := by
  simp only [okS, Bool.and_eq_true, decide_eq_true_eq] at h
  exact h.1
theorem tup_ok {l k : Nat} {xs : List D} (h1 : xs.length ≤ l) (h2 : ∀ x ∈ xs, okB l k x = true) : okB l (k + 1) (.tup xs) = true := by
  simp only [okB, Bool.and_eq_true, decide_eq_true_eq, List.all_eq_true]
  exact ⟨h1, h2⟩
theorem lst_ok {l k : Nat} {xs : List D} (h1 : xs.length ≤ l) (h2 : ∀ x ∈ xs, okB l k x = true) : okB l (k + 1) (.lst xs) = true := by
  simp only [okB, Bool.and_eq_true, decide_eq_true_eq, List.all_eq_true]
  exact ⟨h1, h2⟩
end Q
set_option Elab.async false
set_option linter.all false
set_option maxRecDepth 100000
set_option maxHeartbeats 4000000
namespace Q
open PySem L2 Iq
/-! ### _law_bent -/
def bT : Tx := .and (.at (.isi (.var 1) [.tuple])) (.and (.at (.cmp .Gt (.bi .len (.var 1)) (.con (.int 0)))) (.at (.cmp .Gt (.call 8 [(.var 0), (.con (.int 5))]) (.con (.int 0)))))
def bA : Sm := .asg 2 (.call 8 [(.var 0), (.bi .len (.var 1))])
def bR : Ex := .bin .Add (.bin .Add (.sli (.var 1) none (some (.var 2))) (.tup [(.call 15 [(.var 0), (.idx (.var 1) (.var 2))])])) (.sli (.var 1) (some (.bin .Add (.var 2) (.con (.int 1)))) none)
def bP : Sm := .par 3 4 (.call 8 [(.var 0), (.con (.int 7))]) (.call 14 [(.var 0)])
def bB : Sm := .asg 2 (.call 8 [(.var 0), (.bin .Add (.bi .len (.var 1)) (.con (.int 1)))])
def bR1 : Ex := .bin .Add (.sli (.var 1) none (some (.var 2))) (.sli (.var 1) (some (.bin .Add (.var 2) (.con (.int 1)))) none)
def bR2 : Ex := .bin .Add (.bin .Add (.sli (.var 1) none (some (.var 2))) (.sli (.var 1) (some (.var 2)) (some (.bin .Add (.var 2) (.con (.int 1)))))) (.sli (.var 1) (some (.var 2)) none)
def bR3 : Ex := .bin .Add (.bin .Add (.sli (.var 1) none (some (.var 2))) (.tup [(.var 4)])) (.sli (.var 1) (some (.var 2)) none)
def bR4 : Ex := .bin .Add (.sli (.var 1) (some (.var 2)) none) (.sli (.var 1) none (some (.var 2)))
def bSt : Ex := .bin .Add (.bin .Add (.sli (.var 1) none (some (.var 3))) (.call 9 [(.var 0), (.lst [(.con (.str "a")), (.con (.str "A")), (.con (.str "")), (.con (.str " ")), (.con (.str "z")), (.con (.str "0"))])])) (.sli (.var 1) (some (.var 3)) none)
def bC : Tx := .and (.at (.isi (.var 1) [.tuple])) (.at (.cmp .Lt (.var 3) (.con (.int 5))))
def bD : Tx := .and (.at (.isi (.var 1) [.str])) (.at (.cmp .Lt (.var 3) (.con (.int 4))))
def bS0 : Sm := .ife bT [bA, .ret bR] []
def bS2 : Sm := .ife bC [bB, .ife (.at (.cmp .Eq (.var 3) (.con (.int 0)))) [.ret (.bi .list (.var 1))] [], .ife (.at (.cmp .Eq (.var 3) (.con (.int 1)))) [.ret bR1] [], .ife (.at (.cmp .Eq (.var 3) (.con (.int 2)))) [.ret bR2] [], .ret (.ite (.at (.cmp .Eq (.var 3) (.con (.int 3)))) bR3 bR4)] []
def bS3 : Sm := .ife bD [.ret bSt] []
theorem bent_body : f15.body = [bS0, bP, bS2, bS3, .ret (.var 4)] := rfl
/-- what a bend may give -/
def Bn (l k : Nat) (x : D) : Prop := okB (3 * l) (k + 4) x = true
section
variable {n : Nat} {f d s2 s3 s4 : D} {t2 t3 t4 : Sl}
theorem pr_go (hf : Fd f) : ∃ r x f', 0 ≤ r ∧ r < (7 : Int) ∧ okB 60 3 x = true ∧ Fd f' ∧ evS (Pn (n + 3)) bP [.own true f, .shr d, t2, t3, t4] = .ok (.nx, [.own true f', .shr d, t2, .shr (.int r), .shr x]) := by
  obtain ⟨r, f1, e1, g1, g2, h1⟩ := draw (n + 2) 7 hf (by omega) (by omega)
  obtain ⟨x, f2, ok, h2, e2⟩ := c14 n h1
  refine ⟨r, x, f2, g1, g2, ok, h2, ?_⟩
  simp [bP, Iq.run, ioFit, evB, evS, evE.eq_1, evE.eq_2, evE.eq_3, evE.eq_4, evE.eq_5, evE.eq_6, evE.eq_7, evE.eq_8, evE.eq_9, evE.eq_10, evE.eq_11, evE.eq_12, evE.eq_13, evE.eq_14, evE.eq_15, evE.eq_16, evE.eq_17, evE.eq_18, evE.eq_19, evE.eq_20, evE.eq_21, evE.eq_22, evL, evA, evO, evT, Iq.hd, deref, R.bind_ok, truth, intOf, callG, hdS, argsS, argS, putOuts, setOwn, outs, isOwn, io8, io14, e1, e2, setAll]
theorem bst_go {z : Str} {w : Int} {l : Nat} (hf : Fd f) (ho : okS l z = true) (hl : 60 ≤ l) (hl2 : l ≤ 300) : ∃ x f', okS (3 * l) x = true ∧ Fd f' ∧ evE (Pn (n + 3)) bSt [.own true f, .shr (.str z), t2, .shr (.int w), t4] = .ok (.str x, false, [.own true f', .shr (.str z), t2, .shr (.int w), t4]) := by
  obtain ⟨y, f1, hy, h1, e1⟩ := pick (n + 1) (xs := [.str "a", .str "A", .str "", .str " ", .str "z", .str "0"]) hf (by simp) (by simp)
  obtain ⟨s, rfl, hs⟩ : ∃ s, y = .str s ∧ okS 1 s = true := by
    simp only [List.mem_cons, List.not_mem_nil, or_false] at hy
    rcases hy with rfl | rfl | rfl | rfl | rfl | rfl <;> exact ⟨_, rfl, by decide +kernel⟩
  have hz : z.length ≤ sizeLine := by
    have := okS_len ho
    have : sizeLine = 16777216 := sizeLine_eq
    omega
  have c1 := cutS_ok (lo := none) (hi := some w) ho
  have c2 := cutS_ok (lo := some w) (hi := none) ho
  have q1 := app_ok c1 hs
  have q2 := app_ok q1 c2
  have a1 := add_str (a := cutS z none (some w)) (b := s) (by have := okS_len c1; have := okS_len hs; omega)
  have a2 := add_str (a := cutS z none (some w) ++ s) (b := cutS z (some w) none) (by have := okS_len q1; have := okS_len c2; omega)
  refine ⟨_, f1, okS_mono q2 (by omega), h1, ?_⟩
  simp [bSt, Iq.run, ioFit, evB, evS, evE.eq_1, evE.eq_2, evE.eq_3, evE.eq_4, evE.eq_5, evE.eq_6, evE.eq_7, evE.eq_8, evE.eq_9, evE.eq_10, evE.eq_11, evE.eq_12, evE.eq_13, evE.eq_14, evE.eq_15, evE.eq_16, evE.eq_17, evE.eq_18, evE.eq_19, evE.eq_20, evE.eq_21, evE.eq_22, evL, evA, evO, evT, Iq.hd, deref, R.bind_ok, truth, intOf, callG, hdS, argsS, argS, putOuts, setOwn, outs, isOwn, io9, e1, sliD, hz, a1, a2]
theorem cut_ok {l k : Nat} {xs : List D} {lo hi : Option Int} (hx : ∀ y ∈ xs, okB l k y = true) : ∀ y ∈ cutL xs lo hi, okB (3 * l) (k + 4) y = true := fun y hy => okB_mono (by omega) (by omega) (hx y (cut_mem hy))
theorem b2_go {xs : List D} {r : Int} {x : D} {l k : Nat} (hf : Fd f) (hlen : xs.length ≤ l) (hx : ∀ y ∈ xs, okB l k y = true) (ok : okB 60 3 x = true) (hl : 60 ≤ l) (hl2 : l ≤ 300) (h0 : 0 ≤ r) (h5 : r < 5) :
    ∃ y fr f' u, okB (3 * l) (k + 1 + 4) y = true ∧ Fd f' ∧ evS (Pn (n + 3)) bS2 [.own true f, .shr (.tup xs), t2, .shr (.int r), .shr x] = .ok (.rt y fr, [.own true f', .shr (.tup xs), u, .shr (.int r), .shr x]) := by
  obtain ⟨r2, f1, e1, g1, g2, h1⟩ := draw (n + 2) ((xs.length : Int) + 1) hf (by omega) (by omega)
  have cl : ∀ lo hi, (cutL xs lo hi).length ≤ l := fun lo hi => Nat.le_trans cut_len hlen
  have st : evS (Pn (n + 3)) bB [.own true f, .shr (.tup xs), t2, .shr (.int r), .shr x] = .ok (.nx, [.own true f1, .shr (.tup xs), .shr (.int r2), .shr (.int r), .shr x]) := by
    simp [bB, Iq.run, ioFit, evB, evS, evE.eq_1, evE.eq_2, evE.eq_3, evE.eq_4, evE.eq_5, evE.eq_6, evE.eq_7, evE.eq_8, evE.eq_9, evE.eq_10, evE.eq_11, evE.eq_12, evE.eq_13, evE.eq_14, evE.eq_15, evE.eq_16, evE.eq_17, evE.eq_18, evE.eq_19, evE.eq_20, evE.eq_21, evE.eq_22, evL, evA, evO, evT, Iq.hd, deref, R.bind_ok, truth, intOf, callG, hdS, argsS, argS, putOuts, setOwn, outs, isOwn, io8, biD, add_ok, e1]
  have cond : evT (Pn (n + 3)) bC [.own true f, .shr (.tup xs), t2, .shr (.int r), .shr x] = .ok (true, [.own true f, .shr (.tup xs), t2, .shr (.int r), .shr x]) := by
    simp [bC, Iq.run, ioFit, evB, evS, evE.eq_1, evE.eq_2, evE.eq_3, evE.eq_4, evE.eq_5, evE.eq_6, evE.eq_7, evE.eq_8, evE.eq_9, evE.eq_10, evE.eq_11, evE.eq_12, evE.eq_13, evE.eq_14, evE.eq_15, evE.eq_16, evE.eq_17, evE.eq_18, evE.eq_19, evE.eq_20, evE.eq_21, evE.eq_22, evL, evA, evO, evT, Iq.hd, deref, R.bind_ok, truth, intOf, callG, hdS, argsS, argS, putOuts, setOwn, outs, isOwn, isTys, isTy, ty_beq, cmpD, ltD, h5]
  have fin : ∀ {y : D} {fr : Bool} {ς' : List Sl}, evB (Pn (n + 3)) [.ife (.at (.cmp .Eq (.var 3) (.con (.int 0)))) [.ret (.bi .list (.var 1))] [], .ife (.at (.cmp .Eq (.var 3) (.con (.int 1)))) [.ret bR1] [], .ife (.at (.cmp .Eq (.var 3) (.con (.int 2)))) [.ret bR2] [], .ret (.ite (.at (.cmp .Eq (.var 3) (.con (.int 3)))) bR3 bR4)] [.own true f1, .shr (.tup xs), .shr (.int r2), .shr (.int r), .shr x] = .ok (.rt y fr, ς') →
      evS (Pn (n + 3)) bS2 [.own true f, .shr (.tup xs), t2, .shr (.int r), .shr x] = .ok (.rt y fr, ς') := fun e => by
    simp only [bS2, evS, cond, R.bind_ok, cond_true]
    exact ev_nx st e
  have bnd : ∀ {ys : List D}, ys.length ≤ 3 * l → (∀ y ∈ ys, okB (3 * l) (k + 4) y = true) → okB (3 * l) (k + 1 + 4) (.tup ys) = true := fun h1 h2 => tup_ok h1 h2
  have mem2 : ∀ {a b : List D}, (∀ y ∈ a, okB (3 * l) (k + 4) y = true) → (∀ y ∈ b, okB (3 * l) (k + 4) y = true) → ∀ y ∈ a ++ b, okB (3 * l) (k + 4) y = true := fun ha hb y hy => (List.mem_append.mp hy).elim (ha y) (hb y)
  have c1 := cl none (some r2)
  have c2 := cl (some (r2 + 1)) none
  have c3 := cl (some r2) (some (r2 + 1))
  have c4 := cl (some r2) none
  by_cases w0 : r = 0
  · subst w0
    refine ⟨.lst xs, true, f1, .shr (.int r2), lst_ok (by omega) (fun y hy => okB_mono (by omega) (by omega) (hx y hy)), h1, fin (ev_rt ?_)⟩
    simp [Iq.run, ioFit, evB, evS, evE.eq_1, evE.eq_2, evE.eq_3, evE.eq_4, evE.eq_5, evE.eq_6, evE.eq_7, evE.eq_8, evE.eq_9, evE.eq_10, evE.eq_11, evE.eq_12, evE.eq_13, evE.eq_14, evE.eq_15, evE.eq_16, evE.eq_17, evE.eq_18, evE.eq_19, evE.eq_20, evE.eq_21, evE.eq_22, evL, evA, evO, evT, Iq.hd, deref, R.bind_ok, truth, intOf, callG, hdS, argsS, argS, putOuts, setOwn, outs, isOwn, cmpD, int_eq, biD]
  by_cases w1 : r = 1
  · subst w1
    have a1 := add_tup (a := cutL xs none (some r2)) (b := cutL xs (some (r2 + 1)) none) (by omega)
    refine ⟨_, false, f1, .shr (.int r2), bnd (ys := cutL xs none (some r2) ++ cutL xs (some (r2 + 1)) none) (by rw [List.length_append]; omega) (mem2 (cut_ok hx) (cut_ok hx)), h1, fin (ev_nx (ς1 := [.own true f1, .shr (.tup xs), .shr (.int r2), .shr (.int 1), .shr x]) ?_ (ev_rt ?_))⟩
    · simp [Iq.run, ioFit, evB, evS, evE.eq_1, evE.eq_2, evE.eq_3, evE.eq_4, evE.eq_5, evE.eq_6, evE.eq_7, evE.eq_8, evE.eq_9, evE.eq_10, evE.eq_11, evE.eq_12, evE.eq_13, evE.eq_14, evE.eq_15, evE.eq_16, evE.eq_17, evE.eq_18, evE.eq_19, evE.eq_20, evE.eq_21, evE.eq_22, evL, evA, evO, evT, Iq.hd, deref, R.bind_ok, truth, intOf, callG, hdS, argsS, argS, putOuts, setOwn, outs, isOwn, cmpD, int_eq]
    · simp [bR1, Iq.run, ioFit, evB, evS, evE.eq_1, evE.eq_2, evE.eq_3, evE.eq_4, evE.eq_5, evE.eq_6, evE.eq_7, evE.eq_8, evE.eq_9, evE.eq_10, evE.eq_11, evE.eq_12, evE.eq_13, evE.eq_14, evE.eq_15, evE.eq_16, evE.eq_17, evE.eq_18, evE.eq_19, evE.eq_20, evE.eq_21, evE.eq_22, evL, evA, evO, evT, Iq.hd, deref, R.bind_ok, truth, intOf, callG, hdS, argsS, argS, putOuts, setOwn, outs, isOwn, cmpD, int_eq, sliD, add_ok, a1]
  by_cases w2 : r = 2
  · subst w2
    have a1 := add_tup (a := cutL xs none (some r2)) (b := cutL xs (some r2) (some (r2 + 1))) (by omega)
    have a2 := add_tup (a := cutL xs none (some r2) ++ cutL xs (some r2) (some (r2 + 1))) (b := cutL xs (some r2) none) (by rw [List.length_append]; omega)
    refine ⟨_, false, f1, .shr (.int r2), bnd (ys := cutL xs none (some r2) ++ cutL xs (some r2) (some (r2 + 1)) ++ cutL xs (some r2) none) (by rw [List.length_append, List.length_append]; omega) (mem2 (mem2 (cut_ok hx) (cut_ok hx)) (cut_ok hx)), h1, fin (ev_nx (ς1 := [.own true f1, .shr (.tup xs), .shr (.int r2), .shr (.int 2), .shr x]) ?_ (ev_nx (ς1 := [.own true f1, .shr (.tup xs), .shr (.int r2), .shr (.int 2), .shr x]) ?_ (ev_rt ?_)))⟩
    · simp [Iq.run, ioFit, evB, evS, evE.eq_1, evE.eq_2, evE.eq_3, evE.eq_4, evE.eq_5, evE.eq_6, evE.eq_7, evE.eq_8, evE.eq_9, evE.eq_10, evE.eq_11, evE.eq_12, evE.eq_13, evE.eq_14, evE.eq_15, evE.eq_16, evE.eq_17, evE.eq_18, evE.eq_19, evE.eq_20, evE.eq_21, evE.eq_22, evL, evA, evO, evT, Iq.hd, deref, R.bind_ok, truth, intOf, callG, hdS, argsS, argS, putOuts, setOwn, outs, isOwn, cmpD, int_eq]
    · simp [Iq.run, ioFit, evB, evS, evE.eq_1, evE.eq_2, evE.eq_3, evE.eq_4, evE.eq_5, evE.eq_6, evE.eq_7, evE.eq_8, evE.eq_9, evE.eq_10, evE.eq_11, evE.eq_12, evE.eq_13, evE.eq_14, evE.eq_15, evE.eq_16, evE.eq_17, evE.eq_18, evE.eq_19, evE.eq_20, evE.eq_21, evE.eq_22, evL, evA, evO, evT, Iq.hd, deref, R.bind_ok, truth, intOf, callG, hdS, argsS, argS, putOuts, setOwn, outs, isOwn, cmpD, int_eq]
    · simp [bR2, Iq.run, ioFit, evB, evS, evE.eq_1, evE.eq_2, evE.eq_3, evE.eq_4, evE.eq_5, evE.eq_6, evE.eq_7, evE.eq_8, evE.eq_9, evE.eq_10, evE.eq_11, evE.eq_12, evE.eq_13, evE.eq_14, evE.eq_15, evE.eq_16, evE.eq_17, evE.eq_18, evE.eq_19, evE.eq_20, evE.eq_21, evE.eq_22, evL, evA, evO, evT, Iq.hd, deref, R.bind_ok, truth, intOf, callG, hdS, argsS, argS, putOuts, setOwn, outs, isOwn, cmpD, int_eq, sliD, add_ok, a1, a2, -List.append_assoc]
  have z0 : (r == 0) = false := by rw [beq_eq_false_iff_ne]; exact w0
  have z1 : (r == 1) = false := by rw [beq_eq_false_iff_ne]; exact w1
  have z2 : (r == 2) = false := by rw [beq_eq_false_iff_ne]; exact w2
  have go : ∀ {y : D} {fr : Bool} {ς' : List Sl}, evS (Pn (n + 3)) (.ret (.ite (.at (.cmp .Eq (.var 3) (.con (.int 3)))) bR3 bR4)) [.own true f1, .shr (.tup xs), .shr (.int r2), .shr (.int r), .shr x] = .ok (.rt y fr, ς') → evS (Pn (n + 3)) bS2 [.own true f, .shr (.tup xs), t2, .shr (.int r), .shr x] = .ok (.rt y fr, ς') := fun e =>
    fin (ev_nx (ς1 := [.own true f1, .shr (.tup xs), .shr (.int r2), .shr (.int r), .shr x]) (by simp [Iq.run, ioFit, evB, evS, evE.eq_1, evE.eq_2, evE.eq_3, evE.eq_4, evE.eq_5, evE.eq_6, evE.eq_7, evE.eq_8, evE.eq_9, evE.eq_10, evE.eq_11, evE.eq_12, evE.eq_13, evE.eq_14, evE.eq_15, evE.eq_16, evE.eq_17, evE.eq_18, evE.eq_19, evE.eq_20, evE.eq_21, evE.eq_22, evL, evA, evO, evT, Iq.hd, deref, R.bind_ok, truth, intOf, callG, hdS, argsS, argS, putOuts, setOwn, outs, isOwn, cmpD, int_eq, z0]) (ev_nx (ς1 := [.own true f1, .shr (.tup xs), .shr (.int r2), .shr (.int r), .shr x]) (by simp [Iq.run, ioFit, evB, evS, evE.eq_1, evE.eq_2, evE.eq_3, evE.eq_4, evE.eq_5, evE.eq_6, evE.eq_7, evE.eq_8, evE.eq_9, evE.eq_10, evE.eq_11, evE.eq_12, evE.eq_13, evE.eq_14, evE.eq_15, evE.eq_16, evE.eq_17, evE.eq_18, evE.eq_19, evE.eq_20, evE.eq_21, evE.eq_22, evL, evA, evO, evT, Iq.hd, deref, R.bind_ok, truth, intOf, callG, hdS, argsS, argS, putOuts, setOwn, outs, isOwn, cmpD, int_eq, z1]) (ev_nx (ς1 := [.own true f1, .shr (.tup xs), .shr (.int r2), .shr (.int r), .shr x]) (by simp [Iq.run, ioFit, evB, evS, evE.eq_1, evE.eq_2, evE.eq_3, evE.eq_4, evE.eq_5, evE.eq_6, evE.eq_7, evE.eq_8, evE.eq_9, evE.eq_10, evE.eq_11, evE.eq_12, evE.eq_13, evE.eq_14, evE.eq_15, evE.eq_16, evE.eq_17, evE.eq_18, evE.eq_19, evE.eq_20, evE.eq_21, evE.eq_22, evL, evA, evO, evT, Iq.hd, deref, R.bind_ok, truth, intOf, callG, hdS, argsS, argS, putOuts, setOwn, outs, isOwn, cmpD, int_eq, z2]) (ev_rt e))))
  by_cases w3 : r = 3
  · subst w3
    have a1 := add_tup (a := cutL xs none (some r2)) (b := [x]) (by simp; omega)
    have a2 := add_tup (a := cutL xs none (some r2) ++ [x]) (b := cutL xs (some r2) none) (by rw [List.length_append]; simp; omega)
    refine ⟨_, false, f1, .shr (.int r2), bnd (ys := cutL xs none (some r2) ++ [x] ++ cutL xs (some r2) none) (by rw [List.length_append, List.length_append]; simp; omega) (mem2 (mem2 (cut_ok hx) (fun y hy => by rw [List.mem_singleton.mp hy]; exact okB_mono (by omega) (by omega) ok)) (cut_ok hx)), h1, go ?_⟩
    simp [bR3, Iq.run, ioFit, evB, evS, evE.eq_1, evE.eq_2, evE.eq_3, evE.eq_4, evE.eq_5, evE.eq_6, evE.eq_7, evE.eq_8, evE.eq_9, evE.eq_10, evE.eq_11, evE.eq_12, evE.eq_13, evE.eq_14, evE.eq_15, evE.eq_16, evE.eq_17, evE.eq_18, evE.eq_19, evE.eq_20, evE.eq_21, evE.eq_22, evL, evA, evO, evT, Iq.hd, deref, R.bind_ok, truth, intOf, callG, hdS, argsS, argS, putOuts, setOwn, outs, isOwn, cmpD, int_eq, sliD, add_ok, a1, a2, -List.append_assoc]
  · have z3 : (r == 3) = false := by rw [beq_eq_false_iff_ne]; exact w3
    have a1 := add_tup (a := cutL xs (some r2) none) (b := cutL xs none (some r2)) (by omega)
    refine ⟨_, false, f1, .shr (.int r2), bnd (ys := cutL xs (some r2) none ++ cutL xs none (some r2)) (by rw [List.length_append]; omega) (mem2 (cut_ok hx) (cut_ok hx)), h1, go ?_⟩
    simp [bR4, Iq.run, ioFit, evB, evS, evE.eq_1, evE.eq_2, evE.eq_3, evE.eq_4, evE.eq_5, evE.eq_6, evE.eq_7, evE.eq_8, evE.eq_9, evE.eq_10, evE.eq_11, evE.eq_12, evE.eq_13, evE.eq_14, evE.eq_15, evE.eq_16, evE.eq_17, evE.eq_18, evE.eq_19, evE.eq_20, evE.eq_21, evE.eq_22, evL, evA, evO, evT, Iq.hd, deref, R.bind_ok, truth, intOf, callG, hdS, argsS, argS, putOuts, setOwn, outs, isOwn, cmpD, int_eq, z3, sliD, a1]
end
end Q
set_option Elab.async false
set_option linter.all false
set_option maxRecDepth 100000
set_option maxHeartbeats 4000000
namespace Q
open PySem L2 Iq
theorem bent_fin {P : Pr} {f f' d x : D} {fr : Bool} {u2 u3 u4 : Sl} (e : evB P [bS0, bP, bS2, bS3, .ret (.var 4)] [.own true f, .shr d, .no, .no, .no] = .ok (.rt x fr, [.own true f', .shr d, u2, u3, u4])) : Iq.run P f15 [.own true f, .shr d] = .ok (x, fr, [f']) := by
  have e' : evB P f15.body ([.own true f, .shr d] ++ List.replicate (f15.nl - f15.np) .no) = .ok (.rt x fr, [.own true f', .shr d, u2, u3, u4]) := e
  unfold Iq.run
  rw [if_pos ⟨rfl, by decide, by decide, rfl⟩, e']
  rfl
/-- behind the first question -/
theorem bent_tail {n : Nat} {f d : D} {l k : Nat} (hf : Fd f) (ok : okB l k d = true) (hl : 60 ≤ l) (hl2 : l ≤ 300) :
    ∃ x fr f' u2 u3 u4, okB (3 * l) (k + 4) x = true ∧ Fd f' ∧ evB (Pn (n + 3)) [bP, bS2, bS3, .ret (.var 4)] [.own true f, .shr d, .no, .no, .no] = .ok (.rt x fr, [.own true f', .shr d, u2, u3, u4]) := by
  obtain ⟨r, x, f1, r0, r7, ox, h1, e1⟩ := pr_go (n := n) (d := d) (t2 := .no) (t3 := .no) (t4 := .no) hf
  have okx : okB (3 * l) (k + 4) x = true := okB_mono (by omega) (by omega) ox
  have no2 : evT (Pn (n + 3)) bC [.own true f1, .shr d, .no, .shr (.int r), .shr x] = .ok (false, [.own true f1, .shr d, .no, .shr (.int r), .shr x]) → evS (Pn (n + 3)) bS2 [.own true f1, .shr d, .no, .shr (.int r), .shr x] = .ok (.nx, [.own true f1, .shr d, .no, .shr (.int r), .shr x]) := fun h => by
    simp only [bS2, evS, h, R.bind_ok, cond_false, evB]
  have no3 : evT (Pn (n + 3)) bD [.own true f1, .shr d, .no, .shr (.int r), .shr x] = .ok (false, [.own true f1, .shr d, .no, .shr (.int r), .shr x]) → evS (Pn (n + 3)) bS3 [.own true f1, .shr d, .no, .shr (.int r), .shr x] = .ok (.nx, [.own true f1, .shr d, .no, .shr (.int r), .shr x]) := fun h => by
    simp only [bS3, evS, h, R.bind_ok, cond_false, evB]
  have last : evS (Pn (n + 3)) (.ret (.var 4)) [.own true f1, .shr d, .no, .shr (.int r), .shr x] = .ok (.rt x false, [.own true f1, .shr d, .no, .shr (.int r), .shr x]) := by simp [Iq.run, ioFit, evB, evS, evE.eq_1, evE.eq_2, evE.eq_3, evE.eq_4, evE.eq_5, evE.eq_6, evE.eq_7, evE.eq_8, evE.eq_9, evE.eq_10, evE.eq_11, evE.eq_12, evE.eq_13, evE.eq_14, evE.eq_15, evE.eq_16, evE.eq_17, evE.eq_18, evE.eq_19, evE.eq_20, evE.eq_21, evE.eq_22, evL, evA, evO, evT, Iq.hd, deref, R.bind_ok, truth, intOf, callG, hdS, argsS, argS, putOuts, setOwn, outs, isOwn]
  cases d with
  | fn _ => exact absurd (plain_of ok) (by simp [plain])
  | dic _ => exact absurd (plain_of ok) (by simp [plain])
  | tup xs =>
    have n3 : evS (Pn (n + 3)) bS3 [.own true f1, .shr (.tup xs), .no, .shr (.int r), .shr x] = .ok (.nx, [.own true f1, .shr (.tup xs), .no, .shr (.int r), .shr x]) := no3 (by simp [bD, Iq.run, ioFit, evB, evS, evE.eq_1, evE.eq_2, evE.eq_3, evE.eq_4, evE.eq_5, evE.eq_6, evE.eq_7, evE.eq_8, evE.eq_9, evE.eq_10, evE.eq_11, evE.eq_12, evE.eq_13, evE.eq_14, evE.eq_15, evE.eq_16, evE.eq_17, evE.eq_18, evE.eq_19, evE.eq_20, evE.eq_21, evE.eq_22, evL, evA, evO, evT, Iq.hd, deref, R.bind_ok, truth, intOf, callG, hdS, argsS, argS, putOuts, setOwn, outs, isOwn, isTys, isTy, ty_beq])
    obtain ⟨k', rfl, hx⟩ := ok_succ ok
    have hlen : xs.length ≤ l := by
      simp only [okB, Bool.and_eq_true, decide_eq_true_eq] at ok
      exact ok.1
    by_cases h5 : r < 5
    · obtain ⟨y, fr, f2, u, oy, h2, e2⟩ := b2_go (n := n) (t2 := .no) h1 hlen hx ox hl hl2 r0 h5
      exact ⟨y, fr, f2, u, _, _, oy, h2, ev_nx e1 (ev_rt e2)⟩
    · exact ⟨x, false, f1, _, _, _, okx, h1, ev_nx e1 (ev_nx (no2 (by simp [bC, Iq.run, ioFit, evB, evS, evE.eq_1, evE.eq_2, evE.eq_3, evE.eq_4, evE.eq_5, evE.eq_6, evE.eq_7, evE.eq_8, evE.eq_9, evE.eq_10, evE.eq_11, evE.eq_12, evE.eq_13, evE.eq_14, evE.eq_15, evE.eq_16, evE.eq_17, evE.eq_18, evE.eq_19, evE.eq_20, evE.eq_21, evE.eq_22, evL, evA, evO, evT, Iq.hd, deref, R.bind_ok, truth, intOf, callG, hdS, argsS, argS, putOuts, setOwn, outs, isOwn, isTys, isTy, ty_beq, cmpD, ltD, h5])) (ev_nx n3 (ev_rt last)))⟩
  | str z =>
    have n2 : evS (Pn (n + 3)) bS2 [.own true f1, .shr (.str z), .no, .shr (.int r), .shr x] = .ok (.nx, [.own true f1, .shr (.str z), .no, .shr (.int r), .shr x]) := no2 (by simp [bC, Iq.run, ioFit, evB, evS, evE.eq_1, evE.eq_2, evE.eq_3, evE.eq_4, evE.eq_5, evE.eq_6, evE.eq_7, evE.eq_8, evE.eq_9, evE.eq_10, evE.eq_11, evE.eq_12, evE.eq_13, evE.eq_14, evE.eq_15, evE.eq_16, evE.eq_17, evE.eq_18, evE.eq_19, evE.eq_20, evE.eq_21, evE.eq_22, evL, evA, evO, evT, Iq.hd, deref, R.bind_ok, truth, intOf, callG, hdS, argsS, argS, putOuts, setOwn, outs, isOwn, isTys, isTy, ty_beq])
    by_cases h4 : r < 4
    · obtain ⟨y, f2, oy, h2, e2⟩ := bst_go (n := n) (t2 := .no) (t4 := .shr x) (z := z) (w := r) (l := l) h1 (by simpa only [okB] using ok) hl hl2
      have ht : evT (Pn (n + 3)) bD [.own true f1, .shr (.str z), .no, .shr (.int r), .shr x] = .ok (true, [.own true f1, .shr (.str z), .no, .shr (.int r), .shr x]) := by simp [bD, Iq.run, ioFit, evB, evS, evE.eq_1, evE.eq_2, evE.eq_3, evE.eq_4, evE.eq_5, evE.eq_6, evE.eq_7, evE.eq_8, evE.eq_9, evE.eq_10, evE.eq_11, evE.eq_12, evE.eq_13, evE.eq_14, evE.eq_15, evE.eq_16, evE.eq_17, evE.eq_18, evE.eq_19, evE.eq_20, evE.eq_21, evE.eq_22, evL, evA, evO, evT, Iq.hd, deref, R.bind_ok, truth, intOf, callG, hdS, argsS, argS, putOuts, setOwn, outs, isOwn, isTys, isTy, ty_beq, cmpD, ltD, h4]
      have e3 : evS (Pn (n + 3)) bS3 [.own true f1, .shr (.str z), .no, .shr (.int r), .shr x] = .ok (.rt (.str y) false, [.own true f2, .shr (.str z), .no, .shr (.int r), .shr x]) := by
        simp only [bS3, evS, ht, R.bind_ok, cond_true]
        refine ev_rt ?_
        have : ∀ ς, evS (Pn (n + 3)) (.ret bSt) ς = (evE (Pn (n + 3)) bSt ς).bind fun r => .ok (.rt r.1 r.2.1, r.2.2) := fun ς => by simp only [bSt, evS]
        rw [this, e2]; rfl
      exact ⟨_, false, f2, _, _, _, by simpa only [okB] using oy, h2, ev_nx e1 (ev_nx n2 (ev_rt e3))⟩
    · exact ⟨x, false, f1, _, _, _, okx, h1, ev_nx e1 (ev_nx n2 (ev_nx (no3 (by simp [bD, Iq.run, ioFit, evB, evS, evE.eq_1, evE.eq_2, evE.eq_3, evE.eq_4, evE.eq_5, evE.eq_6, evE.eq_7, evE.eq_8, evE.eq_9, evE.eq_10, evE.eq_11, evE.eq_12, evE.eq_13, evE.eq_14, evE.eq_15, evE.eq_16, evE.eq_17, evE.eq_18, evE.eq_19, evE.eq_20, evE.eq_21, evE.eq_22, evL, evA, evO, evT, Iq.hd, deref, R.bind_ok, truth, intOf, callG, hdS, argsS, argS, putOuts, setOwn, outs, isOwn, isTys, isTy, ty_beq, cmpD, ltD, h4])) (ev_rt last)))⟩
  | _ => exact ⟨x, false, f1, _, _, _, okx, h1, ev_nx e1 (ev_nx (no2 (by simp [bC, Iq.run, ioFit, evB, evS, evE.eq_1, evE.eq_2, evE.eq_3, evE.eq_4, evE.eq_5, evE.eq_6, evE.eq_7, evE.eq_8, evE.eq_9, evE.eq_10, evE.eq_11, evE.eq_12, evE.eq_13, evE.eq_14, evE.eq_15, evE.eq_16, evE.eq_17, evE.eq_18, evE.eq_19, evE.eq_20, evE.eq_21, evE.eq_22, evL, evA, evO, evT, Iq.hd, deref, R.bind_ok, truth, intOf, callG, hdS, argsS, argS, putOuts, setOwn, outs, isOwn, isTys, isTy, ty_beq])) (ev_nx (no3 (by simp [bD, Iq.run, ioFit, evB, evS, evE.eq_1, evE.eq_2, evE.eq_3, evE.eq_4, evE.eq_5, evE.eq_6, evE.eq_7, evE.eq_8, evE.eq_9, evE.eq_10, evE.eq_11, evE.eq_12, evE.eq_13, evE.eq_14, evE.eq_15, evE.eq_16, evE.eq_17, evE.eq_18, evE.eq_19, evE.eq_20, evE.eq_21, evE.eq_22, evL, evA, evO, evT, Iq.hd, deref, R.bind_ok, truth, intOf, callG, hdS, argsS, argS, putOuts, setOwn, outs, isOwn, isTys, isTy, ty_beq])) (ev_rt last)))⟩
theorem bS0_no {n : Nat} {f f1 d : D} (h : evT (Pn n) bT [.own true f, .shr d, .no, .no, .no] = .ok (false, [.own true f1, .shr d, .no, .no, .no])) : evS (Pn n) bS0 [.own true f, .shr d, .no, .no, .no] = .ok (.nx, [.own true f1, .shr d, .no, .no, .no]) := by
  simp only [bS0, evS, h, R.bind_ok, cond_false, evB]
theorem bent_skip {n : Nat} {f f1 d : D} {l k : Nat} (h : evT (Pn (n + 3)) bT [.own true f, .shr d, .no, .no, .no] = .ok (false, [.own true f1, .shr d, .no, .no, .no])) (hf : Fd f1) (ok : okB l k d = true) (hl : 60 ≤ l) (hl2 : l ≤ 300) :
    ∃ x fr f', okB (3 * l) (k + 4) x = true ∧ Fd f' ∧ (Pn (n + 4)).fn 15 [.own true f, .shr d] = .ok (x, fr, [f']) := by
  obtain ⟨x, fr, f', u2, u3, u4, ox, h', e⟩ := bent_tail (n := n) hf ok hl hl2
  exact ⟨x, fr, f', ox, h', by rw [fn15]; exact bent_fin (ev_nx (bS0_no h) e)⟩
theorem c15 {l : Nat} (hl : 60 ≤ l) (hl2 : l ≤ 300) : ∀ (k n : Nat) {f d : D}, Fd f → okB l k d = true → ∃ x fr f', okB (3 * l) (k + 4) x = true ∧ Fd f' ∧ (Pn (n + k + 4)).fn 15 [.own true f, .shr d] = .ok (x, fr, [f'])
  | k, n, f, d, hf, ok => by
    cases d with
    | fn _ => exact absurd (plain_of ok) (by simp [plain])
    | dic _ => exact absurd (plain_of ok) (by simp [plain])
    | tup xs =>
      obtain ⟨k', rfl, hx⟩ := ok_succ ok
      cases xs with
      | nil => exact bent_skip (n := n + (k' + 1)) (by simp [bT, Iq.run, ioFit, evB, evS, evE.eq_1, evE.eq_2, evE.eq_3, evE.eq_4, evE.eq_5, evE.eq_6, evE.eq_7, evE.eq_8, evE.eq_9, evE.eq_10, evE.eq_11, evE.eq_12, evE.eq_13, evE.eq_14, evE.eq_15, evE.eq_16, evE.eq_17, evE.eq_18, evE.eq_19, evE.eq_20, evE.eq_21, evE.eq_22, evL, evA, evO, evT, Iq.hd, deref, R.bind_ok, truth, intOf, callG, hdS, argsS, argS, putOuts, setOwn, outs, isOwn, isTys, isTy, ty_beq, biD, cmpD]) hf ok hl hl2
      | cons a r =>
        have hlen : (a :: r).length ≤ l := by
          simp only [okB, Bool.and_eq_true, decide_eq_true_eq] at ok
          exact ok.1
        obtain ⟨r5, f1, e1, _, _, h1⟩ := draw (n + (k' + 1) + 2) 5 hf (by omega) (by omega)
        have pos : 0 < (r.length : Int) + 1 := by omega
        have q : evT (Pn (n + (k' + 1) + 3)) bT [.own true f, .shr (.tup (a :: r)), .no, .no, .no] = .ok (decide (0 < r5), [.own true f1, .shr (.tup (a :: r)), .no, .no, .no]) := by
          simp [bT, Iq.run, ioFit, evB, evS, evE.eq_1, evE.eq_2, evE.eq_3, evE.eq_4, evE.eq_5, evE.eq_6, evE.eq_7, evE.eq_8, evE.eq_9, evE.eq_10, evE.eq_11, evE.eq_12, evE.eq_13, evE.eq_14, evE.eq_15, evE.eq_16, evE.eq_17, evE.eq_18, evE.eq_19, evE.eq_20, evE.eq_21, evE.eq_22, evL, evA, evO, evT, Iq.hd, deref, R.bind_ok, truth, intOf, callG, hdS, argsS, argS, putOuts, setOwn, outs, isOwn, isTys, isTy, ty_beq, biD, cmpD, pos, io8, e1]
        by_cases g : 0 < r5
        · rw [decide_eq_true g] at q
          obtain ⟨i, f2, e2, i0, i1, h2⟩ := draw (n + (k' + 1) + 2) (((a :: r).length : Nat) : Int) h1 (by simp) (by omega)
          obtain ⟨y, hy, ey⟩ := at_some (xs := a :: r) i0 i1
          obtain ⟨x, fr, f3, ox, h3, e3⟩ := c15 hl hl2 k' n h2 (hx y hy)
          have e3' : (Pn (n + (k' + 1) + 3)).fn 15 [.own true f2, .shr y] = .ok (x, fr, [f3]) := e3
          have c1 : (cutL (a :: r) none (some i)).length ≤ l := Nat.le_trans cut_len hlen
          have c2 : (cutL (a :: r) (some (i + 1)) none).length ≤ l := Nat.le_trans cut_len hlen
          have a1 := add_tup (a := cutL (a :: r) none (some i)) (b := [x]) (by simp; omega)
          have a2 := add_tup (a := cutL (a :: r) none (some i) ++ [x]) (b := cutL (a :: r) (some (i + 1)) none) (by rw [List.length_append]; simp; omega)
          have iy : idxD (.tup (a :: r)) (.int i) = .ok y := by simp only [idxD, ey]
          have sA : evS (Pn (n + (k' + 1) + 3)) bA [.own true f1, .shr (.tup (a :: r)), .no, .no, .no] = .ok (.nx, [.own true f2, .shr (.tup (a :: r)), .shr (.int i), .no, .no]) := by
            have e2' : (Pn (n + (k' + 1) + 3)).fn 8 [.own true f1, .shr (.int ((r.length : Int) + 1))] = .ok (.int i, false, [f2]) := by simpa using e2
            simp [bA, Iq.run, ioFit, evB, evS, evE.eq_1, evE.eq_2, evE.eq_3, evE.eq_4, evE.eq_5, evE.eq_6, evE.eq_7, evE.eq_8, evE.eq_9, evE.eq_10, evE.eq_11, evE.eq_12, evE.eq_13, evE.eq_14, evE.eq_15, evE.eq_16, evE.eq_17, evE.eq_18, evE.eq_19, evE.eq_20, evE.eq_21, evE.eq_22, evL, evA, evO, evT, Iq.hd, deref, R.bind_ok, truth, intOf, callG, hdS, argsS, argS, putOuts, setOwn, outs, isOwn, io8, biD, e2']
          have sR : evE (Pn (n + (k' + 1) + 3)) bR [.own true f2, .shr (.tup (a :: r)), .shr (.int i), .no, .no] = .ok (.tup (cutL (a :: r) none (some i) ++ [x] ++ cutL (a :: r) (some (i + 1)) none), false, [.own true f3, .shr (.tup (a :: r)), .shr (.int i), .no, .no]) := by
            simp [bR, Iq.run, ioFit, evB, evS, evE.eq_1, evE.eq_2, evE.eq_3, evE.eq_4, evE.eq_5, evE.eq_6, evE.eq_7, evE.eq_8, evE.eq_9, evE.eq_10, evE.eq_11, evE.eq_12, evE.eq_13, evE.eq_14, evE.eq_15, evE.eq_16, evE.eq_17, evE.eq_18, evE.eq_19, evE.eq_20, evE.eq_21, evE.eq_22, evL, evA, evO, evT, Iq.hd, deref, R.bind_ok, truth, intOf, callG, hdS, argsS, argS, putOuts, setOwn, outs, isOwn, io15, sliD, add_ok, iy, e3', a1, a2, -List.append_assoc]
          have s0 : evS (Pn (n + (k' + 1) + 3)) bS0 [.own true f, .shr (.tup (a :: r)), .no, .no, .no] = .ok (.rt (.tup (cutL (a :: r) none (some i) ++ [x] ++ cutL (a :: r) (some (i + 1)) none)) false, [.own true f3, .shr (.tup (a :: r)), .shr (.int i), .no, .no]) := by
            simp only [bS0, evS, q, R.bind_ok, cond_true]
            refine ev_nx sA (ev_rt ?_)
            have : ∀ ς, evS (Pn (n + (k' + 1) + 3)) (.ret bR) ς = (evE (Pn (n + (k' + 1) + 3)) bR ς).bind fun r => .ok (.rt r.1 r.2.1, r.2.2) := fun ς => by simp only [bR, evS]
            rw [this, sR]; rfl
          refine ⟨_, false, f3, tup_ok ?_ ?_, h3, by rw [fn15]; exact bent_fin (ev_rt s0)⟩
          · rw [List.length_append, List.length_append]; simp; omega
          · intro z hz
            rcases List.mem_append.mp hz with hz | hz
            · rcases List.mem_append.mp hz with hz | hz
              · exact cut_ok hx z hz
              · rw [List.mem_singleton.mp hz]; exact ox
            · exact cut_ok hx z hz
        · rw [decide_eq_false g] at q
          exact bent_skip (n := n + (k' + 1)) q h1 ok hl hl2
    | _ => exact bent_skip (n := n + k) (by simp [bT, Iq.run, ioFit, evB, evS, evE.eq_1, evE.eq_2, evE.eq_3, evE.eq_4, evE.eq_5, evE.eq_6, evE.eq_7, evE.eq_8, evE.eq_9, evE.eq_10, evE.eq_11, evE.eq_12, evE.eq_13, evE.eq_14, evE.eq_15, evE.eq_16, evE.eq_17, evE.eq_18, evE.eq_19, evE.eq_20, evE.eq_21, evE.eq_22, evL, evA, evO, evT, Iq.hd, deref, R.bind_ok, truth, intOf, callG, hdS, argsS, argS, putOuts, setOwn, outs, isOwn, isTys, isTy, ty_beq]) hf ok hl hl2
end Q
set_option Elab.async false
set_option linter.all false
set_option maxRecDepth 100000
set_option maxHeartbeats 4000000
namespace Q
open PySem L2 Iq
/-! ### a name of drawn signs -/
theorem fold_ok : ∀ (ps : List Str) (acc : Array Nat) (m : Nat), acc.size ≤ m → acc.all (· < 0x110000) = true → (∀ p ∈ ps, okS 1 p = true) →
    (ps.foldl (fun acc p => acc ++ (Str.ofString "").cps ++ p.cps) acc).size ≤ m + ps.length ∧ (ps.foldl (fun acc p => acc ++ (Str.ofString "").cps ++ p.cps) acc).all (· < 0x110000) = true
  | [], acc, m, h1, h2, _ => ⟨by simpa using h1, h2⟩
  | p :: ps, acc, m, h1, h2, h3 => by
    have hp := h3 p (by simp)
    simp only [okS, Bool.and_eq_true, decide_eq_true_eq, PyData.strOk] at hp
    have e0 : (Str.ofString "").cps = #[] := by decide +kernel
    have hs : p.cps.size ≤ 1 := hp.1
    obtain ⟨g1, g2⟩ := fold_ok ps (acc ++ (Str.ofString "").cps ++ p.cps) (m + 1) (by rw [e0, Array.size_append, Array.size_append]; simp; omega) (by rw [e0, Array.all_append, Array.all_append, h2, hp.2]; simp) fun q hq => h3 q (List.mem_cons_of_mem _ hq)
    exact ⟨by simp only [List.foldl_cons, List.length_cons]; omega, g2⟩
theorem join_ok {ys : List Str} (h : ∀ y ∈ ys, okS 1 y = true) : okS (ys.length + 1) (Txt.join "" ys) = true := by
  have e : (Txt.join "" ys).cps = (ys.drop 1).foldl (fun acc p => acc ++ (Str.ofString "").cps ++ p.cps) (ys.headD Str.empty).cps := rfl
  have h0 : (ys.headD Str.empty).cps.size ≤ 1 ∧ (ys.headD Str.empty).cps.all (· < 0x110000) = true := by
    cases ys with
    | nil => exact ⟨by decide +kernel, by decide +kernel⟩
    | cons y ys =>
      have hp := h y (by simp)
      simp only [okS, Bool.and_eq_true, decide_eq_true_eq, PyData.strOk] at hp
      exact ⟨hp.1, hp.2⟩
  obtain ⟨g1, g2⟩ := fold_ok (ys.drop 1) _ 1 h0.1 h0.2 fun p hp => h p (List.mem_of_mem_drop hp)
  simp only [okS, Bool.and_eq_true, decide_eq_true_eq, PyData.strOk]
  refine ⟨?_, by rw [e]; exact g2⟩
  show (Txt.join "" ys).cps.size ≤ ys.length + 1
  rw [e]
  have : (ys.drop 1).length ≤ ys.length := by rw [List.length_drop]; omega
  omega
theorem strL_of : ∀ {ds : List D}, (∀ d ∈ ds, ∃ s, d = .str s ∧ okS 1 s = true) → ∃ ys, strL ds = some ys ∧ ys.length = ds.length ∧ ∀ y ∈ ys, okS 1 y = true
  | [], _ => ⟨[], rfl, rfl, by simp⟩
  | d :: ds, h => by
    obtain ⟨s, rfl, hs⟩ := h d (by simp)
    obtain ⟨ys, e, l, g⟩ := strL_of (ds := ds) fun d hd => h d (List.mem_cons_of_mem _ hd)
    refine ⟨s :: ys, by simp only [strL, e, Option.map_some], by simp [l], fun y hy => ?_⟩
    rcases List.mem_cons.mp hy with rfl | hy
    · exact hs
    · exact g y hy
theorem sum_le : ∀ {ys : List Str}, (∀ y ∈ ys, okS 1 y = true) → (ys.map Str.length).sum ≤ ys.length
  | [], _ => by simp
  | y :: ys, h => by
    have h1 := okS_len (h y (by simp))
    have h2 := sum_le (ys := ys) fun z hz => h z (List.mem_cons_of_mem _ hz)
    simp only [List.map_cons, List.sum_cons, List.length_cons]
    omega
/-- the slots of the law, ahead of its thing -/
abbrev Ls (sc f : D) (s2 s3 s4 s5 s6 s7 s8 s9 s10 : Sl) : List Sl := [.shr sc, .own false f, s2, s3, s4, s5, s6, s7, s8, s9, s10, .no]
section
variable {n : Nat} {sc f : D} {s2 s3 s4 s5 s6 s7 s8 s9 s10 : Sl}
def lN : Ex := .join "" (.comp (.call 9 [(.var 1), (.con (.str "abmz"))]) (.nm 11) .rng [(.bin .Add (.con (.int 1)) (.call 8 [(.var 1), (.con (.int 8))]))] none)
theorem name_go (hf : Fd f) : ∃ x f', okS 60 x = true ∧ Fd f' ∧ evS (Pn (n + 2)) (.asg 5 lN) (Ls sc f s2 s3 s4 s5 s6 s7 s8 s9 s10) = .ok (.nx, Ls sc f' s2 s3 s4 (.shr (.str x)) s6 s7 s8 s9 s10) := by
  obtain ⟨r, f1, e1, r0, r8, h1⟩ := draw (n + 1) 8 hf (by omega) (by omega)
  obtain ⟨ds, ς', e2, pd, len, inv⟩ := lc_all (tst := evQ (Pn (n + 2)) none) (el := evE (Pn (n + 2)) (.call 9 [(.var 1), (.con (.str "abmz"))])) (t := .nm 11) (Inv := fun ς => ∃ f' u, Fd f' ∧ ς = [.shr sc, .own false f', s2, s3, s4, s5, s6, s7, s8, s9, s10, u]) (Pd := fun d => ∃ s, d = .str s ∧ okS 1 s = true)
    (upTo 0 (1 + r).toNat) (Ls sc f1 s2 s3 s4 s5 s6 s7 s8 s9 s10) ⟨f1, .no, h1, rfl⟩ fun x hx ς ⟨f2, u, h2, hς⟩ => by
      subst hς
      obtain ⟨c, f3, hc, h3, e3⟩ := pick_str (dr n) (z := "abmz") h2 (by decide +kernel) (by decide +kernel)
      have e3' : (Pn (n + 2)).fn 9 [.own true f2, .shr (.str "abmz")] = .ok (.str ⟨#[c]⟩, false, [f3]) := by rw [pk]; exact e3
      refine ⟨[.shr sc, .own false f2, s2, s3, s4, s5, s6, s7, s8, s9, s10, .shr x], [.shr sc, .own false f2, s2, s3, s4, s5, s6, s7, s8, s9, s10, .shr x], rfl, rfl, .str ⟨#[c]⟩, false, [.shr sc, .own false f3, s2, s3, s4, s5, s6, s7, s8, s9, s10, .shr x], ?_, ⟨_, rfl, ?_⟩, f3, _, h3, rfl⟩
      · simp [Iq.run, ioFit, evB, evS, evE.eq_1, evE.eq_2, evE.eq_3, evE.eq_4, evE.eq_5, evE.eq_6, evE.eq_7, evE.eq_8, evE.eq_9, evE.eq_10, evE.eq_11, evE.eq_12, evE.eq_13, evE.eq_14, evE.eq_15, evE.eq_16, evE.eq_17, evE.eq_18, evE.eq_19, evE.eq_20, evE.eq_21, evE.eq_22, evL, evA, evO, evT, Iq.hd, deref, R.bind_ok, truth, intOf, callG, hdS, argsS, argS, putOuts, setOwn, outs, isOwn, io9, e3']
      · have : ∀ c ∈ (Str.ofString "abmz").cps.toList, okS 1 ⟨#[c]⟩ = true := by decide +kernel
        exact this c hc
  obtain ⟨f2, u, h2, rfl⟩ := inv
  have wk : walk .rng [.int (1 + r)] = .ok (upTo 0 (1 + r).toNat) := by
    have : -1000 ≤ 1 + r ∧ 1 + r ≤ 16777216 := by omega
    simp only [walk, this, and_self, if_true]
  have co := ev_comp (P := Pn (n + 2)) (ss := [(.bin .Add (.con (.int 1)) (.call 8 [(.var 1), (.con (.int 8))]))]) (ς := Ls sc f s2 s3 s4 s5 s6 s7 s8 s9 s10) (rs := [.int (1 + r)]) (ς1 := Ls sc f1 s2 s3 s4 s5 s6 s7 s8 s9 s10) (by simp [Iq.run, ioFit, evB, evS, evE.eq_1, evE.eq_2, evE.eq_3, evE.eq_4, evE.eq_5, evE.eq_6, evE.eq_7, evE.eq_8, evE.eq_9, evE.eq_10, evE.eq_11, evE.eq_12, evE.eq_13, evE.eq_14, evE.eq_15, evE.eq_16, evE.eq_17, evE.eq_18, evE.eq_19, evE.eq_20, evE.eq_21, evE.eq_22, evL, evA, evO, evT, Iq.hd, deref, R.bind_ok, truth, intOf, callG, hdS, argsS, argS, putOuts, setOwn, outs, isOwn, io8, e1, add_ok]) wk rfl e2
  obtain ⟨ys, e3, l3, p3⟩ := strL_of pd
  have ln : ds.length = (1 + r).toNat := by rw [len]; simp [Iq.upTo]
  have jn : joinD "" (.lst ds) = .ok (.str (Txt.join "" ys)) := by
    have : ys.length * (Str.ofString "").length + (ys.map Str.length).sum ≤ 100000 := by
      have h1 := sum_le p3
      have h2 : (Str.ofString "").length = 0 := by decide +kernel
      rw [h2]
      omega
    simp only [joinD, e3, this, if_true]
  refine ⟨_, f2, okS_mono (join_ok p3) (by omega), h2, ?_⟩
  simp [lN, Iq.run, ioFit, evB, evS, evE.eq_1, evE.eq_2, evE.eq_3, evE.eq_4, evE.eq_5, evE.eq_6, evE.eq_7, evE.eq_8, evE.eq_9, evE.eq_10, evE.eq_11, evE.eq_12, evE.eq_13, evE.eq_14, evE.eq_15, evE.eq_16, evE.eq_17, evE.eq_18, evE.eq_19, evE.eq_20, evE.eq_21, evE.eq_22, evL, evA, evO, evT, Iq.hd, deref, R.bind_ok, truth, intOf, callG, hdS, argsS, argS, putOuts, setOwn, outs, isOwn, co, jn, backS, tgS]
end
end Q
set_option Elab.async false
set_option linter.all false
set_option maxRecDepth 100000
set_option maxHeartbeats 4000000
namespace Q
open PySem L2 Iq
section
variable {n : Nat} {sc f : D} {s2 s3 s4 s5 s6 s7 s8 s9 s10 : Sl}
theorem pk_clo {es : List Ex} {l k m : Nat} (h : okL l k m es = true) (h1 : 0 < m) (h2 : m < 1000) (hf : Fd f) : ∃ y f', okB l k y = true ∧ Fd f' ∧ evE (Pn (n + 2)) (.call 9 [(.var 1), (.lst es)]) (Ls sc f s2 s3 s4 s5 s6 s7 s8 s9 s10) = .ok (y, false, Ls sc f' s2 s3 s4 s5 s6 s7 s8 s9 s10) := by
  obtain ⟨ds, e, l1, p⟩ := okL_is h
  obtain ⟨y, f', hy, h', e2⟩ := pick n (xs := ds) hf (by omega) (by omega)
  have e1 : evE (Pn (n + 2)) (.lst es) (Ls sc f s2 s3 s4 s5 s6 s7 s8 s9 s10) = .ok (.lst ds, true, Ls sc f s2 s3 s4 s5 s6 s7 s8 s9 s10) := by simp only [evE, cloL_ok e, R.bind_ok]
  refine ⟨y, f', p y hy, h', ?_⟩
  simp only [evE.eq_18, io9, evA, Iq.hd, List.getElem?_cons_succ, List.getElem?_cons_zero, R.bind_ok, e1, callG, hdS, List.nodup_cons, List.not_mem_nil, not_false_eq_true, List.nodup_nil, and_self, if_true, argsS, argS, e2, putOuts, setOwn, List.set_cons_succ, List.set_cons_zero]
theorem pk_set {i : Nat} {es : List Ex} {y f' : D} {ς ς' : List Sl} (e : evE (Pn (n + 2)) (.call 9 [(.var 1), (.lst es)]) ς = .ok (y, false, ς')) : evS (Pn (n + 2)) (.asg i (.call 9 [(.var 1), (.lst es)])) ς = .ok (.nx, ς'.set i (.shr y)) := by
  simp only [evS, e, R.bind_ok, cond_false]
def nums : List Ex := [(.con (.int 0)), (.con (.int 1)), (.con (.int 7)), (.con (.int 12)), (.bin .Pow (.con (.int 10)) (.con (.int 59))), (.con (.int 3))]
theorem nums_ok : okL 60 0 6 nums = true := by decide +kernel
/-- the eight words, still the law's own or handed on -/
def W3 (s : Sl) : Prop := s = .own false (.lst words) ∨ s = .shr (.lst words)
theorem words_str {y : D} (h : y ∈ words) : ∃ w, y = .str w ∧ okS 60 w = true := by
  simp only [words, List.mem_cons, List.not_mem_nil, or_false] at h
  rcases h with rfl | rfl | rfl | rfl | rfl | rfl | rfl | rfl <;> exact ⟨_, rfl, by decide +kernel⟩
theorem word_go (hf : Fd f) (h3 : W3 s3) : ∃ w f', okS 60 w = true ∧ Fd f' ∧ evS (Pn (n + 2)) (.asg 7 (.call 9 [(.var 1), (.var 3)])) (Ls sc f s2 s3 s4 s5 s6 s7 s8 s9 s10) = .ok (.nx, Ls sc f' s2 (.shr (.lst words)) s4 s5 s6 (.shr (.str w)) s8 s9 s10) := by
  obtain ⟨y, f', hy, h', e⟩ := pick n (xs := words) hf (by decide) (by decide)
  obtain ⟨w, rfl, hw⟩ := words_str hy
  refine ⟨w, f', hw, h', ?_⟩
  rcases h3 with rfl | rfl <;> simp [Iq.run, ioFit, evB, evS, evE.eq_1, evE.eq_2, evE.eq_3, evE.eq_4, evE.eq_5, evE.eq_6, evE.eq_7, evE.eq_8, evE.eq_9, evE.eq_10, evE.eq_11, evE.eq_12, evE.eq_13, evE.eq_14, evE.eq_15, evE.eq_16, evE.eq_17, evE.eq_18, evE.eq_19, evE.eq_20, evE.eq_21, evE.eq_22, evL, evA, evO, evT, Iq.hd, deref, R.bind_ok, truth, intOf, callG, hdS, argsS, argS, putOuts, setOwn, outs, isOwn, io9, e]
def lE : Ex := .tup [(.con (.str "step")), (.tup [(.var 6), (.var 7), (.ite (.at (.cmp .In (.var 7) (.tup [(.con (.str "go")), (.con (.str "take"))]))) (.call 8 [(.var 1), (.con (.int 9))]) (.neg (.con (.int 1))))])]
theorem ok_int {l k : Nat} (i : Int) : okB l k (.int i) = true := by cases k <;> simp only [okB]
theorem ok_str {l k : Nat} {s : Str} (h : okS l s = true) : okB l k (.str s) = true := by cases k <;> simp only [okB] <;> exact h
theorem step_ok : okS 60 "step" = true := by decide +kernel
theorem event_go {y : D} {w : Str} (hf : Fd f) (hy : okB 60 0 y = true) (hw : okS 60 w = true) : ∃ x f', okB 60 3 x = true ∧ Fd f' ∧ evS (Pn (n + 2)) (.asg 8 lE) (Ls sc f s2 s3 s4 s5 (.shr y) (.shr (.str w)) s8 s9 s10) = .ok (.nx, Ls sc f' s2 s3 s4 s5 (.shr y) (.shr (.str w)) (.shr x) s9 s10) := by
  obtain ⟨r, f1, e1, _, _, h1⟩ := draw (n + 1) 9 hf (by omega) (by omega)
  have ok : ∀ i : Int, okB 60 3 (.tup [.str "step", .tup [y, .str w, .int i]]) = true := fun i => by
    refine tup_ok (by simp) fun z hz => ?_
    simp only [List.mem_cons, List.not_mem_nil, or_false] at hz
    rcases hz with rfl | rfl
    · exact ok_str step_ok
    · refine tup_ok (by simp) fun z hz => ?_
      simp only [List.mem_cons, List.not_mem_nil, or_false] at hz
      rcases hz with rfl | rfl | rfl
      · exact okB_mono (by omega) (by omega) hy
      · exact ok_str hw
      · exact ok_int _
  cases g : in2 w with
  | true => exact ⟨_, f1, ok r, h1, by simp [lE, Iq.run, ioFit, evB, evS, evE.eq_1, evE.eq_2, evE.eq_3, evE.eq_4, evE.eq_5, evE.eq_6, evE.eq_7, evE.eq_8, evE.eq_9, evE.eq_10, evE.eq_11, evE.eq_12, evE.eq_13, evE.eq_14, evE.eq_15, evE.eq_16, evE.eq_17, evE.eq_18, evE.eq_19, evE.eq_20, evE.eq_21, evE.eq_22, evL, evA, evO, evT, Iq.hd, deref, R.bind_ok, truth, intOf, callG, hdS, argsS, argS, putOuts, setOwn, outs, isOwn, cmpD, w2, g, io8, e1]⟩
  | false => exact ⟨_, f, ok (-1), hf, by simp [lE, Iq.run, ioFit, evB, evS, evE.eq_1, evE.eq_2, evE.eq_3, evE.eq_4, evE.eq_5, evE.eq_6, evE.eq_7, evE.eq_8, evE.eq_9, evE.eq_10, evE.eq_11, evE.eq_12, evE.eq_13, evE.eq_14, evE.eq_15, evE.eq_16, evE.eq_17, evE.eq_18, evE.eq_19, evE.eq_20, evE.eq_21, evE.eq_22, evL, evA, evO, evT, Iq.hd, deref, R.bind_ok, truth, intOf, callG, hdS, argsS, argS, putOuts, setOwn, outs, isOwn, cmpD, w2, g]⟩
end
end Q
set_option Elab.async false
set_option linter.all false
set_option maxRecDepth 100000
set_option maxHeartbeats 4000000
namespace Q
open PySem L2 Iq
section
variable {n : Nat} {sc f : D} {s2 s3 s4 s5 s6 s7 s8 s9 s10 : Sl}
def lL : Ex := .tup [(.call 9 [(.var 1), (.lst [(.con (.str "exclude")), (.con (.str "allow"))])]), (.var 5), (.var 6), (.call 9 [(.var 1), (.lst [(.con (.str "h")), (.con (.str "abcdefgh")), (.var 5)])])]
theorem late_go {x : Str} {y : D} (hf : Fd f) (hx : okS 60 x = true) (hy : okB 60 0 y = true) : ∃ z f', okB 60 3 z = true ∧ Fd f' ∧ evS (Pn (n + 2)) (.asg 9 lL) (Ls sc f s2 s3 s4 (.shr (.str x)) (.shr y) s7 s8 s9 s10) = .ok (.nx, Ls sc f' s2 s3 s4 (.shr (.str x)) (.shr y) s7 s8 (.shr z) s10) := by
  obtain ⟨a, f1, ha, h1, e1⟩ := pick n (xs := [.str "exclude", .str "allow"]) hf (by simp) (by simp)
  obtain ⟨b, f2, hb, h2, e2⟩ := pick n (xs := [.str "h", .str "abcdefgh", .str x]) h1 (by simp) (by simp)
  have oa : okB 60 0 a = true := by
    simp only [List.mem_cons, List.not_mem_nil, or_false] at ha
    rcases ha with rfl | rfl <;> decide +kernel
  have ob : okB 60 0 b = true := by
    simp only [List.mem_cons, List.not_mem_nil, or_false] at hb
    rcases hb with rfl | rfl | rfl
    · decide +kernel
    · decide +kernel
    · exact ok_str hx
  refine ⟨.tup [a, .str x, y, b], f2, tup_ok (by simp) fun z hz => ?_, h2, by simp [lL, Iq.run, ioFit, evB, evS, evE.eq_1, evE.eq_2, evE.eq_3, evE.eq_4, evE.eq_5, evE.eq_6, evE.eq_7, evE.eq_8, evE.eq_9, evE.eq_10, evE.eq_11, evE.eq_12, evE.eq_13, evE.eq_14, evE.eq_15, evE.eq_16, evE.eq_17, evE.eq_18, evE.eq_19, evE.eq_20, evE.eq_21, evE.eq_22, evL, evA, evO, evT, Iq.hd, deref, R.bind_ok, truth, intOf, callG, hdS, argsS, argS, putOuts, setOwn, outs, isOwn, io9, e1, e2]⟩
  simp only [List.mem_cons, List.not_mem_nil, or_false] at hz
  rcases hz with rfl | rfl | rfl | rfl
  · exact okB_mono (by omega) (by omega) oa
  · exact ok_str hx
  · exact okB_mono (by omega) (by omega) hy
  · exact okB_mono (by omega) (by omega) ob
/-- the things so far -/
structure Th (m : Nat) (ts : List D) : Prop where
  len : ts.length ≤ m
  ok : ∀ t ∈ ts, okB 540 11 t = true
theorem Th.add {m : Nat} {ts : List D} {t : D} (h : Th m ts) (ht : okB 540 11 t = true) : Th (m + 1) (ts ++ [t]) := ⟨by have := h.len; simp; omega, fun z hz => (List.mem_append.mp hz).elim (h.ok z) fun q => by rw [List.mem_singleton.mp q]; exact ht⟩
theorem Th.fit {m : Nat} {ts : List D} (h : Th m ts) (hm : m ≤ 1000) : ts.length < sizeLine := by
  have := h.len
  have : sizeLine = 16777216 := sizeLine_eq
  omega
theorem bend {x : D} (hf : Fd f) (ok : okB 60 3 x = true) : ∃ y fr f', okB 180 7 y = true ∧ Fd f' ∧ (Pn (n + 11)).fn 15 [.own true f, .shr x] = .ok (y, fr, [f']) := c15 (l := 60) (by omega) (by omega) 3 (n + 4) hf ok
theorem bend2 {x : D} (hf : Fd f) (ok : okB 180 7 x = true) : ∃ y fr f', okB 540 11 y = true ∧ Fd f' ∧ (Pn (n + 11)).fn 15 [.own true f, .shr x] = .ok (y, fr, [f']) := c15 (l := 180) (by omega) (by omega) 7 n hf ok
theorem app_x {x : D} {ts : List D} {m : Nat} (h : Th m ts) (hm : m ≤ 900) (ok : okB 540 11 x = true) : evS (Pn (n + 11)) (.app 2 (.var 10)) (Ls sc f (.own false (.lst ts)) s3 s4 s5 s6 s7 s8 s9 (.shr x)) = .ok (.nx, Ls sc f (.own false (.lst (ts ++ [x]))) s3 s4 s5 s6 s7 s8 s9 (.shr x)) := by
  simp [Iq.run, ioFit, evB, evS, evE.eq_1, evE.eq_2, evE.eq_3, evE.eq_4, evE.eq_5, evE.eq_6, evE.eq_7, evE.eq_8, evE.eq_9, evE.eq_10, evE.eq_11, evE.eq_12, evE.eq_13, evE.eq_14, evE.eq_15, evE.eq_16, evE.eq_17, evE.eq_18, evE.eq_19, evE.eq_20, evE.eq_21, evE.eq_22, evL, evA, evO, evT, Iq.hd, deref, R.bind_ok, truth, intOf, callG, hdS, argsS, argS, putOuts, setOwn, outs, isOwn, isOwnL, setSl, addD, h.fit (by omega)]
theorem app_b {x : D} {ts : List D} {m : Nat} (hf : Fd f) (h : Th m ts) (hm : m ≤ 900) (ok : okB 60 3 x = true) : ∃ y f', okB 540 11 y = true ∧ Fd f' ∧ evS (Pn (n + 11)) (.app 2 (.call 15 [(.var 1), (.var 10)])) (Ls sc f (.own false (.lst ts)) s3 s4 s5 s6 s7 s8 s9 (.shr x)) = .ok (.nx, Ls sc f' (.own false (.lst (ts ++ [y]))) s3 s4 s5 s6 s7 s8 s9 (.shr x)) := by
  obtain ⟨y, fr, f', oy, h', e⟩ := bend (n := n) hf ok
  exact ⟨y, f', okB_mono (by omega) (by omega) oy, h', by simp [Iq.run, ioFit, evB, evS, evE.eq_1, evE.eq_2, evE.eq_3, evE.eq_4, evE.eq_5, evE.eq_6, evE.eq_7, evE.eq_8, evE.eq_9, evE.eq_10, evE.eq_11, evE.eq_12, evE.eq_13, evE.eq_14, evE.eq_15, evE.eq_16, evE.eq_17, evE.eq_18, evE.eq_19, evE.eq_20, evE.eq_21, evE.eq_22, evL, evA, evO, evT, Iq.hd, deref, R.bind_ok, truth, intOf, callG, hdS, argsS, argS, putOuts, setOwn, outs, isOwn, isOwnL, io15, e, setSl, addD, h.fit (by omega)]⟩
theorem app_bb {x : D} {ts : List D} {m : Nat} (hf : Fd f) (h : Th m ts) (hm : m ≤ 900) (ok : okB 60 3 x = true) : ∃ y f', okB 540 11 y = true ∧ Fd f' ∧ evS (Pn (n + 11)) (.app 2 (.call 15 [(.var 1), (.call 15 [(.var 1), (.var 8)])])) (Ls sc f (.own false (.lst ts)) s3 s4 s5 s6 s7 (.shr x) s9 s10) = .ok (.nx, Ls sc f' (.own false (.lst (ts ++ [y]))) s3 s4 s5 s6 s7 (.shr x) s9 s10) := by
  obtain ⟨y, fr, f1, oy, h1, e1⟩ := bend (n := n) hf ok
  obtain ⟨z, fr2, f2, oz, h2, e2⟩ := bend2 (n := n) h1 oy
  exact ⟨z, f2, oz, h2, by simp [Iq.run, ioFit, evB, evS, evE.eq_1, evE.eq_2, evE.eq_3, evE.eq_4, evE.eq_5, evE.eq_6, evE.eq_7, evE.eq_8, evE.eq_9, evE.eq_10, evE.eq_11, evE.eq_12, evE.eq_13, evE.eq_14, evE.eq_15, evE.eq_16, evE.eq_17, evE.eq_18, evE.eq_19, evE.eq_20, evE.eq_21, evE.eq_22, evL, evA, evO, evT, Iq.hd, deref, R.bind_ok, truth, intOf, callG, hdS, argsS, argS, putOuts, setOwn, outs, isOwn, isOwnL, io15, e1, e2, setSl, addD, h.fit (by omega)]⟩
def lO : List Ex := [(.neg (.con (.int 1))), (.con (.int 0)), (.con (.int 1)), (.con (.bl true)), (.con .non), (.neg (.con (.int 2)))]
theorem app_odd {y : D} {w : Str} {ts : List D} {m : Nat} (hf : Fd f) (h : Th m ts) (hm : m ≤ 900) (hy : okB 60 0 y = true) (hw : okS 60 w = true) : ∃ x f', okB 540 11 x = true ∧ Fd f' ∧ evS (Pn (n + 11)) (.app 2 (.tup [(.con (.str "step")), (.tup [(.var 6), (.var 7), (.call 9 [(.var 1), (.lst lO)])])])) (Ls sc f (.own false (.lst ts)) s3 s4 s5 (.shr y) (.shr (.str w)) s8 s9 s10) = .ok (.nx, Ls sc f' (.own false (.lst (ts ++ [x]))) s3 s4 s5 (.shr y) (.shr (.str w)) s8 s9 s10) := by
  obtain ⟨a, f1, ha, h1, e1⟩ := pick (n + 9) (xs := [.int (-1), .int 0, .int 1, .bl true, .non, .int (-2)]) hf (by simp) (by simp)
  have oa : okB 60 0 a = true := by
    simp only [List.mem_cons, List.not_mem_nil, or_false] at ha
    rcases ha with rfl | rfl | rfl | rfl | rfl | rfl <;> decide +kernel
  refine ⟨.tup [.str "step", .tup [y, .str w, a]], f1, ?_, h1, by simp [lO, Iq.run, ioFit, evB, evS, evE.eq_1, evE.eq_2, evE.eq_3, evE.eq_4, evE.eq_5, evE.eq_6, evE.eq_7, evE.eq_8, evE.eq_9, evE.eq_10, evE.eq_11, evE.eq_12, evE.eq_13, evE.eq_14, evE.eq_15, evE.eq_16, evE.eq_17, evE.eq_18, evE.eq_19, evE.eq_20, evE.eq_21, evE.eq_22, evL, evA, evO, evT, Iq.hd, deref, R.bind_ok, truth, intOf, callG, hdS, argsS, argS, putOuts, setOwn, outs, isOwn, isOwnL, io9, e1, setSl, addD, h.fit (by omega)]⟩
  refine tup_ok (by simp) fun z hz => ?_
  simp only [List.mem_cons, List.not_mem_nil, or_false] at hz
  rcases hz with rfl | rfl
  · exact ok_str (okS_mono step_ok (by omega))
  · refine tup_ok (by simp) fun z hz => ?_
    simp only [List.mem_cons, List.not_mem_nil, or_false] at hz
    rcases hz with rfl | rfl | rfl
    · exact okB_mono (by omega) (by omega) hy
    · exact ok_str (okS_mono hw (by omega))
    · exact okB_mono (by omega) (by omega) oa
end
end Q
set_option Elab.async false
set_option linter.all false
set_option maxRecDepth 100000
set_option maxHeartbeats 4000000
namespace Q
open PySem L2 Iq
theorem for_satB {t : Tg} {body : List Sl → Iq.R (Fl × List Sl)} {Iv : Nat → List Sl → Prop} {B : Nat} : ∀ (xs : List D) (i : Nat) (ς : List Sl), i + xs.length ≤ B → Iv i ς →
    (∀ x ∈ xs, ∀ i ς, i < B → Iv i ς → ∃ ς1 ς2, bindT t x ς = .ok ς1 ∧ body ς1 = .ok (.nx, ς2) ∧ Iv (i + 1) ς2) → ∃ ς', forGo t body xs ς = .ok (.nx, ς') ∧ Iv (i + xs.length) ς'
  | [], i, ς, _, h, _ => ⟨ς, rfl, h⟩
  | x :: xs, i, ς, hb, h, st => by
    simp only [List.length_cons] at hb
    obtain ⟨ς1, ς2, e1, e2, g⟩ := st x (by simp) i ς (by omega) h
    obtain ⟨ς', e3, i'⟩ := for_satB xs (i + 1) ς2 (by omega) g fun y hy => st y (List.mem_cons_of_mem _ hy)
    refine ⟨ς', by simp only [forGo, e1, R.bind_ok, e2, e3], ?_⟩
    have : i + 1 + xs.length = i + (x :: xs).length := by simp; omega
    rw [← this]; exact i'
section
variable {n : Nat} {sc f : D} {s2 s3 s4 s5 s6 s7 s8 s9 s10 : Sl}
def lI : List Ex := [(.tup [(.var 8), (.var 9), (.tup [(.con (.str "mark")), (.var 5)]), (.tup [(.con (.str "guard")), (.call 9 [(.var 1), (.lst [(.con (.str "on")), (.con (.str "off"))])])])])]
def lIb : List Sm := [.app 2 (.var 10), .app 2 (.call 15 [(.var 1), (.var 10)])]
theorem in_step {x : D} {ts : List D} {m : Nat} (hf : Fd f) (h : Th m ts) (hm : m ≤ 800) (ok : okB 60 3 x = true) : ∃ ts' f', Th (m + 2) ts' ∧ Fd f' ∧ evB (Pn (n + 11)) lIb (Ls sc f (.own false (.lst ts)) s3 s4 s5 s6 s7 s8 s9 (.shr x)) = .ok (.nx, Ls sc f' (.own false (.lst ts')) s3 s4 s5 s6 s7 s8 s9 (.shr x)) := by
  have ok' : okB 540 11 x = true := okB_mono (by omega) (by omega) ok
  obtain ⟨y, f', oy, h', e⟩ := app_b (n := n) (sc := sc) (s3 := s3) (s4 := s4) (s5 := s5) (s6 := s6) (s7 := s7) (s8 := s8) (s9 := s9) hf (h.add ok') (by omega) ok
  refine ⟨_, f', (h.add ok').add oy, h', ev_nx (app_x h (by omega) ok') (ev_nx e ?_)⟩
  simp only [evB]
theorem inner_go {x : Str} {e l : D} {ts : List D} {m : Nat} (hf : Fd f) (h : Th m ts) (hm : m ≤ 700) (ox : okS 60 x = true) (oe : okB 60 3 e = true) (ol : okB 60 3 l = true) : ∃ ts' f' u, Th (m + 8) ts' ∧ Fd f' ∧ evS (Pn (n + 11)) (.loop (.nm 10) .seq lI lIb) (Ls sc f (.own false (.lst ts)) s3 s4 (.shr (.str x)) s6 s7 (.shr e) (.shr l) s10) = .ok (.nx, Ls sc f' (.own false (.lst ts')) s3 s4 (.shr (.str x)) s6 s7 (.shr e) (.shr l) (.shr u)) := by
  obtain ⟨g, f0, hg, h0, e0⟩ := pick (n + 9) (xs := [.str "on", .str "off"]) hf (by simp) (by simp)
  have og : okB 60 0 g = true := by
    simp only [List.mem_cons, List.not_mem_nil, or_false] at hg
    rcases hg with rfl | rfl <;> decide +kernel
  have oA : okB 60 3 (.tup [.str "mark", .str x]) = true := tup_ok (by simp) fun z hz => by
    simp only [List.mem_cons, List.not_mem_nil, or_false] at hz
    rcases hz with rfl | rfl
    · decide +kernel
    · exact ok_str ox
  have oG : okB 60 3 (.tup [.str "guard", g]) = true := tup_ok (by simp) fun z hz => by
    simp only [List.mem_cons, List.not_mem_nil, or_false] at hz
    rcases hz with rfl | rfl
    · decide +kernel
    · exact okB_mono (by omega) (by omega) og
  obtain ⟨t1, f1, g1, h1, e1⟩ := in_step (n := n) (sc := sc) (s3 := s3) (s4 := s4) (s5 := .shr (.str x)) (s6 := s6) (s7 := s7) (s8 := .shr e) (s9 := .shr l) h0 h (by omega) oe
  obtain ⟨t2, f2, g2, h2, e2⟩ := in_step (n := n) (sc := sc) (s3 := s3) (s4 := s4) (s5 := .shr (.str x)) (s6 := s6) (s7 := s7) (s8 := .shr e) (s9 := .shr l) h1 g1 (by omega) ol
  obtain ⟨t3, f3, g3, h3, e3⟩ := in_step (n := n) (sc := sc) (s3 := s3) (s4 := s4) (s5 := .shr (.str x)) (s6 := s6) (s7 := s7) (s8 := .shr e) (s9 := .shr l) h2 g2 (by omega) oA
  obtain ⟨t4, f4, g4, h4, e4⟩ := in_step (n := n) (sc := sc) (s3 := s3) (s4 := s4) (s5 := .shr (.str x)) (s6 := s6) (s7 := s7) (s8 := .shr e) (s9 := .shr l) h3 g3 (by omega) oG
  have src : evL (Pn (n + 11)) lI (Ls sc f (.own false (.lst ts)) s3 s4 (.shr (.str x)) s6 s7 (.shr e) (.shr l) s10) = .ok ([.tup [e, l, .tup [.str "mark", .str x], .tup [.str "guard", g]]], Ls sc f0 (.own false (.lst ts)) s3 s4 (.shr (.str x)) s6 s7 (.shr e) (.shr l) s10) := by
    simp [lI, Iq.run, ioFit, evB, evS, evE.eq_1, evE.eq_2, evE.eq_3, evE.eq_4, evE.eq_5, evE.eq_6, evE.eq_7, evE.eq_8, evE.eq_9, evE.eq_10, evE.eq_11, evE.eq_12, evE.eq_13, evE.eq_14, evE.eq_15, evE.eq_16, evE.eq_17, evE.eq_18, evE.eq_19, evE.eq_20, evE.eq_21, evE.eq_22, evL, evA, evO, evT, Iq.hd, deref, R.bind_ok, truth, intOf, callG, hdS, argsS, argS, putOuts, setOwn, outs, isOwn, io9, e0]
  refine ⟨t4, f4, .tup [.str "guard", g], g4, h4, ?_⟩
  simp only [evS, src, R.bind_ok, walk, forGo, bindT, List.set_cons_succ, List.set_cons_zero, e1, e2, e3, e4]
end
end Q
set_option Elab.async false
set_option linter.all false
set_option maxRecDepth 100000
set_option maxHeartbeats 4000000
namespace Q
open PySem L2 Iq
def lW : List Ex := [(.con (.str "go")), (.con (.str "fork")), (.con (.str "take")), (.con (.str "none")), (.con (.str "later")), (.con (.str "kill")), (.con (.str "release")), (.con (.str "exit"))]
def lapB : List Sm := [.asg 5 lN, .asg 6 (.call 9 [(.var 1), (.lst nums)]), .asg 7 (.call 9 [(.var 1), (.var 3)]), .asg 8 lE, .asg 9 lL, .loop (.nm 10) .seq lI lIb, .app 2 (.call 15 [(.var 1), (.call 15 [(.var 1), (.var 8)])]), .app 2 (.tup [(.con (.str "step")), (.tup [(.var 6), (.var 7), (.call 9 [(.var 1), (.lst lO)])])])]
def x1 : List Ex := [(.tup [(.con (.str "mark")), (.bin .Mult (.con (.str "a")) (.con (.int 9)))]), (.tup [(.con (.str "exclude")), (.con (.str "a")), (.con (.int 0)), (.con (.str ""))]), (.lst [(.con (.str "mark")), (.con (.str "a"))])]
def x2 : List Ex := [(.tup [(.con (.str "step")), (.lst [(.con (.int 0)), (.con (.str "go")), (.con (.int 1))])]), (.tup [(.con (.str "step")), (.tup [(.con (.bl true)), (.con (.str "go")), (.con (.int 1))])]), (.tup [(.con (.str "exclude")), (.con (.str "a")), (.con (.bl true)), (.con (.str "h"))]), (.tup [(.con (.str "guard")), (.con .non)])]
def x3 : Ex := .tup [(.con (.str "step")), (.con (.int 0)), (.con (.str "go")), (.con (.int 1))]
def lZ : Ex := .cmp .Eq (.comp (.var 10) (.nm 10) .seq [(.var 2)] (some (.nt (.at (.call 16 [(.var 10)]))))) (.lst [])
theorem law_body : f17.body = [.asg 1 (.call 7 [(.var 0)]), .asg 2 (.comp (.call 14 [(.var 1)]) (.nm 4) .rng [(.con (.int 12))] none), .asg 3 (.lst lW), .loop (.nm 4) .rng [(.con (.int 14))] lapB, .ext 2 (.lst x1), .ext 2 (.lst x2), .app 2 x3, .ret lZ] := rfl
theorem lW_is : cloL lW = some words := rfl
theorem x1_ok : okL 60 3 3 x1 = true := by decide +kernel
theorem x2_ok : okL 60 3 4 x2 = true := by decide +kernel
section
variable {n : Nat} {sc f : D} {s2 s3 s4 s5 s6 s7 s8 s9 s10 : Sl}
/-- one lap -/
theorem lap_go {ts : List D} {m : Nat} (hf : Fd f) (h : Th m ts) (hm : m ≤ 700) (h3 : W3 s3) : ∃ ts' f' a5 a6 a7 a8 a9 u, Th (m + 10) ts' ∧ Fd f' ∧ evB (Pn (n + 11)) lapB (Ls sc f (.own false (.lst ts)) s3 s4 s5 s6 s7 s8 s9 s10) = .ok (.nx, Ls sc f' (.own false (.lst ts')) (.shr (.lst words)) s4 a5 a6 a7 a8 a9 (.shr u)) := by
  obtain ⟨x, f1, ox, h1, e1⟩ := name_go (n := n + 9) (sc := sc) (s2 := .own false (.lst ts)) (s3 := s3) (s4 := s4) (s5 := s5) (s6 := s6) (s7 := s7) (s8 := s8) (s9 := s9) (s10 := s10) hf
  obtain ⟨y, f2, oy, h2, e2⟩ := pk_clo (n := n + 9) (sc := sc) (s2 := .own false (.lst ts)) (s3 := s3) (s4 := s4) (s5 := .shr (.str x)) (s6 := s6) (s7 := s7) (s8 := s8) (s9 := s9) (s10 := s10) nums_ok (by omega) (by omega) h1
  obtain ⟨w, f3, ow, h3', e3⟩ := word_go (n := n + 9) (sc := sc) (s2 := .own false (.lst ts)) (s3 := s3) (s4 := s4) (s5 := .shr (.str x)) (s6 := .shr y) (s7 := s7) (s8 := s8) (s9 := s9) (s10 := s10) h2 h3
  obtain ⟨v, f4, ov, h4, e4⟩ := event_go (n := n + 9) (sc := sc) (s2 := .own false (.lst ts)) (s3 := .shr (.lst words)) (s4 := s4) (s5 := .shr (.str x)) (s8 := s8) (s9 := s9) (s10 := s10) h3' oy ow
  obtain ⟨z, f5, oz, h5, e5⟩ := late_go (n := n + 9) (sc := sc) (s2 := .own false (.lst ts)) (s3 := .shr (.lst words)) (s4 := s4) (s7 := .shr (.str w)) (s8 := .shr v) (s9 := s9) (s10 := s10) h4 ox oy
  obtain ⟨t6, f6, u, g6, h6, e6⟩ := inner_go (n := n) (sc := sc) (s3 := .shr (.lst words)) (s4 := s4) (s6 := .shr y) (s7 := .shr (.str w)) (s10 := s10) h5 h hm ox ov oz
  obtain ⟨b, f7, ob, h7, e7⟩ := app_bb (n := n) (sc := sc) (s3 := .shr (.lst words)) (s4 := s4) (s5 := .shr (.str x)) (s6 := .shr y) (s7 := .shr (.str w)) (s9 := .shr z) (s10 := .shr u) h6 g6 (by omega) ov
  obtain ⟨c, f8, oc, h8, e8⟩ := app_odd (n := n) (sc := sc) (s3 := .shr (.lst words)) (s4 := s4) (s5 := .shr (.str x)) (s8 := .shr v) (s9 := .shr z) (s10 := .shr u) h7 (g6.add ob) (by omega) oy ow
  refine ⟨_, f8, .shr (.str x), .shr y, .shr (.str w), .shr v, .shr z, u, (g6.add ob).add oc, h8, ev_nx e1 (ev_nx (pk_set (f' := f2) e2) (ev_nx e3 (ev_nx e4 (ev_nx e5 (ev_nx e6 (ev_nx e7 (ev_nx e8 ?_)))))))⟩
  simp only [evB]
theorem laps_go {ts : List D} (hf : Fd f) (h : Th 12 ts) : ∃ ts' f' b3 b4 b5 b6 b7 b8 b9 u, Th 152 ts' ∧ Fd f' ∧ evS (Pn (n + 11)) (.loop (.nm 4) .rng [(.con (.int 14))] lapB) (Ls sc f (.own false (.lst ts)) (.own false (.lst words)) .no .no .no .no .no .no .no) = .ok (.nx, Ls sc f' (.own false (.lst ts')) b3 b4 b5 b6 b7 b8 b9 (.shr u)) := by
  obtain ⟨ς', e, f', ts', b3, b4, b5, b6, b7, b8, b9, b10, hf', th, w3, nz, rfl⟩ := for_satB (t := .nm 4) (body := evB (Pn (n + 11)) lapB) (B := 14) (Iv := fun i ς => ∃ f ts b3 b4 b5 b6 b7 b8 b9 b10, Fd f ∧ Th (12 + 10 * i) ts ∧ W3 b3 ∧ (0 < i → ∃ u, b10 = .shr u) ∧ ς = Ls sc f (.own false (.lst ts)) b3 b4 b5 b6 b7 b8 b9 b10)
    (Iq.upTo 0 14) 0 (Ls sc f (.own false (.lst ts)) (.own false (.lst words)) .no .no .no .no .no .no .no) (by simp [Iq.upTo]) ⟨f, ts, _, _, _, _, _, _, _, _, hf, h, .inl rfl, fun z => absurd z (by omega), rfl⟩ fun x hx i ς hi ⟨g, tt, b3, b4, b5, b6, b7, b8, b9, b10, hg, th, w3, _, hς⟩ => by
      subst hς
      obtain ⟨t2, g2, a5, a6, a7, a8, a9, u, th2, hg2, e2⟩ := lap_go (n := n) (sc := sc) (s4 := .shr x) (s5 := b5) (s6 := b6) (s7 := b7) (s8 := b8) (s9 := b9) (s10 := b10) hg th (by omega) w3
      refine ⟨_, _, rfl, e2, g2, t2, _, _, _, _, _, _, _, _, hg2, ?_, .inr rfl, fun _ => ⟨u, rfl⟩, rfl⟩
      have : 12 + 10 * i + 10 = 12 + 10 * (i + 1) := by omega
      rw [← this]; exact th2
  have l14 : (Iq.upTo 0 14).length = 14 := by simp [Iq.upTo]
  rw [l14] at nz th
  obtain ⟨u, rfl⟩ := nz (by omega)
  refine ⟨ts', f', b3, b4, b5, b6, b7, b8, b9, u, th, hf', ?_⟩
  have src : evL (Pn (n + 11)) [(.con (.int 14))] (Ls sc f (.own false (.lst ts)) (.own false (.lst words)) .no .no .no .no .no .no .no) = .ok ([.int 14], Ls sc f (.own false (.lst ts)) (.own false (.lst words)) .no .no .no .no .no .no .no) := by simp [Iq.run, ioFit, evB, evS, evE.eq_1, evE.eq_2, evE.eq_3, evE.eq_4, evE.eq_5, evE.eq_6, evE.eq_7, evE.eq_8, evE.eq_9, evE.eq_10, evE.eq_11, evE.eq_12, evE.eq_13, evE.eq_14, evE.eq_15, evE.eq_16, evE.eq_17, evE.eq_18, evE.eq_19, evE.eq_20, evE.eq_21, evE.eq_22, evL, evA, evO, evT, Iq.hd, deref, R.bind_ok, truth, intOf, callG, hdS, argsS, argS, putOuts, setOwn, outs, isOwn]
  have wk : walk .rng [.int 14] = .ok (Iq.upTo 0 14) := by simp [walk]
  simp only [evS, src, R.bind_ok, wk, e]
end
end Q
set_option Elab.async false
set_option linter.all false
set_option maxRecDepth 100000
set_option maxHeartbeats 4000000
namespace Q
open PySem L2 Iq
theorem fd7 (n : Nat) : (Pn (n + 1)).fn 7 = Iq.run (Pn n) feedFn := rfl
section
variable {n : Nat} {sc f : D}
theorem odd_go (hf : Fd f) : ∃ ts f', Th 12 ts ∧ Fd f' ∧ evS (Pn (n + 11)) (.asg 2 (.comp (.call 14 [(.var 1)]) (.nm 4) .rng [(.con (.int 12))] none)) (Ls sc f .no .no .no .no .no .no .no .no .no) = .ok (.nx, Ls sc f' (.own false (.lst ts)) .no .no .no .no .no .no .no .no) := by
  obtain ⟨ds, ς', e2, pd, len, inv⟩ := lc_all (tst := evQ (Pn (n + 11)) none) (el := evE (Pn (n + 11)) (.call 14 [(.var 1)])) (t := .nm 4) (Inv := fun ς => ∃ f' u, Fd f' ∧ ς = Ls sc f' .no .no u .no .no .no .no .no .no) (Pd := fun d => okB 540 11 d = true)
    (Iq.upTo 0 12) (Ls sc f .no .no .no .no .no .no .no .no .no) ⟨f, .no, hf, rfl⟩ fun x hx ς ⟨f2, u, h2, hς⟩ => by
      subst hς
      obtain ⟨y, f3, oy, h3, e3⟩ := c14 (n + 8) h2
      refine ⟨Ls sc f2 .no .no (.shr x) .no .no .no .no .no .no, Ls sc f2 .no .no (.shr x) .no .no .no .no .no .no, rfl, rfl, y, false, Ls sc f3 .no .no (.shr x) .no .no .no .no .no .no, ?_, okB_mono (by omega) (by omega) oy, f3, _, h3, rfl⟩
      simp [Iq.run, ioFit, evB, evS, evE.eq_1, evE.eq_2, evE.eq_3, evE.eq_4, evE.eq_5, evE.eq_6, evE.eq_7, evE.eq_8, evE.eq_9, evE.eq_10, evE.eq_11, evE.eq_12, evE.eq_13, evE.eq_14, evE.eq_15, evE.eq_16, evE.eq_17, evE.eq_18, evE.eq_19, evE.eq_20, evE.eq_21, evE.eq_22, evL, evA, evO, evT, Iq.hd, deref, R.bind_ok, truth, intOf, callG, hdS, argsS, argS, putOuts, setOwn, outs, isOwn, io14, e3]
  obtain ⟨f2, u, h2, rfl⟩ := inv
  have co := ev_comp (P := Pn (n + 11)) (k := .rng) (ss := [(.con (.int 12))]) (ς := Ls sc f .no .no .no .no .no .no .no .no .no) (rs := [.int 12]) (ς1 := Ls sc f .no .no .no .no .no .no .no .no .no) (by simp [Iq.run, ioFit, evB, evS, evE.eq_1, evE.eq_2, evE.eq_3, evE.eq_4, evE.eq_5, evE.eq_6, evE.eq_7, evE.eq_8, evE.eq_9, evE.eq_10, evE.eq_11, evE.eq_12, evE.eq_13, evE.eq_14, evE.eq_15, evE.eq_16, evE.eq_17, evE.eq_18, evE.eq_19, evE.eq_20, evE.eq_21, evE.eq_22, evL, evA, evO, evT, Iq.hd, deref, R.bind_ok, truth, intOf, callG, hdS, argsS, argS, putOuts, setOwn, outs, isOwn]) (by simp [walk]) rfl e2
  refine ⟨ds, f2, ⟨by rw [len]; simp [Iq.upTo], pd⟩, h2, ?_⟩
  simp only [evS, co, R.bind_ok, cond_true, backS, tgS, List.set_cons_succ, List.set_cons_zero, List.getD_cons_succ, List.getD_cons_zero]
theorem th_ext {m : Nat} {ts ds : List D} (h : Th m ts) (hd : ∀ d ∈ ds, okB 60 3 d = true) : Th (m + ds.length) (ts ++ ds) := ⟨by have := h.len; simp; omega, fun z hz => (List.mem_append.mp hz).elim (h.ok z) fun q => okB_mono (by omega) (by omega) (hd z q)⟩
theorem last_go {ts : List D} {m : Nat} {b3 b4 b5 b6 b7 b8 b9 : Sl} {u : D} (h : Th m ts) : ∃ ς', evS (Pn (n + 11)) (.ret lZ) (Ls sc f (.own false (.lst ts)) b3 b4 b5 b6 b7 b8 b9 (.shr u)) = .ok (.rt (.bl true) false, ς') := by
  obtain ⟨ς', e, i⟩ := lc_fm (tst := evQ (Pn (n + 11)) (some (.nt (.at (.call 16 [(.var 10)]))))) (el := evE (Pn (n + 11)) (.var 10)) (t := .nm 10) (Inv := fun ς => ∃ v, ς = Ls sc f (.shr (.lst ts)) b3 b4 b5 b6 b7 b8 b9 v) (p := fun _ => false) (g := id) ts (Ls sc f (.shr (.lst ts)) b3 b4 b5 b6 b7 b8 b9 (.shr u)) ⟨_, rfl⟩ fun x hx ς ⟨v, hς⟩ => by
    subst hς
    have e16 := c16 (n + 6) (h.ok x hx) (by omega) (by omega)
    refine ⟨Ls sc f (.shr (.lst ts)) b3 b4 b5 b6 b7 b8 b9 (.shr x), Ls sc f (.shr (.lst ts)) b3 b4 b5 b6 b7 b8 b9 (.shr x), rfl, ?_, fun _ => ⟨_, rfl⟩, fun z => (Bool.noConfusion z)⟩
    simp [evQ, Iq.run, ioFit, evB, evS, evE.eq_1, evE.eq_2, evE.eq_3, evE.eq_4, evE.eq_5, evE.eq_6, evE.eq_7, evE.eq_8, evE.eq_9, evE.eq_10, evE.eq_11, evE.eq_12, evE.eq_13, evE.eq_14, evE.eq_15, evE.eq_16, evE.eq_17, evE.eq_18, evE.eq_19, evE.eq_20, evE.eq_21, evE.eq_22, evL, evA, evO, evT, Iq.hd, deref, R.bind_ok, truth, intOf, callG, hdS, argsS, argS, putOuts, setOwn, outs, isOwn, io16, e16]
  obtain ⟨v, rfl⟩ := i
  rw [List.filter_eq_nil_iff.mpr (by simp), List.map_nil] at e
  have co := ev_comp (P := Pn (n + 11)) (k := .seq) (ss := [(.var 2)]) (ς := Ls sc f (.own false (.lst ts)) b3 b4 b5 b6 b7 b8 b9 (.shr u)) (rs := [.lst ts]) (ς1 := Ls sc f (.shr (.lst ts)) b3 b4 b5 b6 b7 b8 b9 (.shr u)) (by simp [Iq.run, ioFit, evB, evS, evE.eq_1, evE.eq_2, evE.eq_3, evE.eq_4, evE.eq_5, evE.eq_6, evE.eq_7, evE.eq_8, evE.eq_9, evE.eq_10, evE.eq_11, evE.eq_12, evE.eq_13, evE.eq_14, evE.eq_15, evE.eq_16, evE.eq_17, evE.eq_18, evE.eq_19, evE.eq_20, evE.eq_21, evE.eq_22, evL, evA, evO, evT, Iq.hd, deref, R.bind_ok, truth, intOf, callG, hdS, argsS, argS, putOuts, setOwn, outs, isOwn]) rfl rfl e
  have nn : eqD (.lst []) (.lst []) = .ok true := lst_nil (l := 1) (k := 1) (by decide +kernel) (by omega)
  exact ⟨_, by simp [lZ, Iq.run, ioFit, evB, evS, evE.eq_1, evE.eq_2, evE.eq_3, evE.eq_4, evE.eq_5, evE.eq_6, evE.eq_7, evE.eq_8, evE.eq_9, evE.eq_10, evE.eq_11, evE.eq_12, evE.eq_13, evE.eq_14, evE.eq_15, evE.eq_16, evE.eq_17, evE.eq_18, evE.eq_19, evE.eq_20, evE.eq_21, evE.eq_22, evL, evA, evO, evT, Iq.hd, deref, R.bind_ok, truth, intOf, callG, hdS, argsS, argS, putOuts, setOwn, outs, isOwn, co, cmpD, nn]; rfl⟩
end
theorem law_go (n : Nat) (ns : List Int) : ∃ fr, (Pn (n + 12)).fn 17 [.shr (.lst (ns.map .int))] = .ok (.bl true, fr, []) := by
  obtain ⟨f, hf, e0⟩ := feed_go (Pn (n + 10)) ns
  have e0' : (Pn (n + 11)).fn 7 [.shr (.lst (ns.map .int))] = .ok (f, true, []) := by rw [fd7]; exact e0
  have q0 : evS (Pn (n + 11)) (.asg 1 (.call 7 [(.var 0)])) [.shr (.lst (ns.map .int)), .no, .no, .no, .no, .no, .no, .no, .no, .no, .no, .no] = .ok (.nx, Ls (.lst (ns.map .int)) f .no .no .no .no .no .no .no .no .no) := by
    simp [Iq.run, ioFit, evB, evS, evE.eq_1, evE.eq_2, evE.eq_3, evE.eq_4, evE.eq_5, evE.eq_6, evE.eq_7, evE.eq_8, evE.eq_9, evE.eq_10, evE.eq_11, evE.eq_12, evE.eq_13, evE.eq_14, evE.eq_15, evE.eq_16, evE.eq_17, evE.eq_18, evE.eq_19, evE.eq_20, evE.eq_21, evE.eq_22, evL, evA, evO, evT, Iq.hd, deref, R.bind_ok, truth, intOf, callG, hdS, argsS, argS, putOuts, setOwn, outs, isOwn, io7, e0']
  obtain ⟨ts, f1, th, h1, q1⟩ := odd_go (n := n) (sc := .lst (ns.map .int)) hf
  obtain ⟨ts2, f2, b3, b4, b5, b6, b7, b8, b9, u, th2, h2, q3⟩ := laps_go (n := n) (sc := .lst (ns.map .int)) h1 th
  obtain ⟨d1, g1, l1, p1⟩ := okL_is x1_ok
  obtain ⟨d2, g2, l2, p2⟩ := okL_is x2_ok
  have th3 := th_ext (th_ext th2 p1) p2
  have ox : okB 540 11 (.tup [.str "step", .int 0, .str "go", .int 1]) = true := by decide +kernel
  obtain ⟨ς', q7⟩ := last_go (n := n) (sc := .lst (ns.map .int)) (f := f2) (b3 := b3) (b4 := b4) (b5 := b5) (b6 := b6) (b7 := b7) (b8 := b8) (b9 := b9) (u := u) (th3.add ox)
  have q6 : evS (Pn (n + 11)) (.app 2 x3) (Ls (.lst (ns.map .int)) f2 (.own false (.lst (ts2 ++ d1 ++ d2))) b3 b4 b5 b6 b7 b8 b9 (.shr u)) = .ok (.nx, Ls (.lst (ns.map .int)) f2 (.own false (.lst (ts2 ++ d1 ++ d2 ++ [.tup [.str "step", .int 0, .str "go", .int 1]]))) b3 b4 b5 b6 b7 b8 b9 (.shr u)) := by
    have ft : (ts2 ++ d1 ++ d2).length < sizeLine := th3.fit (by omega)
    simp [x3, Iq.run, ioFit, evB, evS, evE.eq_1, evE.eq_2, evE.eq_3, evE.eq_4, evE.eq_5, evE.eq_6, evE.eq_7, evE.eq_8, evE.eq_9, evE.eq_10, evE.eq_11, evE.eq_12, evE.eq_13, evE.eq_14, evE.eq_15, evE.eq_16, evE.eq_17, evE.eq_18, evE.eq_19, evE.eq_20, evE.eq_21, evE.eq_22, evL, evA, evO, evT, Iq.hd, deref, R.bind_ok, truth, intOf, callG, hdS, argsS, argS, putOuts, setOwn, outs, isOwn, isOwnL, setSl, addD, ft, -List.append_assoc, -List.length_append]
  have q : evB (Pn (n + 11)) f17.body [.shr (.lst (ns.map .int)), .no, .no, .no, .no, .no, .no, .no, .no, .no, .no, .no] = .ok (.rt (.bl true) false, ς') := by
    rw [law_body]
    have l := th2.len
    exact ev_nx q0 (ev_nx q1 (ev_nx (asg_lst lW_is _) (ev_nx q3 (ev_nx (ext_lst (as := ts2) (b := false) g1 rfl (by omega)) (ev_nx (ext_lst (as := ts2 ++ d1) (b := false) g2 rfl (by simp; omega)) (ev_nx q6 (ev_rt q7)))))))
  refine ⟨false, ?_⟩
  rw [fn17]
  have q' : evB (Pn (n + 11)) f17.body ([.shr (.lst (ns.map .int))] ++ List.replicate (f17.nl - f17.np) .no) = .ok (.rt (.bl true) false, ς') := q
  unfold Iq.run
  rw [if_pos ⟨rfl, by decide, by decide, rfl⟩, q']
  rfl
end Q
theorem PySem.Challenge.cw_forkyields_k66_events_holds : PySem.Challenge.rw_forkyields_k66_events.Holds :=
  Q.done (n := 12) ⟨rfl, by decide, by decide⟩ fun ns _ => Q.law_go 0 ns
