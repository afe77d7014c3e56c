import PyProof.Rows.All
import Wide.All
import OpenK.AllK
import Wide.FinOn
import HandS.ForMost
import HandS.More
import HandS.TupAny
import HandS.Deep
import HandS.IsInst
import HandS.Zip
import HandS.CallLocal
import HandS.Flow
import HandS.Lambda
import HandS.SetFor
import HandS.SetTxt0
import HandS.Strs
import PyProof.Rows.SortShellAny
import HandS.RaiseMore
import HandS.ForSpec
import HandS.ExcInit
import KE.KExcSuper
import HandS.ExcField
import HandS.Defaults
import KE.KExcIs
import KE.KIsAll
import HandS.ForExc
import HandS.Star
import HandS.EndTab
import HandS.ReCall
import KE.KStateDown
import Lean
import HandS.Head0
import HandS.Head1
import HandS.Head2
import HandS.HeadEnd
import HandS.HeadHook1
import HandS.HeadHook2
import HandS.HeadHook3
import HandS.HeadHook4
import HandS.HeadWalk
import PyProof.StrLawsRepr
import PySem.Challenge.RW_forkyields_k01_kinds
set_option Elab.async false
set_option linter.all false
set_option maxRecDepth 100000
set_option maxHeartbeats 1000000
namespace Iq
open PySem L2

/-- plain data, as values -/
inductive D where
  | non | bl (b : Bool) | int (i : Int) | str (x : Str)
  | tup (xs : List D) | lst (xs : List D) | dic (kv : List (Key × D)) | fn (k : Nat)

/-- a slot: nothing known, shared data, an object that only this slot knows -/
inductive Sl where
  | no | shr (d : D) | own (io : Bool) (d : D)

/-- what an evaluation comes to -/
inductive R (α : Type) where
  | ok (a : α) | bad
def R.bind {α β : Type} (r : R α) (k : α → R β) : R β := match r with
  | .ok a => k a
  | .bad => .bad
@[simp] theorem R.bind_ok {α β : Type} (a : α) (k : α → R β) : (R.ok a).bind k = k a := rfl
@[simp] theorem R.bind_bad {α β : Type} (k : α → R β) : (R.bad : R α).bind k = .bad := rfl
theorem R.bind_is {α β : Type} {r : R α} {k : α → R β} {b : β} (h : r.bind k = .ok b) : ∃ a, r = .ok a ∧ k a = .ok b := by
  cases r with
  | ok a => exact ⟨a, rfl, h⟩
  | bad => cases h

/-- what is fixed through a law: the written part, the module's names, the defs' addresses -/
structure Zt where
  w : World
  K : PySem.W.Frag
  mg : Str → Option Value
  fa : Nat → Addr
  cl : Nat → Addr
  tb : List (Addr × Str)

/-- where the defs and the classes stand, the tables of code objects -/
structure Fa where
  f : Nat → Addr
  cl : Nat → Addr
  tb : List (Addr × Str)
instance : CoeFun Fa (fun _ => Nat → Addr) := ⟨Fa.f⟩
abbrev Zt.mk' (w : World) (K : PySem.W.Frag) (mg : Str → Option Value) (fa : Fa) : Zt := ⟨w, K, mg, fa.f, fa.cl, fa.tb⟩
abbrev Mu := Addr → Prop
def ins (M : Mu) (p : Addr) : Mu := fun a => M a ∨ a = p

def Tu (Z : Zt) (M : Mu) (H : Hp) (a : Addr) (vs : List V) : Prop :=
  (Rd H a (.tup vs) ∧ ¬ M a) ∨
    ∃ (o : Obj) (its : Array Value) (n : Nat), Z.K.lookup a = some o ∧ o.cls = .type "tuple" ∧ o.data = .seq its n ∧ its.size ≤ sizeLine ∧ Vals vs its.toList ∧ o.dict = none
def Li (Z : Zt) (M : Mu) (H : Hp) (a : Addr) (vs : List V) : Prop := Rd H a (.lst vs) ∧ ¬ M a
/-- a dict of the module's top -/
def Wd (Z : Zt) (a : Addr) (kvs : List (Key × V)) : Prop := ∃ es n, KDict Z.K Z.w a es n ∧ (∀ x : Str, ∃ r, PySem.W.nsIn Z.K a x = some r ∧ RelO (valV kvs (Sum.inr x)) r) ∧ ∃ x v r, kvs = (Sum.inr x, v) :: r
/-- a dict that is read -/
def Di (Z : Zt) (M : Mu) (H : Hp) (a : Addr) (kvs : List (Key × V)) : Prop := (Rd H a (.dK kvs) ∧ ¬ M a) ∨ Wd Z a kvs

mutual
def Rep (Z : Zt) (M : Mu) (H : Hp) : D → V → Prop
  | .non, v => v = .non
  | .bl b, v => v = .bl b
  | .int i, v => v = .int i
  | .str x, v => v = .str x
  | .tup ds, v => ∃ a vs, v = .ref a ∧ Tu Z M H a vs ∧ RepL Z M H ds vs
  | .lst ds, v => ∃ a vs, v = .ref a ∧ Li Z M H a vs ∧ RepL Z M H ds vs
  | .dic kv, v => ∃ a kvs, v = .ref a ∧ Di Z M H a kvs ∧ RepK Z M H kv kvs
  | .fn k, v => v = .ref (Z.fa k)
def RepL (Z : Zt) (M : Mu) (H : Hp) : List D → List V → Prop
  | [], vs => vs = []
  | d :: ds, vs => ∃ v r, vs = v :: r ∧ Rep Z M H d v ∧ RepL Z M H ds r
def RepK (Z : Zt) (M : Mu) (H : Hp) : List (Key × D) → List (Key × V) → Prop
  | [], vs => vs = []
  | (k, d) :: ds, vs => ∃ v r, vs = (k, v) :: r ∧ Rep Z M H d v ∧ RepK Z M H ds r
end

/-- nothing stands there, but perhaps a table of code objects -/
def Nf (H : Hp) (p : Addr) : Prop := ∀ o, H p = some o → ∃ ps, o = .tbl ps
theorem Nf.of {H : Hp} {p : Addr} (h : H p = none) : Nf H p := fun o e => by rw [h] at e; cases e
theorem Nf.no {H : Hp} {p : Addr} {o : HO} (h : Nf H p) (e : H p = some o) (nt : ∀ ps, o ≠ .tbl ps := by intro _ h; cases h) : False := let ⟨ps, z⟩ := h o e; nt ps z
theorem nf_not {H : Hp} {p : Addr} {o : HO} (e : H p = some o) (nt : ∀ ps, o ≠ .tbl ps := by intro _ h; cases h) : ¬ Nf H p := fun h => h.no e nt
/-- what no slot owns stays; nothing is said of tables -/
def Evo (M : Mu) (H H' : Hp) : Prop := ∀ a o, ¬ M a → H a = some o → (∀ ps, o ≠ .tbl ps) → H' a = some o
theorem Evo.at {M : Mu} {H H' : Hp} (e : Evo M H H') {a : Addr} {o : HO} (n : ¬ M a) (h : H a = some o) (nt : ∀ ps, o ≠ .tbl ps := by intro _ h; cases h) : H' a = some o := e a o n h nt
theorem Evo.of {M : Mu} {H H' : Hp} (e : ∀ a o, ¬ M a → H a = some o → H' a = some o) : Evo M H H' := fun a o n h _ => e a o n h
theorem Evo.refl (M : Mu) (H : Hp) : Evo M H H := .of fun _ _ _ h => h
theorem Evo.trans {M : Mu} {H H1 H2 : Hp} (a : Evo M H H1) (b : Evo M H1 H2) : Evo M H H2 := fun x o n h t => b x o n (a x o n h t) t
theorem Evo.new {M : Mu} {H : Hp} {p : Addr} {o : HO} (h : H p = none) : Evo M H (upd H p o) := .of fun a u _ e => by
  rw [upd_ne (ne_of_none e h)]; exact e
theorem Evo.less {M M' : Mu} {H H' : Hp} (e : Evo M H H') (h : ∀ a, M a → M' a) : Evo M' H H' := fun a o n q t => e a o (fun z => n (h a z)) q t
theorem Evo.fresh {M : Mu} {H H' : Hp} {p : Addr} (e : Evo M H H') (n : ¬ M p) (h : Nf H' p) : Nf H p := fun o q =>
  Classical.byContradiction fun t => h.no (e p o n q fun ps z => t ⟨ps, z⟩) fun ps z => t ⟨ps, z⟩
/-- the tables of code objects -/
structure TbOk (Z : Zt) (H : Hp) : Prop where
  tabs : LamX.Tabs Z.tb H
theorem TbOk.up {Z : Zt} {H : Hp} {p : Addr} {o : HO} (t : TbOk Z H) (h : H p = none) : TbOk Z (upd H p o) :=
  ⟨t.tabs.ext fun b u e => by rw [upd_ne (ne_of_none e h)]; exact e⟩
/-- neither a table nor a thing of other words -/
def Pl : HO → Prop
  | .tbl _ => False
  | .ext _ => False
  | _ => True
theorem Pl.t {o : HO} (h : Pl o) : ∀ ps, o ≠ .tbl ps := fun ps e => by subst e; exact h
theorem Pl.e {o : HO} (h : Pl o) : ∀ φ, o ≠ .ext φ := fun ps e => by subst e; exact h
/-- a list or a dict is written -/
theorem TbOk.put {Z : Zt} {H : Hp} {p : Addr} {o u : HO} (t : TbOk Z H) (h : H p = some u) (hu : ∀ ps, u ≠ .tbl ps) (he : ∀ φ, u ≠ .ext φ) : TbOk Z (upd H p o) := by
  refine ⟨fun q hq => ?_⟩
  obtain ⟨ps, h1, h2, h3⟩ := t.tabs q hq
  refine ⟨ps, ?_, h2, fun pos cv hc => ?_⟩
  · rw [upd_ne fun z => hu ps (by rw [z, h] at h1; exact Option.some.inj h1)]; exact h1
  · obtain ⟨c, e1, e2⟩ := h3 pos cv hc
    refine ⟨c, e1, ?_⟩
    rw [upd_ne fun z => he _ (by rw [z, h] at e2; exact Option.some.inj e2)]; exact e2

theorem Tu.evo {Z : Zt} {M : Mu} {H H' : Hp} {a : Addr} {vs : List V} (h : Tu Z M H a vs) (e : Evo M H H') : Tu Z M H' a vs := by
  rcases h with ⟨h | ⟨o, h⟩, n⟩ | h
  · exact .inl ⟨.inl (e.at n h), n⟩
  · exact .inl ⟨.inr ⟨o, e.at n h⟩, n⟩
  · exact .inr h
theorem Li.evo {Z : Zt} {M : Mu} {H H' : Hp} {a : Addr} {vs : List V} (h : Li Z M H a vs) (e : Evo M H H') : Li Z M H' a vs := by
  obtain ⟨h | ⟨o, h⟩, n⟩ := h
  · exact ⟨.inl (e.at n h), n⟩
  · exact ⟨.inr ⟨o, e.at n h⟩, n⟩
theorem Di.evo {Z : Zt} {M : Mu} {H H' : Hp} {a : Addr} {vs : List (Key × V)} (h : Di Z M H a vs) (e : Evo M H H') : Di Z M H' a vs := h.imp (fun h => ⟨h.1.imp (e.at h.2) fun ⟨o, q⟩ => ⟨o, e.at h.2 q⟩, h.2⟩) id
theorem Tu.ins {Z : Zt} {M : Mu} {H : Hp} {a p : Addr} {vs : List V} (h : Tu Z M H a vs) (e : Nf H p) : Tu Z (ins M p) H a vs := by
  rcases h with ⟨h, n⟩ | h
  · refine .inl ⟨h, fun q => q.elim n fun z => ?_⟩
    subst z
    rcases h with h | ⟨o, h⟩ <;> exact e.no h
  · exact .inr h
theorem Li.ins {Z : Zt} {M : Mu} {H : Hp} {a p : Addr} {vs : List V} (h : Li Z M H a vs) (e : Nf H p) : Li Z (ins M p) H a vs := by
  obtain ⟨h, n⟩ := h
  refine ⟨h, fun q => q.elim n fun z => ?_⟩
  subst z
  rcases h with h | ⟨o, h⟩ <;> exact e.no h
theorem Di.ins {Z : Zt} {M : Mu} {H : Hp} {a p : Addr} {vs : List (Key × V)} (h : Di Z M H a vs) (e : Nf H p) : Di Z (ins M p) H a vs :=
  h.imp (fun h => ⟨h.1, fun q => q.elim h.2 fun z => by
    subst z
    rcases h.1 with h | ⟨o, h⟩ <;> exact e.no h⟩) id
theorem Tu.less {Z : Zt} {M M' : Mu} {H : Hp} {a : Addr} {vs : List V} (h : Tu Z M' H a vs) (m : ∀ a, M a → M' a) : Tu Z M H a vs := by
  rcases h with ⟨h, n⟩ | h
  · exact .inl ⟨h, fun q => n (m a q)⟩
  · exact .inr h
theorem Li.less {Z : Zt} {M M' : Mu} {H : Hp} {a : Addr} {vs : List V} (h : Li Z M' H a vs) (m : ∀ a, M a → M' a) : Li Z M H a vs := ⟨h.1, fun q => h.2 (m a q)⟩
theorem Di.less {Z : Zt} {M M' : Mu} {H : Hp} {a : Addr} {vs : List (Key × V)} (h : Di Z M' H a vs) (m : ∀ a, M a → M' a) : Di Z M H a vs := h.imp (fun h => ⟨h.1, fun q => h.2 (m a q)⟩) id
theorem Tu.sq {Z : Zt} {M : Mu} {H : Hp} {a : Addr} {vs : List V} (h : Tu Z M H a vs) : SqT Z.K H a vs := by
  rcases h with ⟨h, n⟩ | ⟨o, its, n, h1, h2, h3, h4, h5, _⟩
  · exact .inl h
  · exact .inr ⟨o, its, n, h1, h2, h3, h4, h5⟩
/-- a written tuple -/
def Tw (Z : Zt) (a : Addr) (vs : List V) : Prop := ∃ (o : Obj) (its : Array Value) (n : Nat), Z.K.lookup a = some o ∧ o.cls = .type "tuple" ∧ o.data = .seq its n ∧ its.size ≤ sizeLine ∧ Vals vs its.toList ∧ o.dict = none
theorem Li.sq {Z : Zt} {M : Mu} {H : Hp} {a : Addr} {vs : List V} (h : Li Z M H a vs) : SqL Z.K H a vs := .inl h.1
theorem Tu.new {Z : Zt} {M : Mu} {H : Hp} {p : Addr} {vs : List V} (h : H p = some (.tup vs)) (n : ¬ M p) : Tu Z M H p vs := .inl ⟨.inl h, n⟩
theorem Li.new {Z : Zt} {M : Mu} {H : Hp} {p : Addr} {vs : List V} (h : H p = some (.lst vs)) (n : ¬ M p) : Li Z M H p vs := ⟨.inl h, n⟩

/-- one lemma for the three ways in which a representation is carried -/
structure Carry (Z : Zt) (M : Mu) (H : Hp) (M' : Mu) (H' : Hp) : Prop where
  tu : ∀ a vs, Tu Z M H a vs → Tu Z M' H' a vs
  li : ∀ a vs, Li Z M H a vs → Li Z M' H' a vs
  di : ∀ a vs, Di Z M H a vs → Di Z M' H' a vs
theorem Carry.evo {Z : Zt} {M : Mu} {H H' : Hp} (e : Evo M H H') : Carry Z M H M H' := ⟨fun _ _ h => h.evo e, fun _ _ h => h.evo e, fun _ _ h => h.evo e⟩
theorem Carry.ins {Z : Zt} {M : Mu} {H : Hp} {p : Addr} (e : Nf H p) : Carry Z M H (ins M p) H := ⟨fun _ _ h => h.ins e, fun _ _ h => h.ins e, fun _ _ h => h.ins e⟩
theorem Carry.less {Z : Zt} {M M' : Mu} {H : Hp} (m : ∀ a, M a → M' a) : Carry Z M' H M H := ⟨fun _ _ h => h.less m, fun _ _ h => h.less m, fun _ _ h => h.less m⟩
theorem Carry.trans {Z : Zt} {M M1 M2 : Mu} {H H1 H2 : Hp} (a : Carry Z M H M1 H1) (b : Carry Z M1 H1 M2 H2) : Carry Z M H M2 H2 :=
  ⟨fun x v h => b.tu x v (a.tu x v h), fun x v h => b.li x v (a.li x v h), fun x v h => b.di x v (a.di x v h)⟩

mutual
theorem Rep.carry {Z : Zt} {M M' : Mu} {H H' : Hp} (c : Carry Z M H M' H') : ∀ (d : D) (v : V), Rep Z M H d v → Rep Z M' H' d v
  | .non, _, h => by simpa only [Rep] using h
  | .bl _, _, h => by simpa only [Rep] using h
  | .int _, _, h => by simpa only [Rep] using h
  | .str _, _, h => by simpa only [Rep] using h
  | .fn _, _, h => by simpa only [Rep] using h
  | .tup ds, v, h => by
    simp only [Rep] at h ⊢
    obtain ⟨a, vs, e, t, r⟩ := h
    exact ⟨a, vs, e, c.tu a vs t, RepL.carry c ds vs r⟩
  | .lst ds, v, h => by
    simp only [Rep] at h ⊢
    obtain ⟨a, vs, e, t, r⟩ := h
    exact ⟨a, vs, e, c.li a vs t, RepL.carry c ds vs r⟩
  | .dic kv, v, h => by
    simp only [Rep] at h ⊢
    obtain ⟨a, vs, e, t, r⟩ := h
    exact ⟨a, vs, e, c.di a vs t, RepK.carry c kv vs r⟩
theorem RepL.carry {Z : Zt} {M M' : Mu} {H H' : Hp} (c : Carry Z M H M' H') : ∀ (ds : List D) (vs : List V), RepL Z M H ds vs → RepL Z M' H' ds vs
  | [], _, h => by simpa only [RepL] using h
  | d :: ds, vs, h => by
    simp only [RepL] at h ⊢
    obtain ⟨v, r, e, p, q⟩ := h
    exact ⟨v, r, e, Rep.carry c d v p, RepL.carry c ds r q⟩
theorem RepK.carry {Z : Zt} {M M' : Mu} {H H' : Hp} (c : Carry Z M H M' H') : ∀ (ds : List (Key × D)) (vs : List (Key × V)), RepK Z M H ds vs → RepK Z M' H' ds vs
  | [], _, h => by simpa only [RepK] using h
  | (k, d) :: ds, vs, h => by
    simp only [RepK] at h ⊢
    obtain ⟨v, r, e, p, q⟩ := h
    exact ⟨v, r, e, Rep.carry c d v p, RepK.carry c ds r q⟩
end

theorem RepL.length {Z : Zt} {M : Mu} {H : Hp} : ∀ {ds : List D} {vs : List V}, RepL Z M H ds vs → ds.length = vs.length
  | [], _, h => by simp only [RepL] at h; subst h; rfl
  | d :: ds, vs, h => by
    simp only [RepL] at h
    obtain ⟨v, r, rfl, _, q⟩ := h
    simp [RepL.length q]
theorem RepL.get {Z : Zt} {M : Mu} {H : Hp} : ∀ {ds : List D} {vs : List V} {i : Nat} {d : D}, RepL Z M H ds vs → ds[i]? = some d → ∃ v, vs[i]? = some v ∧ Rep Z M H d v
  | [], _, i, d, _, e => by simp at e
  | d0 :: ds, vs, 0, d, h, e => by
    simp only [RepL] at h
    obtain ⟨v, r, rfl, p, q⟩ := h
    simp at e; subst e
    exact ⟨v, by simp, p⟩
  | d0 :: ds, vs, i + 1, d, h, e => by
    simp only [RepL] at h
    obtain ⟨v, r, rfl, p, q⟩ := h
    obtain ⟨v', e', p'⟩ := RepL.get (i := i) q (by simpa using e)
    exact ⟨v', by simpa using e', p'⟩
theorem RepL.get' {Z : Zt} {M : Mu} {H : Hp} : ∀ {ds : List D} {vs : List V} {i : Nat} {v : V}, RepL Z M H ds vs → vs[i]? = some v → ∃ d, ds[i]? = some d ∧ Rep Z M H d v
  | [], _, i, d, h, e => by simp only [RepL] at h; subst h; simp at e
  | d0 :: ds, vs, 0, v, h, e => by
    simp only [RepL] at h
    obtain ⟨v, r, rfl, p, q⟩ := h
    simp at e; subst e
    exact ⟨d0, by simp, p⟩
  | d0 :: ds, vs, i + 1, v, h, e => by
    simp only [RepL] at h
    obtain ⟨v, r, rfl, p, q⟩ := h
    obtain ⟨v', e', p'⟩ := RepL.get' (i := i) q (by simpa using e)
    exact ⟨v', by simpa using e', p'⟩
theorem RepL.append {Z : Zt} {M : Mu} {H : Hp} : ∀ {ds es : List D} {vs us : List V}, RepL Z M H ds vs → RepL Z M H es us → RepL Z M H (ds ++ es) (vs ++ us)
  | [], es, vs, us, h, q => by simp only [RepL] at h; subst h; simpa using q
  | d :: ds, es, vs, us, h, q => by
    simp only [RepL] at h
    obtain ⟨v, r, rfl, p, q'⟩ := h
    simp only [List.cons_append, RepL]
    exact ⟨v, r ++ us, rfl, p, RepL.append q' q⟩
theorem RepL.one {Z : Zt} {M : Mu} {H : Hp} {d : D} {v : V} (h : Rep Z M H d v) : RepL Z M H [d] [v] := by
  simp only [RepL]; exact ⟨v, [], rfl, h, rfl⟩
theorem RepL.take {Z : Zt} {M : Mu} {H : Hp} : ∀ {ds : List D} {vs : List V} (n : Nat), RepL Z M H ds vs → RepL Z M H (ds.take n) (vs.take n)
  | _, _, 0, _ => by simp [RepL]
  | [], _, n + 1, h => by simp only [RepL] at h; subst h; simp [RepL]
  | d :: ds, vs, n + 1, h => by
    simp only [RepL] at h
    obtain ⟨v, r, rfl, p, q⟩ := h
    simp only [List.take_succ_cons, RepL]
    exact ⟨v, r.take n, rfl, p, RepL.take n q⟩
theorem RepL.drop {Z : Zt} {M : Mu} {H : Hp} : ∀ {ds : List D} {vs : List V} (n : Nat), RepL Z M H ds vs → RepL Z M H (ds.drop n) (vs.drop n)
  | _, _, 0, h => by simpa using h
  | [], _, n + 1, h => by simp only [RepL] at h; subst h; simp [RepL]
  | d :: ds, vs, n + 1, h => by
    simp only [RepL] at h
    obtain ⟨v, r, rfl, p, q⟩ := h
    simp only [List.drop_succ_cons]
    exact RepL.drop n q
theorem RepL.set {Z : Zt} {M : Mu} {H : Hp} {d : D} {v : V} (hd : Rep Z M H d v) : ∀ {ds : List D} {vs : List V} (n : Nat), RepL Z M H ds vs → RepL Z M H (ds.set n d) (vs.set n v)
  | [], _, _, h => by simp only [RepL] at h; subst h; simp [RepL]
  | d0 :: ds, vs, 0, h => by
    simp only [RepL] at h
    obtain ⟨u, r, rfl, p, q⟩ := h
    simp only [List.set_cons_zero, RepL]
    exact ⟨v, r, rfl, hd, q⟩
  | d0 :: ds, vs, n + 1, h => by
    simp only [RepL] at h
    obtain ⟨u, r, rfl, p, q⟩ := h
    simp only [List.set_cons_succ, RepL]
    exact ⟨u, r.set n v, rfl, p, RepL.set hd n q⟩

/-- an object that one slot owns, at a -/
def Own (Z : Zt) (M : Mu) (H : Hp) (a : Addr) : D → Prop
  | .lst ds => ∃ vs, H a = some (.lst vs) ∧ RepL Z M H ds vs
  | .dic kv => ∃ kvs, H a = some (.dK kvs) ∧ RepK Z M H kv kvs
  | _ => False
theorem Own.there {Z : Zt} {M : Mu} {H : Hp} {a : Addr} : ∀ {d : D}, Own Z M H a d → ∃ o, H a = some o
  | .lst _, ⟨_, h, _⟩ => ⟨_, h⟩
  | .dic _, ⟨_, h, _⟩ => ⟨_, h⟩
theorem Own.plain {Z : Zt} {M : Mu} {H : Hp} {a : Addr} : ∀ {d : D}, Own Z M H a d → ∃ o, H a = some o ∧ Pl o
  | .lst _, ⟨_, h, _⟩ => ⟨_, h, trivial⟩
  | .dic _, ⟨_, h, _⟩ => ⟨_, h, trivial⟩
theorem Own.mut {Z : Zt} {M : Mu} {H : Hp} {a : Addr} : ∀ {d : D}, Own Z M H a d → Mut (H a)
  | .lst _, ⟨_, h, _⟩ => by rw [h]; trivial
  | .dic _, ⟨_, h, _⟩ => by rw [h]; trivial
theorem Own.carry {Z : Zt} {M M' : Mu} {H H' : Hp} {a : Addr} (c : Carry Z M H M' H') (e : H' a = H a) : ∀ {d : D}, Own Z M H a d → Own Z M' H' a d
  | .lst _, ⟨vs, h, r⟩ => ⟨vs, e.trans h, RepL.carry c _ _ r⟩
  | .dic _, ⟨vs, h, r⟩ => ⟨vs, e.trans h, RepK.carry c _ _ r⟩
theorem Own.rep {Z : Zt} {M : Mu} {H : Hp} {a : Addr} (n : ¬ M a) : ∀ {d : D}, Own Z M H a d → Rep Z M H d (.ref a)
  | .lst _, ⟨vs, h, r⟩ => by simp only [Rep]; exact ⟨a, vs, rfl, Li.new h n, r⟩
  | .dic _, ⟨vs, h, r⟩ => by simp only [Rep]; exact ⟨a, vs, rfl, .inl ⟨.inl h, n⟩, r⟩

/-- the frame of a body: the heap at its entry, what it may write of it, what its callers own, its first slots -/
structure Fm where
  H0 : Hp
  W : Mu
  M0 : Mu
  s0 : L2.St

/-- an owned object: the caller's, or one made here -/
def Src (F : Fm) (σ : L2.St) (i : Nat) (a : Addr) : Bool → Prop
  | true => F.W a ∧ σ[i]? = F.s0[i]?
  | false => Nf F.H0 a

structure Sim (Z : Zt) (F : Fm) (M : Mu) (σ : L2.St) (ς : List Sl) (H : Hp) : Prop where
  len : σ.length = ς.length
  shr : ∀ (i : Nat) d, ς[i]? = some (.shr d) → ∃ v, σ[i]? = some (some v) ∧ Rep Z M H d v
  own : ∀ (i : Nat) b d, ς[i]? = some (.own b d) → ∃ a, σ[i]? = some (some (.ref a)) ∧ M a ∧ Src F σ i a b ∧ Own Z M H a d
  sep : ∀ (i j : Nat) b d c e a, i ≠ j → ς[i]? = some (.own b d) → ς[j]? = some (.own c e) → σ[i]? = some (some (.ref a)) → σ[j]? ≠ some (some (.ref a))
  old : ∀ a o, F.H0 a = some o → ¬ F.W a → (∀ ps, o ≠ .tbl ps) → H a = some o
  dom : ∀ a, M a → ¬ Nf H a
  sup : ∀ a, F.M0 a → M a
  wm : ∀ a, F.W a → F.M0 a
  dm0 : ∀ a, F.M0 a → ¬ Nf F.H0 a
  tab : TbOk Z H

section
variable {Z : Zt} {F : Fm} {M M' : Mu} {σ : L2.St} {ς : List Sl} {H H' : Hp} {p : Addr} {o : HO}
theorem Sim.nM (S : Sim Z F M σ ς H) (h : Nf H p) : ¬ M p := fun q => S.dom p q h
theorem Sim.n0 (S : Sim Z F M σ ς H) (h : Nf H p) : Nf F.H0 p := fun o q => Classical.byContradiction fun t => by
  by_cases w : F.W p
  · exact S.nM h (S.sup p (S.wm p w))
  · exact h.no (S.old p o q w fun ps z => t ⟨ps, z⟩) fun ps z => t ⟨ps, z⟩
/-- the heap goes on, no owned object changes -/
theorem Sim.go (S : Sim Z F M σ ς H) (c : Carry Z M H M' H') (m : ∀ a, M a → M' a) (e : ∀ a o, H a = some o → H' a = some o) (d : ∀ a, M' a → ¬ Nf H' a) (tb : TbOk Z H') : Sim Z F M' σ ς H' :=
  ⟨S.len, fun i d h => let ⟨v, h1, h2⟩ := S.shr i d h; ⟨v, h1, Rep.carry c _ _ h2⟩,
    fun i b d h => let ⟨a, h1, h2, h3, h4⟩ := S.own i b d h; ⟨a, h1, m a h2, h3, h4.carry c (let ⟨o, q⟩ := h4.there; (e a o q).trans q.symm)⟩,
    S.sep, fun a o h n t => e a o (S.old a o h n t), d, fun a h => m a (S.sup a h), S.wm, S.dm0, tb⟩
theorem up_new (h : H p = none) : ∀ a u, H a = some u → upd H p o a = some u := fun a u q => by rw [upd_ne (ne_of_none q h)]; exact q
theorem nf_new (h : H p = none) {a : Addr} (n : ¬ Nf H a) : ¬ Nf (upd H p o) a := fun z => n fun u e => z u (up_new h a u e)
/-- a new object laid, not owned -/
theorem Sim.new (S : Sim Z F M σ ς H) (h : H p = none) (ho : ∀ ps, o ≠ .tbl ps := by intro _ h; cases h) : Sim Z F M σ ς (upd H p o) :=
  S.go (.evo (Evo.new h)) (fun _ q => q) (up_new h) (fun a q => nf_new h (S.dom a q)) (S.tab.up h)
/-- a new object laid, to be owned -/
theorem Sim.newM (S : Sim Z F M σ ς H) (h : H p = none) (ho : ∀ ps, o ≠ .tbl ps := by intro _ h; cases h) : Sim Z F (ins M p) σ ς (upd H p o) :=
  S.go (Carry.trans (.ins (.of h)) (.evo (Evo.new h))) (fun _ q => .inl q) (up_new h) (fun a q => q.elim (fun q => nf_new h (S.dom a q)) fun q => by rw [q]; exact nf_not upd_same ho) (S.tab.up h)
end
end Iq
set_option Elab.async false
set_option linter.all false
set_option maxRecDepth 100000
set_option maxHeartbeats 1000000
/-! sets made of a list or a tuple, and sorted: ints, texts -/
namespace Ss
open PySem PySem.Spec PyProof.Rows L2 PySem.Froz

/-! ### a set of texts whose table can be walked -/
structure Wk (w : World) (D : SD) : Prop where
  up : Ris D.2.2.place.toList
  led : w.params.followText "set-order" = true ∨ D.2.2.led = true
section
variable {P : Program} {w : World} {A : Around} {E : Value → Shared → Prop} {s : Shared}
theorem Wk.tail {es : Array (Int × Value)} {ep e2 : Nat} {t : SetTable} {b : Bool} (h : Wk w (es, e2, t)) : Wk w (tailTx ep es t b) := by
  unfold tailTx
  by_cases c : (!b && t.tooFull) = true
  · rw [if_pos c]
    exact ⟨relayAll_ris t es _, h.led.imp id fun z => (relayAll_led t es _).trans z⟩
  · rw [if_neg c]
    exact ⟨h.up, h.led⟩
theorem Wk.add {D : SD} {k : Int} {v : Value} (h : Wk w D) : Wk w (addTx k v D) := by
  have r := layNew_ris D.2.2 D.1 k v h.up
  have l : w.params.followText "set-order" = true ∨ (layNew D.2.2 D.1 k v).2.1.led = true := h.led.imp id fun z => (layNew_led D.2.2 D.1 k v).trans z
  unfold addTx
  refine Wk.tail (e2 := 0) ?_
  by_cases c : (layNew D.2.2 D.1 k v).2.1.plain = true
  · rw [if_pos c]; exact ⟨r, l⟩
  · rw [if_neg c]; exact ⟨r, l⟩
def TSet (P : Program) (w : World) (h : Heap) (a : Addr) (l : List Str) : Prop := ∃ D, h.get? a = some (sObj "set" D) ∧ TxOk P w D l ∧ l.Nodup ∧ Wk w D
theorem TSet.at {h h' : Heap} {a : Addr} {l : List Str} (x : TSet P w h a l) (k : ∀ o, h.get? a = some o → h'.get? a = some o) : TSet P w h' a l :=
  let ⟨D, g, r⟩ := x; ⟨D, k _ g, r⟩
/-- a text that is there is not laid again -/
theorem add_old {a : Addr} {T : String} {D : SD} {l : List Str} {k : Str} {u : Tok} {Q : Bool → Shared → Prop} (g : s.heap.get? a = some (sObj T D)) (F : TxOk P w D l) (m : k ∈ l) (few : l.length < scanBound) (q : Q false s) :
    wpAny (model P w) A (setAddHashed a (.str k u) (hashStr w k)) Q E s := by
  obtain ⟨es, ep, t⟩ := D
  have few' : es.size < scanBound := by
    have z : es.size = l.length := F.sz
    omega
  obtain ⟨e, he, ke⟩ := (F.mem k).mp m
  have fd : ∃ j, es.toList.findIdx? (fun e => (strKind P w).is k e.2) = some j := by
    cases c : es.toList.findIdx? (fun e => (strKind P w).is k e.2) with
    | some j => exact ⟨j, rfl⟩
    | none =>
      have := List.findIdx?_eq_none_iff.mp c e he
      rw [ke] at this; cases this
  obtain ⟨j, fd⟩ := fd
  unfold setAddHashed; unfold setAddHashedIn
  apply wpAny_holding
  apply wpAny_bind
  apply wpAny_setState_of g rfl F.fit
  dsimp only
  rw [byScan_of (knd := strKind P w) (x := .str k u) rfl few' F.el, if_pos rfl]
  unfold setAddByScan
  apply wpAny_bind
  apply wpAny_bind
  apply wpAny_rule
  apply wpAny_bind
  apply wpAny_setScan_of (knd := strKind P w) (k := k) (is_str k u) g rfl F.fit F.el
  rw [fd]
  exact wpAny_pure (wpAny_pure q)
/-- one more text -/
theorem add_txt {a : Addr} {l : List Str} {k : Str} {u : Tok} {Q : Bool → Shared → Prop} (x : TSet P w s.heap a l) (few : l.length + 1 < scanBound)
    (q : ∀ b h', Heap.SameBut a s.heap h' → TSet P w h' a (if k ∈ l then l else k :: l) → Q b { s with heap := h' }) : wpAny (model P w) A (setAddHashed a (.str k u) (hashStr w k)) Q E s := by
  obtain ⟨D, g, F, nd, wk⟩ := x
  by_cases m : k ∈ l
  · rw [if_pos m] at q
    exact add_old g F m (by omega) (q _ _ (.refl a _) ⟨D, g, F, nd, wk⟩)
  · rw [if_neg m] at q
    exact add_x g F m few (q _ _ (.update _ a _) ⟨_, get_upd _ g rfl, add_ok u F, List.nodup_cons.mpr ⟨m, nd⟩, wk.add⟩)

/-! ### the loop that fills it -/
abbrev Fill (P : Program) (w : World) (A : Around) (S I : Addr) (Z : Shared → Prop) (s : Shared) : Prop :=
  ∀ R : Result → Shared → Prop, (∀ s', Z s' → R (.ok (.ret .none)) s') → codeAny (model P w) A (.builtin "set.update.loop" ⟨[.ref S, .ref I], []⟩) R s
theorem fill_txt {I S : Addr} {fp wr : List Addr} {G : Array GenState → Array GenState → Prop} {Pv : Nat → Value → Prop} {St : Nat → Shared → Prop} {xs : List Str}
    (W : WalksS P w A.in1 I fp wr G xs.length Pv St) (nf : S ∉ fp) (pv : ∀ i v, Pv i v → ∃ x u, xs[i]? = some x ∧ v = .str x u) (few : xs.length + 1 < scanBound) :
    ∀ (m i : Nat) (s : Shared), i + m = xs.length → St i s → (∃ l, TSet P w s.heap S l ∧ (∀ k, k ∈ l ↔ k ∈ xs.take i) ∧ l.length ≤ i) →
      Fill P w A S I (fun s' => Moved (S :: wr) G s s' ∧ ∃ l, TSet P w s'.heap S l ∧ (∀ k, k ∈ l ↔ k ∈ xs) ∧ l.length ≤ xs.length) s := by
  have nw : S ∉ wr := fun z => nf (W.sub _ z)
  have wide : ∀ b ∈ wr, b ∈ S :: wr := fun b z => List.mem_cons_of_mem _ z
  intro m
  induction m with
  | zero =>
    intro i s e st ⟨l, t, h1, h2⟩ R fin
    obtain rfl : i = xs.length := by omega
    rw [List.take_length] at h1
    apply codeAny_builtin F.entry_set_update_loop; rw [Around.under_plainId F.plain_set_update_loop _]
    exact wpAny_bind (W.done s _ _ st fun s' mv => wpAny_pure (fin s' ⟨mv.mono wide, l, t.at fun o => mv.heap S o nw, h1, h2⟩))
  | succ m ih =>
    intro i s e st ⟨l, t, h1, h2⟩ R fin
    apply codeAny_builtin F.entry_set_update_loop; rw [Around.under_plainId F.plain_set_update_loop _]
    refine wpAny_bind (W.item i s _ _ (by omega) st fun v s' pi st' mv => ?_)
    obtain ⟨x, u, hx, rfl⟩ := pv i v pi
    have t' := t.at fun o => mv.heap S o nw
    dsimp only
    apply wpAny_bind; apply wpAny_holding; unfold setAdd
    refine wpAny_holding (wpAny_bind ((strKind P w).pyHash (k := x) (is_str _ _) ?_))
    refine add_txt (s := { s' with toks := s'.toks + 1 }) t' (by omega) fun b h' sb t2 => ?_
    refine wpAny_pure ⟨plainId_quiet F.plain_set_update_loop _, ?_⟩
    have same : ∀ b ∈ fp, ∀ o, s'.heap.get? b = some o → h'.get? b = some o := fun b z o g => by
      rw [sb.2 b fun q => nf (q ▸ z)]; exact g
    refine ih (i + 1) _ (by omega) (W.frame _ s' _ _ st' (Nat.le_succ _) same) ⟨_, t2, fun k => ?_, ?_⟩ R fun s2 ⟨mv2, r⟩ => fin s2 ⟨?_, r⟩
    · rw [List.take_add_one, hx, List.mem_append]
      split <;> rename_i c
      · rw [h1 k]
        exact ⟨.inl, fun z => z.elim id fun z => by
          obtain rfl := List.mem_singleton.mp z
          exact (h1 k).mp c⟩
      · rw [List.mem_cons, h1 k]
        exact ⟨fun z => z.elim (fun z => .inr (List.mem_singleton.mpr z)) .inl, fun z => z.elim .inr fun z => .inl (List.mem_singleton.mp z)⟩
    · split
      · omega
      · show l.length + 1 ≤ i + 1
        omega
    · refine Moved.trans W.gtrans ((mv.mono wide).then_heap (Nat.le_succ _) fun b o z g => ?_) mv2
      rw [sb.2 b fun q => z (q ▸ List.mem_cons_self)]; exact g
end
theorem txt_nth : ∀ {vs : List Value} {xs : List Str}, StrsAre vs xs → ∀ (i : Nat) (v : Value), vs[i]? = some v → ∃ x u, xs[i]? = some x ∧ v = .str x u
  | _, _, .nil, i, v, e => by simp at e
  | _, _, .cons y t r, 0, v, e => by simp at e; exact ⟨y, t, by simp, e.symm⟩
  | _, _, .cons y t r, i + 1, v, e => by simpa using txt_nth r i v (by simpa using e)
theorem int_nth : ∀ {vs : List Value} {xs : List Int}, IntsAre vs xs → ∀ (i : Nat) (v : Value), vs[i]? = some v → ∃ x u, xs[i]? = some x ∧ v = .int x u
  | _, _, .nil, i, v, e => by simp at e
  | _, _, .cons y t r, 0, v, e => by simp at e; exact ⟨y, t, by simp, e.symm⟩
  | _, _, .cons y t r, i + 1, v, e => by simpa using int_nth r i v (by simpa using e)
/-- the object of a new set -/
def nset (w : World) : Obj := sObj "set" (#[], 0, .fresh 0 0 (!w.params.followText "set-order"))
theorem nset_led (w : World) : w.params.followText "set-order" = true ∨ (!w.params.followText "set-order") = true := by
  by_cases c : w.params.followText "set-order" = true
  · exact .inl c
  · exact .inr (by simp [c])
theorem TSet.new {P : Program} {w : World} {h : Heap} {a : Addr} (g : h.get? a = some (nset w)) : TSet P w h a [] :=
  ⟨_, g, .nil rfl, .nil, .nil, nset_led w⟩
/-- how a set at S is filled out of an iterator -/
def Filler (P : Program) (w : World) (h0 : Heap) (items : Array Value) (Z : Heap → Prop) : Prop :=
  ∀ (A : Around) (I : Addr) (fp wr : List Addr) (G : Array GenState → Array GenState → Prop) (St : Nat → Shared → Prop) (s : Shared),
    WalksS P w A.in1 I fp wr G items.size (fun i v => items[i]? = some v) St → h0.objs.size ∉ fp → St 0 s → s.heap.get? h0.objs.size = some (nset w) →
      Fill P w A h0.objs.size I (fun s' => Moved (h0.objs.size :: wr) G s s' ∧ Z s'.heap) s
section
variable {P : Program} {w : World} {A : Around} {E : Value → Shared → Prop} {s : Shared}
theorem filler_txt {h0 : Heap} {items : Array Value} {xs : List Str} (x : StrsAre items.toList xs) (few : xs.length + 1 < scanBound) :
    Filler P w h0 items fun h => ∃ l, TSet P w h h0.objs.size l ∧ (∀ k, k ∈ l ↔ k ∈ xs) ∧ l.length ≤ xs.length := by
  intro A I fp wr G St s W nf st g R fin
  have n : items.size = xs.length := by
    rw [← Array.length_toList]; exact x.length
  rw [n] at W
  refine fill_txt W nf (fun i v e => ?_) few xs.length 0 s (by omega) st ⟨[], .new g, by simp, Nat.le_refl _⟩ R fin
  exact txt_nth x i v (by rw [Array.getElem?_toList]; exact e)
theorem filler_int {h0 : Heap} {items : Array Value} {ns : List Int} (x : IntsAre items.toList ns) (few : ns.length + 1 < scanBound) :
    Filler P w h0 items fun h => ∃ c, SetR w h h0.objs.size (fun j => decide (j ∈ ns)) c ∧ c ≤ ns.length := by
  intro A I fp wr G St s W nf st g R fin
  have n : items.size = ns.length := by
    rw [← Array.length_toList]; exact x.length
  rw [n] at W
  refine set_update_ints W _ nf ns rfl few (fun i v e => ?_) _ 0 s rfl (Nat.zero_le _) st ⟨0, Nat.le_refl _, setR_new_at g⟩ fun s' c mv hc r => fin s' ⟨mv, c, r, hc⟩
  exact int_nth x i v (by rw [Array.getElem?_toList]; exact e)

/-! ### set(xs) -/
/-- what stands at l: a list or a tuple -/
def Src (h : Heap) (l : Addr) (items : Array Value) : Prop := h.IsList l items ∨ h.IsTuple l items
/-- what the walk along l is -/
structure Along (P : Program) (w : World) (l : Addr) (items : Array Value) (T : String) (o : Obj) : Prop where
  cls : o.cls = .type T
  nset : isSubtype (.type T) (.type "set") = pure false
  nfrz : isSubtype (.type T) (.type "frozenset") = pure false
  ndic : (Value.type T == Value.type "dict") = false
  go : ∀ (A : Around) (E : Value → Shared → Prop) (s : Shared) (Q : Value → Shared → Prop), s.heap.get? l = some o →
    (∀ It, (∀ B : Around, B.handled = none → ∃ St, WalksS P w B s.heap.objs.size [s.heap.objs.size, l] [s.heap.objs.size] (fun a b => b = a) items.size (fun i v => items[i]? = some v) St ∧ St 0 { s with heap := s.heap.push It }) →
      Q (.ref s.heap.objs.size) { s with heap := s.heap.push It }) → wpAny (model P w) A (pyIter (.ref l)) Q E s
theorem Src.along {h : Heap} {l : Addr} {items : Array Value} (x : Src h l items) : ∃ T o, h.get? l = some o ∧ Along P w l items T o := by
  rcases x with ⟨o, g, c, n, d⟩ | ⟨o, g, c, n, d⟩
  · refine ⟨"list", o, g, c, F.sub_list_set, F.sub_list_frozenset, by decide, fun A E s Q g q => ?_⟩
    have x : s.heap.IsList l items := ⟨o, g, c, n, d⟩
    have ne : l ≠ s.heap.objs.size := Nat.ne_of_lt (Heap.lt_size g)
    exact wpAny_pyIter_list x (q _ fun B hb => ⟨_, (Walks.list hb _ l ne items).toS, ⟨_, Heap.get?_push_size _ rfl, rfl, rfl⟩, x.push _⟩)
  · refine ⟨"tuple", o, g, c, F.sub_tuple_set, F.sub_tuple_frozenset, by decide, fun A E s Q g q => ?_⟩
    have x : s.heap.IsTuple l items := ⟨o, g, c, n, d⟩
    have ne : l ≠ s.heap.objs.size := Nat.ne_of_lt (Heap.lt_size g)
    exact wpAny_pyIter_tuple x (q _ fun B hb => ⟨_, (Walks.tuple hb _ l ne items).toS, ⟨_, Heap.get?_push_size _ rfl, rfl, rfl⟩, x.push _⟩)
set_option maxHeartbeats 3200000 in
theorem call_set {l : Addr} {items : Array Value} {Z : Heap → Prop} {Q : Value → Shared → Prop} (calm : A.handled = none) (src : Src s.heap l items) (fill : Filler P w s.heap items Z)
    (q : ∀ h' tk, Z h' → (∀ b o, s.heap.get? b = some o → h'.get? b = some o) → Q (.ref s.heap.objs.size) { s with heap := h', toks := tk }) : wpAny (model P w) A (call (.type "set") [.ref l]) Q E s := by
  obtain ⟨hd0, tl0, mro0⟩ := F.called_set.mro
  have made0 := F.called_set.made
  have sub0 := F.called_set.sub
  have nt0 := F.called_set.notType
  have can0 := F.called_set.canCreate
  have chk0 := F.typeCall_set_1 (.ref l)
  apply wpAny_call
  apply codeAny_of_tree
  change wpAny _ _ (callAny (.type "set") ⟨[.ref l], []⟩) _ _ s
  refine wpAny_pure ⟨Code.quiet_builtin _ (by decide +kernel), ?_⟩
  apply codeAny_builtin F.entry_type_call
  rw [Around.under_plain (weight_type_call_type "set" [.ref l] []) rfl]; repeat (any_goals (first | assumption | wp_step))
  refine codeAny_mono (code_set_led1 (.ref l) (E := E) (Q₁ := fun u z => u = .ref s.heap.objs.size ∧ z = { s with heap := s.heap.push (nset w) }) ⟨rfl, rfl⟩) fun r z hr => ?_
  match r, hr with
  | .ok (.ret u), hr =>
    obtain ⟨rfl, rfl⟩ := hr
    have gS : (s.heap.push (nset w)).get? s.heap.objs.size = some (nset w) := Heap.get?_push_size _ rfl
    have ty : Shared.TypeIs { s with heap := s.heap.push (nset w) } (.ref s.heap.objs.size) "set" := ⟨_, gS, rfl⟩
    have look0 := F.called_set.init.lookup
    have bind0 := F.called_set.init.bind (.ref s.heap.objs.size); repeat (any_goals (first | assumption | wp_step))
    refine codeAny_mono (codeAny_call_builtin (R := wants (fun u z => u = .none ∧ ∃ h' tk, z = { s with heap := h', toks := tk } ∧ Z h' ∧ ∀ b o, s.heap.get? b = some o → h'.get? b = some o) E)
      F.called_set.init.plain F.entry_set_init (check_set_init_1 ty ?_)) fun r2 z2 hr2 => ?_
    · obtain ⟨T, o, g, al⟩ := src.along (P := P) (w := w)
      obtain ⟨oc, od, odt, osl⟩ := o
      obtain rfl : oc = .type T := al.cls
      have g1 : (s.heap.push (nset w)).get? l = some ⟨.type T, od, odt, osl⟩ := Heap.get?_push_of_some _ g
      have ns0 := al.nset
      have nf0 := al.nfrz
      have nd0 := al.ndic
      unfold Builtin.«set.__init__»; unfold noKeywords Builtin.Frozenset.updateFrom
      generalize hit : pyIter = it0
      have hn : nset w = { cls := .type "set", dict := none, data := .set #[] 0 (.fresh 0 0 (!w.params.followText "set-order")) } := rfl
      rw [hn] at ty gS g1 ⊢
      wp_walk
      subst hit
      rw [← hn] at ty gS g1 ⊢
      have sz : (s.heap.push (nset w)).objs.size = s.heap.objs.size + 1 := Heap.size_push ..
      have lt : l < s.heap.objs.size := Heap.lt_size g
      refine al.go _ _ _ _ g1 fun It wk => ?_
      obtain ⟨St, W, st⟩ := wk A.in1.in1.in1 (by simp [calm])
      have nf : s.heap.objs.size ∉ [(s.heap.push (nset w)).objs.size, l] := fun z => by
        rw [sz] at z
        rcases List.mem_cons.mp z with z | z
        · exact absurd z (Nat.ne_of_lt (Nat.lt_succ_self _))
        · exact absurd (List.mem_singleton.mp z) (Nat.ne_of_gt lt)
      refine wpAny_bind (wpAny_runValue (fill A.in1.in1 _ _ _ _ St _ W nf st (Heap.get?_push_of_some _ gS) _ fun s' ⟨mv, z⟩ => ?_))
      have e' := mv.eq_with
      rw [e']
      refine wpAny_pure (wpAny_pure ⟨rfl, s'.heap, s'.toks, rfl, z, fun b o e => ?_⟩)
      have bl : b < s.heap.objs.size := Heap.lt_size e
      refine mv.heap b o (fun z => ?_) (Heap.get?_push_of_some _ (Heap.get?_push_of_some _ e))
      rcases List.mem_cons.mp z with z | z
      · exact absurd z (Nat.ne_of_lt bl)
      · have z := (List.mem_singleton.mp z).trans sz
        exact absurd z (Nat.ne_of_lt (Nat.lt_succ_of_lt bl))
    · match r2, hr2 with
      | .ok (.ret u), hr2 =>
        obtain ⟨rfl, h', tk, rfl, z1, k1⟩ := hr2
        (repeat (any_goals (first | assumption | wp_step))); exact q h' tk z1 k1
      | .ok .next, h => exact h.elim
      | .error e, h => exact h
  | .ok .next, h => exact h.elim
  | .error e, h => exact h

/-! ### sorted(set(xs)) -/
theorem sort_set {a : Addr} {es : Array (Int × Value)} {ep : Nat} {t : SetTable} {Ok : List Value → List Value → Prop} {Q : Value → Shared → Prop} (calm : A.handled = none) (ha : SetAt s.heap a es ep t) (hf : t.fits es.size = true)
    (few : es.size < scanBound) (up : Ris t.place.toList) (led : w.params.followText "set-order" = true ∨ t.led = true)
    (srt : ∀ (B : Around) (z : Shared) (L : Addr) (vs : List Value) (R : PySem.Fin → Shared → Prop), vs.Perm (es.toList.map (·.2)) → z.heap.get? L = some (seqObj "list" vs.toArray 0) →
      (∀ out : Array Value, Ok vs out.toList → R (.done (.ret .none)) { z with heap := sortedHeap z.heap L vs out }) → wpAny (model P w) B (Builtin.«list.sort» ⟨[.ref L], []⟩) R E z)
    (q : ∀ z p vs (out : Array Value) c, (∀ b o, s.heap.get? b = some o → z.heap.get? b = some o) → z.gens = s.gens → z.os = s.os → s.heap.objs.size ≤ p → z.heap.get? p = some (seqObj "list" out c) → vs.Perm (es.toList.map (·.2)) → Ok vs out.toList → Q (.ref p) z) :
    wpAny (model P w) A (call (.builtin "sorted") [.ref a]) Q E s := by
  apply Calls.call_function_entry kind_sorted plain_sorted entry_sorted (args_sorted1 _)
  unfold Builtin.«sorted»
  apply wpAny_bind (m := checkCount "sorted" 1 1 _)
  apply wpAny_pure
  apply wpAny_bind
  apply collect_set (A := A.in1) calm ha hf few up led
  intro z vs keep size gens os pm
  have len : vs.length ≤ sizeLine := by
    rw [pm.length_eq, List.length_map, Array.length_toList]; exact fits_of_scanBound few
  apply wpAny_bind
  refine wpAny_newList ?_ len
  have gL : (z.heap.push (seqObj "list" vs.toArray 0)).get? z.heap.objs.size = some (seqObj "list" vs.toArray 0) := Heap.get?_push_size _ rfl
  apply wpAny_bind
  apply wpAny_holding
  refine wpAny_call_entry slot_list_sort ⟨_, gL, rfl⟩ entry_list_sort (srt _ { z with heap := z.heap.push (seqObj "list" vs.toArray 0) } _ vs _ pm gL fun out ok => ⟨_, rfl, ?_⟩) (args_list_sort _)
  obtain ⟨c, hc⟩ := sortedHeap_at (vs := vs) (out := out) gL
  refine wpAny_pure ⟨_, rfl, q _ z.heap.objs.size vs out c (fun b o e => ?_) gens os size hc pm ok⟩
  have lt := Heap.lt_size (keep b o e)
  refine (sortedHeap_old (Nat.ne_of_lt lt) ?_).trans (Heap.get?_push_of_some _ (keep b o e))
  rw [size_push']; exact Nat.lt_succ_of_lt lt
end
end Ss
set_option Elab.async false
set_option linter.all false
set_option maxRecDepth 100000
set_option maxHeartbeats 1000000
/-! sets of ints, of texts as objects of the hand layer; sorted -/
namespace Ss
open PySem PySem.Spec PyProof.Rows L2 PySem.Froz

/-! ### sorted rows, each once -/
section
variable {α : Type} (lt : α → α → Bool)
structure Ord : Prop where
  ir : ∀ a, lt a a = false
  tr : ∀ a b c, lt a b = true → lt b c = true → lt a c = true
  tri : ∀ a b, lt a b = false → lt b a = false → a = b
variable {lt} [DecidableEq α]
def put (lt : α → α → Bool) (x : α) : List α → List α
  | [] => [x]
  | y :: r => if x = y then y :: r else bif lt x y then x :: y :: r else y :: put lt x r
def srt (lt : α → α → Bool) : List α → List α
  | [] => []
  | x :: r => put lt x (srt lt r)
theorem mem_put {x k : α} : ∀ {l : List α}, k ∈ put lt x l ↔ k = x ∨ k ∈ l
  | [] => by simp [put]
  | y :: r => by
    unfold put
    split
    · rename_i e; subst e; simp
    · cases lt x y
      · simp only [cond_false, List.mem_cons, mem_put (l := r)]
        exact ⟨fun h => h.elim (fun h => .inr (.inl h)) fun h => h.elim .inl fun h => .inr (.inr h), fun h => h.elim (fun h => .inr (.inl h)) fun h => h.elim .inl fun h => .inr (.inr h)⟩
      · simp
theorem mem_srt {k : α} : ∀ {l : List α}, k ∈ srt lt l ↔ k ∈ l
  | [] => by simp [srt]
  | y :: r => by simp [srt, mem_put, mem_srt (l := r)]
theorem put_up (o : Ord lt) {x : α} : ∀ {l : List α}, l.Pairwise (fun a b => lt a b = true) → (put lt x l).Pairwise fun a b => lt a b = true
  | [], _ => by simp [put]
  | y :: r, h => by
    obtain ⟨h1, h2⟩ := List.pairwise_cons.mp h
    unfold put
    split
    · exact h
    · rename_i ne
      cases c : lt x y with
      | true =>
        simp only [cond_true]
        refine List.pairwise_cons.mpr ⟨fun z hz => ?_, h⟩
        rcases List.mem_cons.mp hz with rfl | hz
        · exact c
        · exact o.tr _ _ _ c (h1 z hz)
      | false =>
        simp only [cond_false]
        refine List.pairwise_cons.mpr ⟨fun z hz => ?_, put_up o h2⟩
        rcases mem_put.mp hz with rfl | hz
        · cases d : lt y z with
          | true => rfl
          | false => exact absurd (o.tri _ _ c d) ne
        · exact h1 z hz
theorem srt_up (o : Ord lt) : ∀ l : List α, (srt lt l).Pairwise fun a b => lt a b = true
  | [] => .nil
  | _ :: r => put_up o (srt_up o r)
theorem up_one (o : Ord lt) : ∀ {l m : List α}, l.Pairwise (fun a b => lt a b = true) → m.Pairwise (fun a b => lt a b = true) → (∀ k, k ∈ l ↔ k ∈ m) → l = m
  | [], [], _, _, _ => rfl
  | [], y :: r, _, _, h => absurd ((h y).2 (by simp)) (by simp)
  | x :: l, [], _, _, h => absurd ((h x).1 (by simp)) (by simp)
  | x :: l, y :: m, p, q, h => by
    obtain ⟨p1, p2⟩ := List.pairwise_cons.mp p
    obtain ⟨q1, q2⟩ := List.pairwise_cons.mp q
    have no : ∀ a b, lt a b = true → lt b a = true → False := fun a b u v => by
      have := o.tr _ _ _ u v; rw [o.ir] at this; cases this
    obtain rfl : x = y := by
      rcases List.mem_cons.mp ((h x).1 (by simp)) with e | hx
      · exact e
      rcases List.mem_cons.mp ((h y).2 (by simp)) with e | hy
      · exact e.symm
      · exact (no _ _ (q1 x hx) (p1 y hy)).elim
    have ne : ∀ {z : α} {l : List α}, (∀ a ∈ l, lt z a = true) → z ∉ l := fun f hz => by
      have := f _ hz; rw [o.ir] at this; cases this
    rw [up_one o p2 q2 fun k => ?_]
    have hk := h k
    simp only [List.mem_cons] at hk
    constructor
    · intro z
      rcases hk.1 (.inr z) with e | e
      · subst e; exact absurd z (ne p1)
      · exact e
    · intro z
      rcases hk.2 (.inr z) with e | e
      · subst e; exact absurd z (ne q1)
      · exact e
theorem srt_is (o : Ord lt) {l m : List α} (h : m.Pairwise fun a b => lt a b = true) (e : ∀ k, k ∈ m ↔ k ∈ l) : m = srt lt l :=
  up_one o h (srt_up o l) fun k => (e k).trans mem_srt.symm
end
def ltI (a b : Int) : Bool := decide (a < b)
def ltS (a b : Str) : Bool := decide (a.cps.toList < b.cps.toList)
theorem ordI : Ord ltI := ⟨fun a => by simp [ltI], fun a b c => by simp only [ltI, decide_eq_true_eq]; omega, fun a b => by simp only [ltI, decide_eq_false_iff_not]; omega⟩
theorem str_ext {a b : Str} (h : a.cps.toList = b.cps.toList) : a = b := by
  cases a; cases b
  simp only [Str.mk.injEq]
  exact Array.toList_inj.mp h
theorem ordS : Ord ltS := ⟨fun a => by simp [ltS], fun a b c => by
  simp only [ltS, decide_eq_true_eq]
  exact List.lt_trans, fun a b => by
  simp only [ltS, decide_eq_false_iff_not]
  intro h1 h2
  exact str_ext (List.le_antisymm (List.not_lt.mp h2) (List.not_lt.mp h1))⟩
def srtI (l : List Int) : List Int := srt ltI l
def srtS (l : List Str) : List Str := srt ltS l
theorem rise_up {p : Str} : ∀ {l : List Str}, risingS p l = true → (∀ x ∈ l, ltCps x.cps.toList p.cps.toList = false) ∧ l.Pairwise fun a b => ltCps b.cps.toList a.cps.toList = false
  | [], _ => ⟨fun _ h => (by cases h), .nil⟩
  | x :: r, h => by
    simp only [risingS, Bool.and_eq_true, Bool.not_eq_true'] at h
    obtain ⟨h1, h2⟩ := rise_up h.2
    refine ⟨fun z hz => ?_, List.pairwise_cons.mpr ⟨h1, h2⟩⟩
    rcases List.mem_cons.mp hz with rfl | hz
    · exact h.1
    · have a := h1 z hz
      have b := h.1
      rw [ltCps_eq, decide_eq_false_iff_not] at a b ⊢
      exact fun c => by
        rcases Classical.em (z.cps.toList < x.cps.toList) with d | d
        · exact a d
        · exact b (List.lt_of_le_of_lt (List.not_lt.mp d) c)
theorem sorted_up {l : List Str} (h : sortedS l = true) (nd : l.Nodup) : l.Pairwise fun a b => ltS a b = true := by
  have q : l.Pairwise fun a b => ltCps b.cps.toList a.cps.toList = false := by
    cases l with
    | nil => exact .nil
    | cons x r =>
      obtain ⟨h1, h2⟩ := rise_up (p := x) (l := r) h
      exact List.pairwise_cons.mpr ⟨h1, h2⟩
  refine (q.and nd).imp fun {a b} ⟨h, n⟩ => ?_
  cases c : ltS a b with
  | true => rfl
  | false =>
    rw [ltCps_eq] at h
    exact absurd (ordS.tri a b c h) n

theorem perm_of {α : Type} [DecidableEq α] : ∀ {l m : List α}, l.Nodup → (∀ x ∈ l, x ∈ m) → m.length ≤ l.length → l.Perm m
  | [], m, _, _, h => by
    obtain rfl : m = [] := List.length_eq_zero_iff.mp (Nat.le_zero.mp h)
    exact .nil
  | x :: r, m, nd, sub, h => by
    obtain ⟨n1, n2⟩ := List.nodup_cons.mp nd
    have hx := sub x List.mem_cons_self
    have p := List.perm_cons_erase hx
    have pl := p.length_eq
    simp only [List.length_cons] at pl h
    exact ((perm_of n2 (fun y hy => (List.mem_erase_of_ne (fun e : y = x => n1 (by rw [← e]; exact hy))).mpr (sub y (List.mem_cons_of_mem _ hy))) (by omega)).cons x).trans p.symm
def txtOf : Value → Str
  | .str x _ => x
  | _ => ⟨#[]⟩
theorem strs_of : ∀ {vs : List Value}, (∀ v ∈ vs, ∃ x t, v = .str x t) → StrsAre vs (vs.map txtOf)
  | [], _ => .nil
  | v :: vs, h => by
    obtain ⟨x, t, rfl⟩ := h v List.mem_cons_self
    exact .cons x t (strs_of fun u hu => h u (List.mem_cons_of_mem _ hu))
/-! ### the objects and the calls -/
def TsO (P : Program) (w : World) (a : Addr) (l : List Str) : HO := .ext fun h => TSet P w h a l
theorem tsO_ok {P : Program} {w : World} {H : Hp} {h : Heap} {a : Addr} {l : List Str} (x : TSet P w h a l) : ObjOk P w H h a (TsO P w a l) :=
  ⟨x, let ⟨_, g, _⟩ := x; ⟨_, g⟩, fun _ _ p k => TSet.at p k⟩
section
variable {X : Cx}
abbrev SqX (K : PySem.W.Frag) (H : Hp) (a : Addr) (vs : List V) : Prop := SqL K H a vs ∨ SqT K H a vs
def rSet (P : Program) (w : World) (K : PySem.W.Frag) : List V → Hp → VK → Prop := fun xs H Q => ∃ a, xs = [.ref a] ∧
  ((∃ ns : List Int, SqX K H a (ns.map V.int) ∧ ns.length < 4000 ∧ ∀ p c, H p = none → c ≤ ns.length → Q (.ref p) (upd H p (SetO w p (fun j => decide (j ∈ ns)) c))) ∨
   (∃ ts : List Str, SqX K H a (ts.map V.str) ∧ ts.length < 4000 ∧ ∀ p l, H p = none → (∀ k, k ∈ l ↔ k ∈ ts) → l.length ≤ ts.length → Q (.ref p) (upd H p (TsO P w p l))))
theorem src_of {pins : List (Addr × Obj)} {σ : L2.St} {H : Hp} {s : Shared} {a : Addr} {vs : List V} (I : Inv X pins σ H s) (h : SqX X.K H a vs) : ∃ its : List Value, Vals vs its ∧ Src s.heap a its.toArray := by
  rcases h with h | h
  · obtain ⟨its, r, p, _⟩ := I.list h
    exact ⟨its, r, .inl p.isList⟩
  · obtain ⟨its, r, p, _⟩ := I.tuple h
    exact ⟨its, r, .inr p⟩
theorem cr_set (hc : X.calm = true) : CallR X (.type "set") (rSet X.prog X.w X.K) := by
  intro pins s σ H xs us Q I r ⟨a, e, h⟩
  subst e
  rw [Vals.ref1 r]
  have fr : H s.heap.objs.size = none := I.hok.fresh (Nat.le_refl _)
  rcases h with ⟨ns, sq, few, q⟩ | ⟨ts, sq, few, q⟩
  · obtain ⟨its, rv, src⟩ := src_of I sq
    refine call_set (I.ok.hd hc) src (filler_int rv.ints (by show ns.length + 1 < 4096; omega)) fun h' tk ⟨c, R, hl⟩ k => ?_
    exact ⟨.ref _, upd H _ (SetO X.w _ (fun j => decide (j ∈ ns)) c), I.laid (t' := tk) k (Nat.le_refl _) (setO_new R), rfl, q _ c fr hl⟩
  · obtain ⟨its, rv, src⟩ := src_of I sq
    refine call_set (I.ok.hd hc) src (filler_txt rv.strs (by show ts.length + 1 < 4096; omega)) fun h' tk ⟨l, R, hm, hl⟩ k => ?_
    exact ⟨.ref _, upd H _ (TsO X.prog X.w _ l), I.laid (t' := tk) k (Nat.le_refl _) (tsO_ok R), rfl, q _ l fr hm hl⟩
def rSrt (P : Program) (w : World) : List V → Hp → VK → Prop := fun xs H Q => ∃ a, xs = [.ref a] ∧
  ((∃ (ns : List Int) (c : Nat), H a = some (SetO w a (fun j => decide (j ∈ ns)) c) ∧ ∀ p, H p = none → Q (.ref p) (upd H p (.lst ((srtI ns).map V.int)))) ∨
   (∃ l, H a = some (TsO P w a l) ∧ l.length < 4096 ∧ ∀ p, H p = none → Q (.ref p) (upd H p (.lst ((srtS l).map V.str)))))
theorem list_end {pins : List (Addr × Obj)} {σ : L2.St} {H : Hp} {s z : Shared} {p : Addr} {out : Array Value} {c : Nat} {vs : List V} {Q : VK} (I : Inv X pins σ H s) (keep : ∀ b o, s.heap.get? b = some o → z.heap.get? b = some o) (gens : z.gens = s.gens) (os : z.os = s.os)
    (hp : s.heap.objs.size ≤ p) (g : z.heap.get? p = some (seqObj "list" out c)) (r : Vals vs out.toList) (len : vs.length ≤ sizeLine) (q : H p = none → Q (.ref p) (upd H p (.lst vs))) : ∃ x H', Inv X pins σ H' z ∧ RelV x (Value.ref p) ∧ Q x H' := by
  have fr : H p = none := I.hok.fresh hp
  exact ⟨.ref p, upd H p (.lst vs), I.call' (ch := []) os (Un.laid keep hp fr) (I.hok.laid keep hp ⟨len, out.toList, c, r, g⟩) (by rw [gens]; exact I.bare) (fun _ z => nomatch z), rfl, q fr⟩
theorem cr_srt (hc : X.calm = true) : CallR X (.builtin "sorted") (rSrt X.prog X.w) := by
  intro pins s σ H xs us Q I r ⟨a, e, h⟩
  subst e
  rw [Vals.ref1 r]
  rcases h with ⟨ns, c, ha, q⟩ | ⟨l, ha, few0, q⟩
  · obtain ⟨o, es, ep, t, g, ex, d, good, nd, mem, few, fit, n, up, led⟩ := setO_get I ha
    refine sort_set (Ok := fun vs out => ∃ ks, IntsAre out ks ∧ ks.Perm (vs.map Builtin.Re.reRawOf) ∧ ks.Pairwise (· ≤ ·)) (I.ok.hd hc) ⟨o, g, ex.1, d⟩ fit few up led ?_ ?_
    · intro B z L vs R pm gL fin
      have ia : IntsAre vs (vs.map Builtin.Re.reRawOf) := ints_of vs fun v hv => by
        obtain ⟨e, he, rfl⟩ := List.mem_map.mp (pm.mem_iff.mp hv)
        obtain ⟨k, tk, z, _⟩ := good e he
        exact ⟨k, tk, z⟩
      refine list_sort_treeAny gL ia ?_ fun out ks a1 a2 a3 => fin out ⟨ks, a1, a2, a3⟩
      rw [pm.length_eq, List.length_map, Array.length_toList]; exact fits_of_scanBound few
    · intro z p vs out c keep gens os hp hg pm ⟨ks, a1, a2, a3⟩
      have pk : ks.Perm (es.toList.map L2.keyOf) := a2.trans (by
        have := pm.map Builtin.Re.reRawOf
        rw [List.map_map] at this
        exact this)
      have up : ks.Pairwise fun a b => ltI a b = true := (a3.and (pk.nodup_iff.mpr nd)).imp fun {a b} ⟨h, n⟩ => decide_eq_true (by omega)
      have is : ks = srtI ns := srt_is ordI up fun k => by rw [pk.mem_iff, ← mem k, decide_eq_true_eq]
      subst is
      refine list_end I keep gens os hp hg (vals_of_ints a1) ?_ (q p)
      rw [List.length_map, pk.length_eq, List.length_map, Array.length_toList]; exact fits_of_scanBound few
  · obtain ⟨D, g, F, nd, wk⟩ : TSet X.prog X.w s.heap a l := (I.hok a _ ha).1
    obtain ⟨es, ep, t⟩ := D
    have sz : es.size = l.length := F.sz
    have mem : ∀ k : Str, k ∈ l ↔ ∃ e ∈ es.toList, (strKind X.prog X.w).is k e.2 = true := F.mem
    have shape : ∀ (k : Str) (v : Value), (strKind X.prog X.w).is k v = true → ∃ t, v = .str k t := fun k v h => by
      have h : Value.isStrOf k v = true := h
      cases v <;> first | (simp only [Value.isStrOf, decide_eq_true_eq, beq_iff_eq] at h; subst h; exact ⟨_, rfl⟩) | cases h
    have few : es.size < scanBound := by rw [sz]; exact few0
    have allS : ∀ v ∈ es.toList.map (·.2), ∃ x t, v = .str x t := fun v hv => by
      obtain ⟨e, he, rfl⟩ := List.mem_map.mp hv
      obtain ⟨⟨k, hk, _⟩, _⟩ := F.el e he
      exact ⟨k, shape k _ hk⟩
    refine sort_set (es := es) (t := t) (Ok := fun vs out => ∃ ks, StrsAre out ks ∧ ks.Perm (vs.map txtOf) ∧ sortedS ks = true) (I.ok.hd hc) ⟨_, g, rfl, rfl⟩ F.fit few wk.up wk.led ?_ ?_
    · intro B z L vs R pm gL fin
      have ia : StrsAre vs (vs.map txtOf) := strs_of fun v hv => allS v (pm.mem_iff.mp hv)
      refine list_sort_treeKAny strKind_oneLt gL ia.keysOf (fun v1 v2 rest e => keyKind_strs (by rw [← e]; exact ia)) ?_ fun st' hp hs => ?_
      · rw [pm.length_eq, List.length_map, Array.length_toList]; exact fits_of_scanBound few
      · obtain ⟨ks, h1, h2, h3⟩ := sorted_out_str ia hp hs
        exact fin _ ⟨ks, h1, h2, h3⟩
    · intro z p vs out c keep gens os hp hg pm ⟨ks, a1, a2, a3⟩
      have pk : ks.Perm (es.toList.map fun e => txtOf e.2) := a2.trans (by
        have := pm.map txtOf
        rw [List.map_map] at this
        exact this)
      have mm : ∀ k, k ∈ es.toList.map (fun e => txtOf e.2) ↔ k ∈ l := fun k => by
        rw [mem k, List.mem_map]
        constructor
        · rintro ⟨e, he, rfl⟩
          obtain ⟨⟨k, hk, _⟩, _⟩ := F.el e he
          obtain ⟨t, z⟩ := shape k _ hk
          exact ⟨e, he, by rw [z] at hk ⊢; exact hk⟩
        · rintro ⟨e, he, hk⟩
          obtain ⟨t, z⟩ := shape k _ hk
          exact ⟨e, he, by rw [z]; rfl⟩
      have lp : l.Perm ks := perm_of nd (fun k hk => pk.mem_iff.mpr ((mm k).2 hk)) (by rw [pk.length_eq, List.length_map, Array.length_toList, sz]; exact Nat.le_refl _)
      have is : ks = srtS l := srt_is ordS (sorted_up a3 (lp.nodup_iff.mp nd)) fun k => by rw [pk.mem_iff, mm k]
      subst is
      refine list_end I keep gens os hp hg (vals_of_strs a1) ?_ (q p)
      rw [List.length_map, lp.length_eq.symm, ← sz]; exact fits_of_scanBound few
end
end Ss
set_option Elab.async false
set_option linter.all false
set_option maxRecDepth 100000
set_option maxHeartbeats 1000000
/-! tuple.index of plain items; repr of a list or a tuple -/
namespace Ss
open PySem PySem.Spec PyProof.Rows L2
section
variable {X : Cx}
def rTix (K : PySem.W.Frag) : V → List V → Hp → VK → Prop := fun x xs H Q => ∃ a ys y, x = V.ref a ∧ xs = [y] ∧ SqT K H a ys ∧ flatV y = true ∧ ys.all flatV = true ∧
  ∃ j, ys.findIdx? (fun z => eqV z y) = some j ∧ Q (.int (j : Nat)) H
theorem mt_tix : MtR X "tuple.index" (rTix X.K) := by
  intro pins s σ H x xs v us Q I rx rs ⟨a, ys, y, e1, e2, sq, fy, fs, j, hj, q⟩
  subst e1 e2
  cases rx
  match us, rs with
  | [u], .cons ry .nil =>
    obtain ⟨its, r, pl, hz⟩ := I.tuple sq
    obtain ⟨⟨cls, dd, dt, sl⟩, ho, hc, n, hd⟩ := pl
    simp only at hc hd
    subst hc hd
    obtain ⟨lt, is, no⟩ := List.findIdx?_eq_some_iff_getElem.mp hj
    have len := r.length
    have nth : ∀ m, (hm : m < ys.length) → ∃ hm' : m < its.toArray.size, eqU y its.toArray[m] = eqV ys[m] y := fun m hm => by
      obtain ⟨w, hw, rw'⟩ := r.get (i := m) (x := ys[m]) (List.getElem?_eq_getElem hm)
      obtain ⟨h1, h2⟩ := List.getElem?_eq_some_iff.mp hw
      refine ⟨by simpa using h1, ?_⟩
      have : its.toArray[m] = w := by simpa using h2
      rw [this]
      exact eqU_of rw' (flat_at fs (List.getElem?_eq_getElem hm))
    obtain ⟨lt', is'⟩ := nth j lt
    refine call_meets PySem.F.slot_tuple_index ⟨_, ho, rfl⟩ PySem.F.entry_tuple_index (PySem.F.args_tuple_index_2 _ _)
      (TI.tuple_indexAt a its.toArray n dd sl u (eqU y) j lt' (is'.trans is) fun m hm hmj => ?_)
      ⟨ho, fun w hw => mem_eqAt ry fy r fs w (by simpa using hw), .int (j : Nat), H, I.tok _, ⟨_, rfl⟩, q⟩
    obtain ⟨_, e⟩ := nth m (by omega)
    rw [e]
    exact Bool.eq_false_iff.mpr (no m hmj)
/-- repr of a list or a tuple -/
def rRpr (X : Cx) : List V → Hp → VK → Prop := fun xs H Q => ∃ a p, xs = [.ref a] ∧ Dp X.K H (.ref a) p ∧ p.showable = true ∧ p.hasDict = false ∧ p.depth < 60 ∧ p.shown.length ≤ sizeLine ∧ Q (.str p.shown) H
theorem cr_rpr (hg : X.A.guards = some []) (hu : X.A.units + 64 < cLine) : CallR X (.builtin "repr") (rRpr X) := by
  intro pins s σ H xs us Q I r ⟨a, p, e, d, s1, s2, s3, s4, q⟩
  subst e
  rw [Vals.ref1 r]
  obtain ⟨as, rd⟩ := Dp.reads I p (.ref a) (.ref a) d rfl
  refine repr_of_reads' rd s1 (fun h => by rw [s2] at h; cases h) hg (by omega) (fun _ _ e => e) (fun h' u tk k => ?_) s4
  exact ⟨.str p.shown, H, I.kept (t' := tk) k, ⟨u, rfl⟩, q⟩
end
end Ss
set_option Elab.async false
set_option linter.all false
set_option maxRecDepth 100000
set_option maxHeartbeats 1000000
namespace Iq
open PySem L2

/-- a target: a name, a tuple of names -/
inductive Tg where
  | nm (i : Nat) | tp (is : List Nat)
/-- what is walked -/
inductive Ik where
  | seq | rng | rng2 | zip | enu
/-- a built-in of one argument -/
inductive Bi where
  | len | int | list | tuple | all | any
/-- a built-in type, asked by isinstance -/
inductive Ty where
  | int | bool | str | tuple | list
  deriving DecidableEq

mutual
inductive Ex where
  | var (i : Nat) | con (d : D) | glo (j : Nat) | fnv (k : Nat)
  | tup (es : List Ex) | lst (es : List Ex) | dct (ks : List Str) (es : List Ex)
  | neg (a : Ex) | nt (a : Ex) | and (a b : Ex) | or (a b : Ex) | ite (c : Tx) (a b : Ex)
  | bin (op : Operator) (a b : Ex) | cmp (op : CmpOp) (a b : Ex) | chn (o1 o2 : CmpOp) (a b c : Ex)
  | idx (a b : Ex) | sli (a : Ex) (lo hi : Option Ex)
  | call (k : Nat) (es : List Ex) | calv (i : Nat) (es : List Ex)
  | bi (f : Bi) (a : Ex) | isi (a : Ex) (ts : List Ty) | join (s : Str) (b : Ex)
  | comp (e : Ex) (t : Tg) (k : Ik) (ss : List Ex) (c : Option Tx)
  /-- a call with names and defaults: the q-th form of the table -/
  | kwc (q : Nat) (es zs : List Ex)
  /-- a tuple with starred parts -/
  | tus (bs : List Bool) (es : List Ex)
  /-- a list display, so many times -/
  | rep (es : List Ex) (b : Ex)
  /-- a lambda that calls, handed to the def that hears it -/
  | hrd (q : Nat) (es zs : List Ex)
  /-- repr of a list or a tuple; sorted(set(..)); .index(..); a list display with stars -/
  | rpr (a : Ex) | srs (a : Ex) | ixm (a b : Ex) | ixg (j : Nat) (b : Ex) | lss (bs : List Bool) (es : List Ex)
/-- a test -/
inductive Tx where
  | at (e : Ex) | nt (a : Tx) | and (a b : Tx) | or (a b : Tx)
end

inductive Sm where
  | exp (e : Ex) | asg (i : Nat) (e : Ex) | asgT (is : List Nat) (e : Ex) | par (i j : Nat) (a b : Ex)
  | set (i : Nat) (a b : Ex) | app (i : Nat) (e : Ex) | ext (i : Nat) (e : Ex)
  | ife (c : Tx) (p q : List Sm) | loop (t : Tg) (k : Ik) (ss : List Ex) (p : List Sm)
  | whl (n : Nat) (c : Tx) (p : List Sm)
  | ret (e : Ex) | retN | brk | cnt | pas | nev
  /-- raise C(..): the class, its fields in the order of the arguments -/
  | rai (c : Nat) (fs : List Str) (es : List Ex)
  /-- a call that may raise: as a statement, returned, given to a slot -/
  | xc (t : Option (Option Nat)) (k : Nat) (es : List Ex)
  /-- the same with arguments by name and defaults -/
  | xk (t : Option (Option Nat)) (q : Nat) (es zs : List Ex)

/-- a slot's state: own io d: io tells an object of the caller's -/
inductive Fl where
  | nx | bk | ct | rt (d : D) (fr : Bool) | ex (c : Nat) (fs : List (Str × D))

/-! ### operations on data -/
def truth : D → R Bool
  | .non => .ok false
  | .bl b => .ok b
  | .int i => .ok (i != 0)
  | .str x => if x.length ≤ sizeLine then .ok ((x.length : Int) != 0) else .bad
  | .tup xs => .ok (!xs.isEmpty)
  | .lst xs => .ok (!xs.isEmpty)
  | .dic _ => .bad
  | .fn _ => .bad

mutual
def D.py : D → Option PyData
  | .non => some .none
  | .bl b => some (.bool b)
  | .int i => some (.int i)
  | .str x => some (.str x)
  | .tup xs => (D.pyL xs).map .tuple
  | .lst xs => (D.pyL xs).map .list
  | .dic _ => none
  | .fn _ => none
def D.pyL : List D → Option (List PyData)
  | [] => some []
  | d :: ds => match d.py, D.pyL ds with
    | some a, some r => some (a :: r)
    | _, _ => none
end
/-- == -/
def eqD (x y : D) : R Bool := match x.py, y.py with
  | some a, some b => if SeqAt.shaped a && SeqAt.shaped b then .ok (PyData.eqv a b) else .bad
  | _, _ => .bad

def flat : D → Option V
  | .non => some .non
  | .bl b => some (.bl b)
  | .int i => some (.int i)
  | .str x => some (.str x)
  | _ => none
def flats : List D → Option (List V)
  | [] => some []
  | d :: ds => match flat d, flats ds with
    | some a, some r => some (a :: r)
    | _, _ => none
/-- x in ys -/
def inSeq (x : D) (ys : List D) : R Bool := match flat x, flats ys with
  | some a, some r => .ok (inV a r)
  | _, _ => .bad
def keyOf : D → Option Key
  | .int i => some (.inl i)
  | .str x => some (.inr x)
  | _ => none
def valD (kv : List (Key × D)) (k : Key) : Option D := (kv.find? fun p => decide (p.1 = k)).map (·.2)
/-- a number is asked of a dict with numbers as keys alone -/
def keyFit (kv : List (Key × D)) : Key → Bool
  | .inl _ => kv.all fun p => p.1.isLeft
  | .inr _ => true
def inD (x y : D) : R Bool := match y with
  | .tup ys => inSeq x ys
  | .lst ys => inSeq x ys
  | .str z => match x with
    | .str a => .ok (!(Builtin.Str.occurrences z a 0 z.length 1).isEmpty)
    | _ => .bad
  | .dic kv => match keyOf x with
    | some k => bif keyFit kv k then .ok (valD kv k).isSome else .bad
    | none => .bad
  | _ => .bad
def notR : R Bool → R Bool
  | .ok b => .ok (!b)
  | .bad => .bad
def ltD (x y : D) : R Bool := match x, y with
  | .int i, .int j => .ok (decide (i < j))
  | .str a, .str b => .ok (decide (a.cps.toList < b.cps.toList))
  | _, _ => .bad
def leI (x y : D) : R Bool := match x, y with
  | .int i, .int j => .ok (decide (i ≤ j))
  | _, _ => .bad
def isN (x y : D) : R Bool := match y with
  | .non => match x with
    | .non => .ok true
    | _ => .ok false
  | _ => .bad
def cmpD (op : CmpOp) (x y : D) : R Bool := match op with
  | .Eq => eqD x y
  | .NotEq => notR (eqD x y)
  | .Lt => ltD x y
  | .LtE => leI x y
  | .Gt => match x, y with
    | .int i, .int j => .ok (decide (j < i))
    | _, _ => .bad
  | .GtE => match x, y with
    | .int i, .int j => .ok (decide (j ≤ i))
    | _, _ => .bad
  | .In => inD x y
  | .NotIn => notR (inD x y)
  | .Is => isN x y
  | .IsNot => notR (isN x y)

/-- value, and whether its object is new -/
abbrev O := R (D × Bool)
def binD (op : Operator) (x y : D) : O := match op, x, y with
  | .Add, .int i, .int j => .ok (.int (i + j), false)
  | .Add, .str a, .str b => if a.length + b.length ≤ sizeLine then .ok (.str (a ++ b), false) else .bad
  | .Add, .tup a, .tup b => if a.length + b.length ≤ sizeLine then .ok (.tup (a ++ b), false) else .bad
  | .Add, .lst a, .lst b => if a.length + b.length ≤ sizeLine then .ok (.lst (a ++ b), true) else .bad
  | .Sub, .int i, .int j => .ok (.int (i - j), false)
  | .Mult, .int i, .int j => if (-(2 ^ 64) < i && i < 2 ^ 64) || (-(2 ^ 64) < j && j < 2 ^ 64) then .ok (.int (i * j), false) else .bad
  | .Mult, .str a, .int j => if 0 ≤ j ∧ j ≤ 1000 ∧ a.length ≤ 1000 then .ok (.str (Txt.mul a j), false) else .bad
  | .FloorDiv, .int i, .int j => if 0 < j ∧ j < 1073741824 then .ok (.int (i / j), false) else .bad
  | .Mod, .int i, .int j => if 0 < j then .ok (.int (i % j), false) else .bad
  | .Pow, .int i, .int j => if 0 ≤ j ∧ j ≤ 1000000 ∧ i.natAbs < 2 ^ 64 then .ok (.int (i ^ j.toNat), false) else .bad
  | _, _, _ => .bad
def idxD (x y : D) : R D := match x, y with
  | .tup a, .int i => match atI a i with
    | some d => .ok d
    | none => .bad
  | .lst a, .int i => match atI a i with
    | some d => .ok d
    | none => .bad
  | .str z, .int i => if z.length ≤ sizeLine then match atI z.cps.toList i with
    | some c => .ok (.str ⟨#[c]⟩)
    | none => .bad else .bad
  | .dic kv, k => match keyOf k with
    | some k => bif keyFit kv k then match valD kv k with
      | some d => .ok d
      | none => .bad else .bad
    | none => .bad
  | _, _ => .bad
def cutL {α : Type} (xs : List α) (lo hi : Option Int) : List α := (xs.drop (HT.sIx xs.length 0 lo)).take (HT.sIx xs.length xs.length hi - HT.sIx xs.length 0 lo)
def sliD (x : D) (lo hi : Option Int) : O := match x with
  | .tup a => .ok (.tup (cutL a lo hi), false)
  | .lst a => .ok (.lst (cutL a lo hi), true)
  | .str z => if z.length ≤ sizeLine then .ok (.str (cutS z lo hi), false) else .bad
  | _ => .bad
def bls : List D → Option (List Bool)
  | [] => some []
  | .bl b :: ds => (bls ds).map (b :: ·)
  | _ :: _ => none
def biD (f : Bi) (x : D) : O := match f, x with
  | .len, .str z => if z.length ≤ sizeLine then .ok (.int z.length, false) else .bad
  | .len, .tup a => .ok (.int a.length, false)
  | .len, .lst a => .ok (.int a.length, false)
  | .int, .int i => .ok (.int i, false)
  | .int, .bl k => .ok (.int (if k then 1 else 0), false)
  | .list, .tup a => .ok (.lst a, true)
  | .list, .lst a => .ok (.lst a, true)
  | .tuple, .tup a => .ok (.tup a, false)
  | .tuple, .lst a => .ok (.tup a, false)
  | .all, .lst a => match bls a with
    | some bs => .ok (.bl (bs.all id), false)
    | none => .bad
  | .any, .lst a => match bls a with
    | some bs => .ok (.bl (bs.any id), false)
    | none => .bad
  | _, _ => .bad
def isTy : D → Ty → Option Bool
  | .non, _ => some false
  | .bl _, .int => some true
  | .bl _, .bool => some true
  | .bl _, _ => some false
  | .int _, t => some (t == .int)
  | .str _, t => some (t == .str)
  | .tup _, t => some (t == .tuple)
  | .lst _, t => some (t == .list)
  | .dic _, _ => some false
  | .fn _, _ => none
def isTys (x : D) : List Ty → Option Bool
  | [] => some false
  | t :: ts => match isTy x t, isTys x ts with
    | some a, some b => some (a || b)
    | _, _ => none
def strL : List D → Option (List Str)
  | [] => some []
  | .str x :: ds => (strL ds).map (x :: ·)
  | _ :: _ => none
/-- what a walk gives, item by item -/
def chars (z : Str) : List D := z.cps.toList.map fun c => .str ⟨#[c]⟩
def upTo (lo : Int) (n : Nat) : List D := (List.range n).map fun i => .int (lo + (i : Nat))
def zipD : List D → List D → List D
  | a :: as, b :: bs => .tup [a, b] :: zipD as bs
  | _, _ => []
def enuD : Nat → List D → List D
  | _, [] => []
  | n, a :: as => .tup [.int (n : Nat), a] :: enuD (n + 1) as
def walk (k : Ik) (ds : List D) : R (List D) := match k, ds with
  | .seq, [.lst a] => .ok a
  | .seq, [.tup a] => .ok a
  | .seq, [.str z] => if z.length ≤ sizeLine then .ok (chars z) else .bad
  | .rng, [.int j] => if -1000 ≤ j ∧ j ≤ 16777216 then .ok (upTo 0 j.toNat) else .bad
  | .rng2, [.int i, .int j] => if -1000 ≤ i ∧ i ≤ 10000000 ∧ -1000 ≤ j ∧ j ≤ 10000000 then .ok (upTo i (j - i).toNat) else .bad
  | .zip, [.lst a, .lst b] => .ok (zipD a b)
  | .zip, [.tup a, .tup b] => .ok (zipD a b)
  | .enu, [.lst a] => .ok (enuD 0 a)
  | _, _ => .bad

def intL : List D → Option (List Int)
  | [] => some []
  | .int i :: ds => (intL ds).map (i :: ·)
  | _ :: _ => none
def seqOf : D → Option (List D)
  | .lst xs => some xs
  | .tup xs => some xs
  | _ => none
/-- sorted(set(x)) -/
def srsD (x : D) : R D := match seqOf x with
  | some xs => if xs.length < 4000 then match intL xs, strL xs with
    | some ns, _ => .ok (.lst ((Ss.srtI ns).map .int))
    | none, some ts => .ok (.lst ((Ss.srtS ts).map .str))
    | _, _ => .bad else .bad
  | none => .bad
/-- x.index(y) -/
def ixmD (x y : D) : R D := match seqOf x with
  | some xs => match flats xs, flat y with
    | some vs, some v => match vs.findIdx? (fun z => eqV z v) with
      | some j => .ok (.int (j : Nat))
      | none => .bad
    | _, _ => .bad
  | none => .bad
def lstD : D → D
  | .lst xs => .lst xs
  | _ => .non
/-- repr of a list or a tuple -/
def rprD (x : D) : R D := match seqOf x, x.py with
  | some _, some p => if p.showable = true ∧ p.hasDict = false ∧ p.depth < 60 ∧ p.shown.length ≤ sizeLine then .ok (.str p.shown) else .bad
  | _, _ => .bad

/-! ### slots -/
/-- an operand: a value, or the slot that owns it -/
inductive Hd where
  | val (d : D) | sl (i : Nat)
def deref (ς : List Sl) : Hd → R D
  | .val d => .ok d
  | .sl i => match ς[i]? with
    | some (.own _ d) => .ok d
    | some (.shr d) => .ok d
    | _ => .bad
def hd (e : Ex) (f : List Sl → R (D × Bool × List Sl)) (ς : List Sl) : R (Hd × List Sl) := match e with
  | .var i => match ς[i]? with
    | some (.own _ _) => .ok (.sl i, ς)
    | some (.shr d) => .ok (.val d, ς)
    | _ => .bad
  | _ => (f ς).bind fun r => .ok (.val r.1, r.2.2)
def tgS : Tg → List Nat
  | .nm i => [i]
  | .tp is => is
def setAll : List Nat → List D → List Sl → R (List Sl)
  | [], [], ς => .ok ς
  | i :: is, d :: ds, ς => setAll is ds (ς.set i (.shr d))
  | _, _, _ => .bad
def bindT : Tg → D → List Sl → R (List Sl)
  | .nm i, d, ς => .ok (ς.set i (.shr d))
  | .tp is, .tup ds, ς => setAll is ds ς
  | _, _, _ => .bad
def wipeS (ς : List Sl) : List Nat → List Sl
  | [] => ς
  | i :: is => (wipeS ς is).set i .no
def isOwn (ς : List Sl) (i : Nat) : Bool := match ς[i]? with
  | some (.own _ _) => true
  | _ => false
def isOwnL (ς : List Sl) (i : Nat) : Bool := match ς[i]? with
  | some (.own _ (.lst _)) => true
  | _ => false
/-- the slots is as they were in ς0 -/
def backS (ς0 : List Sl) : List Nat → List Sl → List Sl
  | [], ς => ς
  | i :: is, ς => backS ς0 is (ς.set i (ς0.getD i .no))
def lcGo (tst : List Sl → R (Bool × List Sl)) (el : List Sl → R (D × Bool × List Sl)) (t : Tg) : List D → List Sl → R (List D × List Sl)
  | [], ς => .ok ([], ς)
  | x :: xs, ς => (bindT t x (wipeS ς (tgS t))).bind fun ς1 => (tst ς1).bind fun r => bif r.1 then (el r.2).bind fun q => (lcGo tst el t xs q.2.2).bind fun z => .ok (q.1 :: z.1, z.2) else lcGo tst el t xs r.2
def argS (ς : List Sl) : Hd → R Sl
  | .val d => .ok (.shr d)
  | .sl i => match ς[i]? with
    | some (.own _ d) => .ok (.own true d)
    | _ => .bad
def argsS (ς : List Sl) : List Hd → R (List Sl)
  | [] => .ok []
  | h :: hs => (argS ς h).bind fun a => (argsS ς hs).bind fun r => .ok (a :: r)
def hdS : List Hd → List Nat
  | [] => []
  | .val _ :: hs => hdS hs
  | .sl i :: hs => i :: hdS hs
def setOwn (ς : List Sl) (i : Nat) (d : D) : List Sl := match ς[i]? with
  | some (.own b _) => ς.set i (.own b d)
  | _ => ς
def putOuts : List Nat → List D → List Sl → R (List Sl)
  | [], [], ς => .ok ς
  | i :: is, d :: ds, ς => putOuts is ds (setOwn ς i d)
  | _, _, _ => .bad
/-- the program around a body: constants, which parameters are the caller's objects, the defs -/
structure Pr where
  cs : List D
  io : Nat → List Bool
  fn : Nat → List Sl → R (D × Bool × List D)
  fx : Nat → List Sl → R (Nat × List (Str × D))
  /-- forms of calls: the def, the parameters -/
  kw : List (Nat × List (Sum Nat D))
  /-- what is heard of an error -/
  hr : Nat → List (Str × D) → R D
  /-- one level down, two levels down -/
  pv : Nat → List Sl → R (D × Bool × List D)
  px : Nat → List Sl → R (Nat × List (Str × D))
  fl : Nat → List Sl → R (D × Bool × List D)
  xl : Nat → List Sl → R (Nat × List (Str × D))
  /-- defs that may be called by places alone -/
  po : Nat → Bool
  /-- it is known that no repr is under way -/
  rp : Bool
/-- the parameters out of what was given, and the defaults -/
def selL (vs : List D) : List (Sum Nat D) → R (List D)
  | [] => .ok []
  | .inl i :: r => match vs[i]? with
    | some d => (selL vs r).bind fun q => .ok (d :: q)
    | none => .bad
  | .inr d :: r => (selL vs r).bind fun q => .ok (d :: q)
/-- the arguments of a call with names: the def, its parameters -/
def kwG (P : Pr) (q : Nat) (f g : List Sl → R (List D × List Sl)) (ς : List Sl) : R (Nat × List D × List Sl) := match P.kw[q]? with
  | some p => bif (P.io p.1).isEmpty then (f ς).bind fun r => (g r.2).bind fun z => (selL (r.1 ++ z.1) p.2).bind fun ds => .ok (p.1, ds, z.2) else .bad
  | none => .bad
/-- starred parts are laid out -/
def spl : List Bool → List D → R (List D)
  | [], [] => .ok []
  | false :: bs, d :: ds => (spl bs ds).bind fun r => .ok (d :: r)
  | true :: bs, .lst xs :: ds => (spl bs ds).bind fun r => .ok (xs ++ r)
  | true :: bs, .tup xs :: ds => (spl bs ds).bind fun r => .ok (xs ++ r)
  | _, _ => .bad
def repD (xs : List D) (j : Int) : R D := if 0 ≤ j ∧ j ≤ 1000 ∧ xs.length ≤ 1000 then .ok (.lst (List.replicate j.toNat xs).flatten) else .bad
def lstO (xs : List D) : R D := if xs.length ≤ sizeLine then .ok (.lst xs) else .bad
def tupO (xs : List D) : R D := if xs.length ≤ sizeLine then .ok (.tup xs) else .bad
/-- what is heard of a call, two levels down -/
def hear (P : Pr) (k : Nat) (as : List Sl) : R D := match P.fl k as with
  | .ok o => .ok (.tup [.str "told", o.1])
  | .bad => (P.xl k as).bind fun x => P.hr x.1 x.2
def callG (P : Pr) (k : Nat) (hs : List Hd) (ς : List Sl) : R (D × Bool × List Sl) :=
  if (hdS hs).Nodup then (argsS ς hs).bind fun as => (P.fn k as).bind fun r => (putOuts (hdS hs) r.2.2 ς).bind fun ς' => .ok (r.1, r.2.1, ς') else .bad
def intOf : D → R Int
  | .int i => .ok i
  | _ => .bad
def joinD (s : Str) (b : D) : R D := match b with
  | .lst xs => match strL xs with
    | some ys => if ys.length * s.length + (ys.map Str.length).sum ≤ 100000 then .ok (.str (Txt.join s ys)) else .bad
    | none => .bad
  | _ => .bad

mutual
def evE (P : Pr) : Ex → List Sl → R (D × Bool × List Sl)
  | .var i, ς => match ς[i]? with
    | some (.shr d) => .ok (d, false, ς)
    | some (.own false d) => .ok (d, false, ς.set i (.shr d))
    | _ => .bad
  | .con d, ς => .ok (d, false, ς)
  | .glo j, ς => match P.cs[j]? with
    | some d => .ok (d, false, ς)
    | none => .bad
  | .fnv k, ς => .ok (.fn k, false, ς)
  | .tup es, ς => (evL P es ς).bind fun r => .ok (.tup r.1, false, r.2)
  | .lst es, ς => (evL P es ς).bind fun r => .ok (.lst r.1, true, r.2)
  | .dct ks es, ς => (evL P es ς).bind fun r => .ok (.dic ((ks.map Sum.inr).zip r.1), true, r.2)
  | .neg a, ς => (hd a (evE P a) ς).bind fun h => (deref h.2 h.1).bind fun d => (intOf d).bind fun i => .ok (.int (-i), false, h.2)
  | .nt a, ς => (hd a (evE P a) ς).bind fun h => (deref h.2 h.1).bind fun d => (truth d).bind fun b => .ok (.bl (!b), false, h.2)
  | .and a b, ς => (evE P a ς).bind fun r => (truth r.1).bind fun t => bif t then evE P b r.2.2 else .ok (r.1, false, r.2.2)
  | .or a b, ς => (evE P a ς).bind fun r => (truth r.1).bind fun t => bif t then .ok (r.1, false, r.2.2) else evE P b r.2.2
  | .ite c a b, ς => (evT P c ς).bind fun t => bif t.1 then evE P a t.2 else evE P b t.2
  | .bin op a b, ς => (hd a (evE P a) ς).bind fun h => (hd b (evE P b) h.2).bind fun g => (deref g.2 h.1).bind fun x => (deref g.2 g.1).bind fun y => (binD op x y).bind fun o => .ok (o.1, o.2, g.2)
  | .cmp op a b, ς => (hd a (evE P a) ς).bind fun h => (hd b (evE P b) h.2).bind fun g => (deref g.2 h.1).bind fun x => (deref g.2 g.1).bind fun y => (cmpD op x y).bind fun t => .ok (.bl t, false, g.2)
  | .chn o1 o2 a b c, ς => (hd a (evE P a) ς).bind fun h => (hd b (evE P b) h.2).bind fun g => (deref g.2 h.1).bind fun x => (deref g.2 g.1).bind fun y => (cmpD o1 x y).bind fun t =>
      bif t then (hd c (evE P c) g.2).bind fun f => (deref f.2 g.1).bind fun y2 => (deref f.2 f.1).bind fun z => (cmpD o2 y2 z).bind fun t2 => .ok (.bl t2, false, f.2) else .ok (.bl false, false, g.2)
  | .idx a b, ς => (hd a (evE P a) ς).bind fun h => (hd b (evE P b) h.2).bind fun g => (deref g.2 h.1).bind fun x => (deref g.2 g.1).bind fun y => (idxD x y).bind fun d => .ok (d, false, g.2)
  | .sli a lo hi, ς => (hd a (evE P a) ς).bind fun h => (evO P lo h.2).bind fun l => (evO P hi l.2).bind fun u => (deref u.2 h.1).bind fun x => (sliD x l.1 u.1).bind fun o => .ok (o.1, o.2, u.2)
  | .call k es, ς => (evA P es (P.io k) ς).bind fun r => callG P k r.1 r.2
  | .calv i es, ς => match ς[i]? with
    | some (.shr (.fn k)) => if P.po k && (P.io k).all (! ·) then (evA P es [] ς).bind fun r => callG P k r.1 r.2 else .bad
    | _ => .bad
  | .bi f a, ς => (hd a (evE P a) ς).bind fun h => (deref h.2 h.1).bind fun d => (biD f d).bind fun o => .ok (o.1, o.2, h.2)
  | .isi a ts, ς => (hd a (evE P a) ς).bind fun h => (deref h.2 h.1).bind fun d => match isTys d ts with
    | some b => .ok (.bl b, false, h.2)
    | none => .bad
  | .join s b, ς => (hd b (evE P b) ς).bind fun g => (deref g.2 g.1).bind fun y => (joinD s y).bind fun d => .ok (d, false, g.2)
  | .comp e t k ss c, ς => (evL P ss ς).bind fun r => (walk k r.1).bind fun xs => bif (tgS t).any (isOwn r.2) then .bad else (lcGo (evQ P c) (evE P e) t xs r.2).bind fun z => .ok (.lst z.1, true, backS r.2 (tgS t) z.2)
  | .kwc q es zs, ς => (kwG P q (evL P es) (evL P zs) ς).bind fun r => (P.fn r.1 (r.2.1.map .shr)).bind fun o => .ok (o.1, o.2.1, r.2.2)
  | .tus bs es, ς => (evL P es ς).bind fun r => (spl bs r.1).bind fun xs => (tupO xs).bind fun d => .ok (d, false, r.2)
  | .rep es b, ς => (evL P es ς).bind fun r => (hd b (evE P b) r.2).bind fun g => (deref g.2 g.1).bind fun y => (intOf y).bind fun j => (repD r.1 j).bind fun d => .ok (d, true, g.2)
  | .hrd q es zs, ς => (kwG P q (evL P es) (evL P zs) ς).bind fun r => (hear P r.1 (r.2.1.map .shr)).bind fun d => .ok (d, false, r.2.2)
  | .rpr a, ς => (hd a (evE P a) ς).bind fun h => (deref h.2 h.1).bind fun d => bif P.rp then (rprD d).bind fun o => .ok (o, false, h.2) else .bad
  | .srs a, ς => (hd a (evE P a) ς).bind fun h => (deref h.2 h.1).bind fun d => (srsD d).bind fun o => .ok (o, true, h.2)
  | .ixm a b, ς => (hd a (evE P a) ς).bind fun h => (deref h.2 h.1).bind fun x0 => bif (seqOf (lstD x0)).isNone then .bad else (hd b (evE P b) h.2).bind fun g => (deref g.2 h.1).bind fun x => (deref g.2 g.1).bind fun y => (ixmD (lstD x) y).bind fun d => .ok (d, false, g.2)
  | .ixg j b, ς => match P.cs[j]? with
    | some x => (hd b (evE P b) ς).bind fun g => (deref g.2 g.1).bind fun y => (ixmD x y).bind fun d => .ok (d, false, g.2)
    | none => .bad
  | .lss bs es, ς => (evL P es ς).bind fun r => (spl bs r.1).bind fun xs => (lstO xs).bind fun d => .ok (d, true, r.2)
def evL (P : Pr) : List Ex → List Sl → R (List D × List Sl)
  | [], ς => .ok ([], ς)
  | e :: es, ς => (evE P e ς).bind fun r => (evL P es r.2.2).bind fun q => .ok (r.1 :: q.1, q.2)
def evA (P : Pr) : List Ex → List Bool → List Sl → R (List Hd × List Sl)
  | [], _, ς => .ok ([], ς)
  | e :: es, true :: io, ς => (hd e (evE P e) ς).bind fun h => match h.1 with
    | .sl i => (evA P es io h.2).bind fun q => .ok (.sl i :: q.1, q.2)
    | .val _ => .bad
  | e :: es, io, ς => (evE P e ς).bind fun r => (evA P es io.tail r.2.2).bind fun q => .ok (.val r.1 :: q.1, q.2)
def evO (P : Pr) : Option Ex → List Sl → R (Option Int × List Sl)
  | none, ς => .ok (none, ς)
  | some e, ς => (hd e (evE P e) ς).bind fun h => (deref h.2 h.1).bind fun d => (intOf d).bind fun i => .ok (some i, h.2)
def evQ (P : Pr) : Option Tx → List Sl → R (Bool × List Sl)
  | none, ς => .ok (true, ς)
  | some e, ς => evT P e ς
def evT (P : Pr) : Tx → List Sl → R (Bool × List Sl)
  | .at e, ς => (hd e (evE P e) ς).bind fun h => (deref h.2 h.1).bind fun d => (truth d).bind fun b => .ok (b, h.2)
  | .nt a, ς => (evT P a ς).bind fun r => .ok (!r.1, r.2)
  | .and a b, ς => (evT P a ς).bind fun r => bif r.1 then evT P b r.2 else .ok (false, r.2)
  | .or a b, ς => (evT P a ς).bind fun r => bif r.1 then .ok (true, r.2) else evT P b r.2
end

def forGo (t : Tg) (body : List Sl → R (Fl × List Sl)) : List D → List Sl → R (Fl × List Sl)
  | [], ς => .ok (.nx, ς)
  | x :: xs, ς => (bindT t x ς).bind fun ς1 => (body ς1).bind fun r => match r.1 with
    | .nx => forGo t body xs r.2
    | .ct => forGo t body xs r.2
    | .bk => .ok (.nx, r.2)
    | .rt d fr => .ok (.rt d fr, r.2)
    | .ex c fs => .ok (.ex c fs, r.2)
def whGo (tst : List Sl → R (Bool × List Sl)) (body : List Sl → R (Fl × List Sl)) : Nat → List Sl → R (Fl × List Sl)
  | 0, _ => .bad
  | n + 1, ς => (tst ς).bind fun b => bif b.1 then (body b.2).bind fun r => match r.1 with
    | .nx => whGo tst body n r.2
    | .ct => whGo tst body n r.2
    | .bk => .ok (.nx, r.2)
    | .rt d fr => .ok (.rt d fr, r.2)
    | .ex c fs => .ok (.ex c fs, r.2) else .ok (.nx, b.2)
def valPut (kv : List (Key × D)) (k : Key) (d : D) : List (Key × D) := if (valD kv k).isSome then kv.map fun p => if p.1 = k then (p.1, d) else p else kv ++ [(k, d)]
def setD (o k v : D) : R D := match o with
  | .lst a => match k with
    | .int i => match ixN a.length i with
      | some j => .ok (.lst (a.set j v))
      | none => .bad
    | _ => .bad
  | .dic kv => match keyOf k with
    | some k => if kv.length < sizeLine then .ok (.dic (valPut kv k v)) else .bad
    | none => .bad
  | _ => .bad
def setSl (ς : List Sl) (i : Nat) (f : D → R D) : R (List Sl) := match ς[i]? with
  | some (.own b d) => (f d).bind fun d' => .ok (ς.set i (.own b d'))
  | _ => .bad
def addD (x : D) : D → R D
  | .lst a => if a.length < sizeLine then .ok (.lst (a ++ [x])) else .bad
  | _ => .bad
def extD (xs : List D) : D → R D
  | .lst a => if a.length + xs.length ≤ sizeLine then .ok (.lst (a ++ xs)) else .bad
  | _ => .bad
def extG (d : D) (fr : Bool) (ς : List Sl) (i : Nat) : R (List Sl) := match d, fr with
  | .lst xs, true => setSl ς i (extD xs)
  | _, _ => .bad
def finC : Option (Option Nat) → D → Bool → List Sl → Fl × List Sl
  | none, _, _, ς => (.nx, ς)
  | some none, d, fr, ς => (.rt d fr, ς)
  | some (some i), d, fr, ς => (.nx, ς.set i (bif fr then .own false d else .shr d))
/-- what a call comes to that may raise -/
abbrev Cr := Sum (D × Bool × List Sl) (Nat × List (Str × D) × List Sl)
def callX (P : Pr) (k : Nat) (hs : List Hd) (ς : List Sl) : R Cr := match callG P k hs ς with
  | .ok q => .ok (.inl q)
  | .bad => if hdS hs = [] then (argsS ς hs).bind fun as => (P.fx k as).bind fun x => .ok (.inr (x.1, x.2, ς)) else .bad
def callK (P : Pr) (k : Nat) (ds : List D) (ς : List Sl) : R Cr := match P.fn k (ds.map .shr) with
  | .ok q => .ok (.inl (q.1, q.2.1, ς))
  | .bad => (P.fx k (ds.map .shr)).bind fun x => .ok (.inr (x.1, x.2, ς))
def finX (t : Option (Option Nat)) : Cr → Fl × List Sl
  | .inl q => finC t q.1 q.2.1 q.2.2
  | .inr x => (.ex x.1 x.2.1, x.2.2)
mutual
def evS (P : Pr) : Sm → List Sl → R (Fl × List Sl)
  | .exp e, ς => (evE P e ς).bind fun r => .ok (.nx, r.2.2)
  | .asg i e, ς => (evE P e ς).bind fun r => .ok (.nx, r.2.2.set i (bif r.2.1 then .own false r.1 else .shr r.1))
  | .asgT is e, ς => (evE P e ς).bind fun r => (bindT (.tp is) r.1 r.2.2).bind fun ς' => .ok (.nx, ς')
  | .par i j a b, ς => (evL P [a, b] ς).bind fun r => (setAll [i, j] r.1 r.2).bind fun ς' => .ok (.nx, ς')
  | .set i a b, ς => (evE P b ς).bind fun r => bif isOwn r.2.2 i then (hd a (evE P a) r.2.2).bind fun h => (deref h.2 h.1).bind fun k => (setSl h.2 i fun o => setD o k r.1).bind fun ς' => .ok (.nx, ς') else .bad
  | .app i e, ς => bif isOwnL ς i then (evE P e ς).bind fun r => (setSl r.2.2 i (addD r.1)).bind fun ς' => .ok (.nx, ς') else .bad
  | .ext i e, ς => bif isOwnL ς i then (evE P e ς).bind fun r => (extG r.1 r.2.1 r.2.2 i).bind fun ς' => .ok (.nx, ς') else .bad
  | .ife c p q, ς => (evT P c ς).bind fun r => bif r.1 then evB P p r.2 else evB P q r.2
  | .loop t k ss p, ς => (evL P ss ς).bind fun r => (walk k r.1).bind fun xs => forGo t (evB P p) xs r.2
  | .whl n c p, ς => whGo (evT P c) (evB P p) n ς
  | .ret (.var i), ς => match ς[i]? with
    | some (.shr d) => .ok (.rt d false, ς)
    | some (.own false d) => .ok (.rt d true, ς)
    | _ => .bad
  | .ret e, ς => (evE P e ς).bind fun r => .ok (.rt r.1 r.2.1, r.2.2)
  | .retN, ς => .ok (.rt .non false, ς)
  | .brk, ς => .ok (.bk, ς)
  | .cnt, ς => .ok (.ct, ς)
  | .pas, ς => .ok (.nx, ς)
  | .nev, _ => .bad
  | .rai c fs es, ς => (evL P es ς).bind fun r => if fs.length = r.1.length then .ok (.ex c (fs.zip r.1).reverse, r.2) else .bad
  | .xc t k es, ς => (evA P es (P.io k) ς).bind fun r => (callX P k r.1 r.2).bind fun c => .ok (finX t c)
  | .xk t q es zs, ς => (kwG P q (evL P es) (evL P zs) ς).bind fun r => (callK P r.1 r.2.1 r.2.2).bind fun c => .ok (finX t c)
def evB (P : Pr) : List Sm → List Sl → R (Fl × List Sl)
  | [], ς => .ok (.nx, ς)
  | s :: ss, ς => (evS P s ς).bind fun r => match r.1 with
    | .nx => evB P ss r.2
    | _ => .ok r
end
/-- a def: how many parameters, how many slots, which parameters are the caller's objects, its body -/
structure Fn where
  np : Nat
  nl : Nat
  io : List Bool
  body : List Sm
  /-- the last parameter has a star -/
  st : Bool
def shrs : List Sl → Option (List D)
  | [] => some []
  | .shr d :: as => (shrs as).map (d :: ·)
  | _ :: _ => none
/-- what is left over becomes a tuple -/
def pack (f : Fn) (as : List Sl) : List Sl := bif f.st then match shrs (as.drop (f.np - 1)) with
  | some ds => if ds.length ≤ sizeLine ∧ f.np - 1 ≤ as.length then as.take (f.np - 1) ++ [.shr (.tup ds)] else []
  | none => [] else as
def outs (ς : List Sl) : Nat → List Bool → R (List D)
  | _, [] => .ok []
  | i, b :: bs => bif b then match ς[i]? with
    | some (.own true d) => (outs ς (i + 1) bs).bind fun r => .ok (d :: r)
    | _ => .bad else outs ς (i + 1) bs
def ioFit : List Bool → List Sl → Bool
  | _, [] => true
  | true :: io, .own true _ :: r => ioFit io r
  | true :: _, _ => false
  | io, .shr _ :: r => ioFit io.tail r
  | _, _ => false
def run (P : Pr) (f : Fn) (as : List Sl) : R (D × Bool × List D) :=
  if as.length = f.np ∧ f.np ≤ f.nl ∧ f.io.length ≤ f.np ∧ ioFit f.io as = true then (evB P f.body (as ++ List.replicate (f.nl - f.np) .no)).bind fun r => (outs r.2 0 f.io).bind fun o => match r.1 with
    | .rt d fr => .ok (d, fr, o)
    | .nx => .ok (.non, false, o)
    | _ => .bad else .bad
def runX (P : Pr) (f : Fn) (as : List Sl) : R (Nat × List (Str × D)) :=
  if as.length = f.np ∧ f.np ≤ f.nl ∧ f.io = [] ∧ ioFit f.io as = true then (evB P f.body (as ++ List.replicate (f.nl - f.np) .no)).bind fun r => match r.1 with
    | .ex c fs => .ok (c, fs)
    | _ => .bad else .bad
/-- what is given of a program beside its defs -/
structure Pz where
  cs : List D
  kw : List (Nat × List (Sum Nat D))
  hr : Nat → List (Str × D) → R D
  po : Nat → Bool
  rp : Bool
def Pz.low (z : Pz) : Pz := { z with rp := false }
/-- what each def does at a level: what it returns, what it raises -/
def prN (fs : List Fn) : Pz → Nat → Pr
  | z, 0 => ⟨z.cs, fun j => ((fs[j]?).map Fn.io).getD [], fun _ _ => .bad, fun _ _ => .bad, z.kw, z.hr, fun _ _ => .bad, fun _ _ => .bad, fun _ _ => .bad, fun _ _ => .bad, z.po, z.rp⟩
  | z, n + 1 => ⟨z.cs, fun j => ((fs[j]?).map Fn.io).getD [], fun k as => match fs[k]? with
    | some f => run (prN fs z n) f (pack f as)
    | none => .bad, fun k as => match fs[k]? with
    | some f => runX (prN fs z n) f (pack f as)
    | none => .bad, z.kw, z.hr, (prN fs z n).fn, (prN fs z n).fx, (prN fs z.low n).pv, (prN fs z.low n).px, z.po, z.rp⟩
def callN (fs : List Fn) (z : Pz) (n : Nat) : Nat → List Sl → R (D × Bool × List D) := (prN fs z n).fn
end Iq
set_option Elab.async false
set_option linter.all false
set_option maxRecDepth 100000
set_option maxHeartbeats 1000000
namespace Iq
open PySem L2

section
variable {X : Cx} {e : Expr}
theorem pimp {t t' : TE} (h : PE X e t) (i : ∀ σ H Q, t' σ H Q → t σ H Q) : PE X e t' := ⟨fun pins s σ H Q I q => h.run pins s σ H Q I (i σ H Q q)⟩
theorem timp {t t' : TT} (h : PT X e t) (i : ∀ σ H Q, t' σ H Q → t σ H Q) : PT X e t' := ⟨fun pins s σ H Q I q => h.run pins s σ H Q I (i σ H Q q)⟩
theorem por {t u : TE} (h : PE X e t) (k : PE X e u) : PE X e (fun σ H Q => t σ H Q ∨ u σ H Q) := ⟨fun pins s σ H Q I q => q.elim (h.run pins s σ H Q I) (k.run pins s σ H Q I)⟩
theorem oor {f : Value → Value → Sem Value} {r r' : R2} (h : OpR X f r) (k : OpR X f r') : OpR X f (fun x y H Q => r x y H Q ∨ r' x y H Q) := fun pins s σ H x y v u Q I rx ry q => q.elim (h pins s σ H x y v u Q I rx ry) (k pins s σ H x y v u Q I rx ry)
theorem oimp {f : Value → Value → Sem Value} {r r' : R2} (h : OpR X f r) (i : ∀ x y H Q, r' x y H Q → r x y H Q) : OpR X f r' := fun pins s σ H x y v u Q I rx ry q => h pins s σ H x y v u Q I rx ry (i _ _ _ _ q)
theorem cor {f : Value} {r r' : List V → Hp → VK → Prop} (h : CallR X f r) (k : CallR X f r') : CallR X f (fun x H Q => r x H Q ∨ r' x H Q) := fun pins s σ H x u Q I rx q => q.elim (h pins s σ H x u Q I rx) (k pins s σ H x u Q I rx)
theorem cimp {f : Value} {r r' : List V → Hp → VK → Prop} (h : CallR X f r) (i : ∀ x H Q, r' x H Q → r x H Q) : CallR X f r' := fun pins s σ H x u Q I rx q => h pins s σ H x u Q I rx (i _ _ _ q)
end

section
variable {Z : Zt} {F : Fm} {M M' : Mu} {σ : L2.St} {ς ς' : List Sl} {H H' H1 H2 : Hp} {d : D} {v : V}

/-- a value, or the object of a slot that owns it -/
def Pk (Z : Zt) (M : Mu) (H : Hp) (d : D) (v : V) : Prop := Rep Z M H d v ∨ ∃ a, v = .ref a ∧ Own Z M H a d
theorem Pk.non (h : Pk Z M H .non v) : v = .non := by
  rcases h with h | ⟨a, _, h⟩
  · simpa only [Rep] using h
  · exact h.elim
theorem Pk.bl {b : Bool} (h : Pk Z M H (.bl b) v) : v = .bl b := by
  rcases h with h | ⟨a, _, h⟩
  · simpa only [Rep] using h
  · exact h.elim
theorem Pk.int {i : Int} (h : Pk Z M H (.int i) v) : v = .int i := by
  rcases h with h | ⟨a, _, h⟩
  · simpa only [Rep] using h
  · exact h.elim
theorem Pk.str {x : Str} (h : Pk Z M H (.str x) v) : v = .str x := by
  rcases h with h | ⟨a, _, h⟩
  · simpa only [Rep] using h
  · exact h.elim
theorem Pk.fn {k : Nat} (h : Pk Z M H (.fn k) v) : v = .ref (Z.fa k) := by
  rcases h with h | ⟨a, _, h⟩
  · simpa only [Rep] using h
  · exact h.elim
theorem Pk.tup {ds : List D} (h : Pk Z M H (.tup ds) v) : ∃ a vs, v = .ref a ∧ Tu Z M H a vs ∧ RepL Z M H ds vs := by
  rcases h with h | ⟨a, _, h⟩
  · simpa only [Rep] using h
  · exact h.elim
theorem Pk.lst {ds : List D} (h : Pk Z M H (.lst ds) v) : ∃ a vs, v = .ref a ∧ Rd H a (.lst vs) ∧ RepL Z M H ds vs := by
  rcases h with h | ⟨a, e, vs, h, r⟩
  · simp only [Rep] at h
    obtain ⟨a, vs, e, l, r⟩ := h
    exact ⟨a, vs, e, l.1, r⟩
  · exact ⟨a, vs, e, .inl h, r⟩
theorem Pk.dic {kv : List (Key × D)} (h : Pk Z M H (.dic kv) v) : ∃ a kvs, v = .ref a ∧ (Rd H a (.dK kvs) ∨ Wd Z a kvs) ∧ RepK Z M H kv kvs := by
  rcases h with h | ⟨a, e, vs, h, r⟩
  · simp only [Rep] at h
    obtain ⟨a, vs, e, l, r⟩ := h
    exact ⟨a, vs, e, l.imp (·.1) id, r⟩
  · exact ⟨a, vs, e, .inl (.inl h), r⟩
theorem Rep.pk (h : Rep Z M H d v) : Pk Z M H d v := .inl h

/-- what an operation leaves: a value that was there, or a new object -/
inductive Mk (Z : Zt) (M : Mu) (H : Hp) : D → Bool → V → Hp → Prop
  | same {d : D} {v : V} : Rep Z M H d v → Mk Z M H d false v H
  | tup {p : Addr} {ds : List D} {vs : List V} : H p = none → RepL Z M H ds vs → Mk Z M H (.tup ds) false (.ref p) (upd H p (.tup vs))
  | lst {p : Addr} {ds : List D} {vs : List V} {fr : Bool} : H p = none → RepL Z M H ds vs → Mk Z M H (.lst ds) fr (.ref p) (upd H p (.lst vs))
  | dic {p : Addr} {ds : List (Key × D)} {vs : List (Key × V)} {fr : Bool} : H p = none → RepK Z M H ds vs → Mk Z M H (.dic ds) fr (.ref p) (upd H p (.dK vs))

/-- the objects that slots own -/
def OwnS (σ : L2.St) (ς : List Sl) (a : Addr) : Prop := ∃ (i : Nat) (b : Bool) (d : D), ς[i]? = some (.own b d) ∧ σ[i]? = some (some (.ref a))
/-- how a state goes on: M loses owned objects alone, owned objects alone change, what is free was free -/
structure Nxt (Z : Zt) (F : Fm) (M : Mu) (σ : L2.St) (ς : List Sl) (H : Hp) (M' : Mu) (ς' : List Sl) (H' : Hp) : Prop where
  l : ∀ a, M' a → M a
  k : ∀ a, M a → ¬ OwnS σ ς a → M' a
  o : ∀ a, OwnS σ ς' a → OwnS σ ς a
  m : ∀ a, OwnS σ ς a → M a
  e : Evo (OwnS σ ς) H H'
  f : ∀ p, Nf H' p → Nf H p
  S : Sim Z F M' σ ς' H'
theorem Nxt.em {ς' : List Sl} (n : Nxt Z F M σ ς H M' ς' H') : Evo M H H' := n.e.less n.m
/-- behind an expression -/
def Aft (Z : Zt) (F : Fm) (M : Mu) (σ : L2.St) (ς ς' : List Sl) (H H' : Hp) (d : D) (fr : Bool) (v : V) : Prop :=
  ∃ M' : Mu, Nxt Z F M σ ς H M' ς' H' ∧ Rep Z M' H' d v ∧ (fr = true → ∃ p, v = .ref p ∧ Nf H p ∧ Sim Z F (ins M' p) σ ς' H' ∧ Own Z (ins M' p) H' p d)
theorem upd_free {p : Addr} {o : HO} (h : H p = none) : ∀ q, Nf (upd H p o) q → Nf H q := fun q z u e => z u (by rw [upd_ne (ne_of_none e h)]; exact e)
theorem Nxt.new {p : Addr} {o : HO} (n : Nxt Z F M σ ς H M' ς' H') (h : H' p = none) (ho : ∀ ps, o ≠ .tbl ps := by intro _ h; cases h) : Nxt Z F M σ ς H M' ς' (upd H' p o) := ⟨n.l, n.k, n.o, n.m, n.e.trans (Evo.new h), fun q z => n.f q (upd_free h q z), n.S.new h ho⟩
theorem Mk.aft {fr : Bool} (k : Mk Z M' H1 d fr v H2) (n : Nxt Z F M σ ς H M' ς' H1) : Aft Z F M σ ς ς' H H2 d fr v := by
  have S := n.S
  cases k with
  | same r => exact ⟨M', n, r, fun q => by cases q⟩
  | @tup p ds vs h r =>
    refine ⟨M', n.new h, ?_, fun q => by cases q⟩
    simp only [Rep]
    exact ⟨p, vs, rfl, .new upd_same (S.nM (.of h)), RepL.carry (.evo (.new h)) _ _ r⟩
  | @lst p ds vs _ h r =>
    refine ⟨M', n.new h, ?_, fun q => ⟨p, rfl, n.f p (.of h), S.newM h, vs, upd_same, RepL.carry (.trans (.ins (.of h)) (.evo (.new h))) _ _ r⟩⟩
    simp only [Rep]
    exact ⟨p, vs, rfl, .new upd_same (S.nM (.of h)), RepL.carry (.evo (.new h)) _ _ r⟩
  | @dic p ds vs _ h r =>
    refine ⟨M', n.new h, ?_, fun q => ⟨p, rfl, n.f p (.of h), S.newM h, vs, upd_same, RepK.carry (.trans (.ins (.of h)) (.evo (.new h))) _ _ r⟩⟩
    simp only [Rep]
    exact ⟨p, vs, rfl, .inl ⟨.inl upd_same, S.nM (.of h)⟩, RepK.carry (.evo (.new h)) _ _ r⟩

/-- an expression's reading by its meaning -/
def rdE (Z : Zt) (F : Fm) (f : List Sl → R (D × Bool × List Sl)) : TE := fun σ H Q =>
  ∃ (M : Mu) (ς : List Sl) (d : D) (fr : Bool) (ς' : List Sl), Sim Z F M σ ς H ∧ f ς = .ok (d, fr, ς') ∧ ∀ v H', Aft Z F M σ ς ς' H H' d fr v → Q v H'
/-- an operand's value -/
def HdV (Z : Zt) (M : Mu) (σ : L2.St) (H : Hp) : Hd → V → Prop
  | .val d, v => Rep Z M H d v
  | .sl i, v => σ[i]? = some (some v)
theorem Nxt.carry (n : Nxt Z F M σ ς H M' ς' H') : Carry Z M H M' H' := .trans (.evo n.em) (.less n.l)
theorem Nxt.rep (n : Nxt Z F M σ ς H M' ς' H') (h : Rep Z M H d v) : Rep Z M' H' d v := Rep.carry n.carry _ _ h
theorem Nxt.repL {ds : List D} {vs : List V} (n : Nxt Z F M σ ς H M' ς' H') (h : RepL Z M H ds vs) : RepL Z M' H' ds vs := RepL.carry n.carry _ _ h
theorem Nxt.hdv {h : Hd} (n : Nxt Z F M σ ς H M' ς' H') (q : HdV Z M σ H h v) : HdV Z M' σ H' h v := by
  cases h with
  | val d => exact n.rep q
  | sl i => exact q
theorem Sim.owns (S : Sim Z F M σ ς H) : ∀ a, OwnS σ ς a → M a := fun a ⟨i, b, d, h1, h2⟩ => by
  obtain ⟨a', h3, h4, _⟩ := S.own i b d h1
  rw [h2] at h3; cases h3; exact h4
theorem Nxt.refl (S : Sim Z F M σ ς H) : Nxt Z F M σ ς H M ς H := ⟨fun _ h => h, fun _ h _ => h, fun _ h => h, S.owns, .refl _ _, fun _ h => h, S⟩
theorem Nxt.trans {M1 M2 : Mu} {ς1 ς2 : List Sl} (a : Nxt Z F M σ ς H M1 ς1 H1) (b : Nxt Z F M1 σ ς1 H1 M2 ς2 H2) : Nxt Z F M σ ς H M2 ς2 H2 :=
  ⟨fun x h => a.l x (b.l x h), fun x h q => b.k x (a.k x h q) fun z => q (a.o x z), fun x h => a.o x (b.o x h), a.m, a.e.trans (b.e.less a.o), fun p h => a.f p (b.f p h), b.S⟩
def rdH (Z : Zt) (F : Fm) (f : List Sl → R (Hd × List Sl)) : TE := fun σ H Q =>
  ∃ (M : Mu) (ς : List Sl) (h : Hd) (ς' : List Sl), Sim Z F M σ ς H ∧ f ς = .ok (h, ς') ∧ ∀ v H' M', Nxt Z F M σ ς H M' ς' H' → HdV Z M' σ H' h v → Q v H'
theorem deref_pk {h : Hd} (S : Sim Z F M σ ς H) (q : HdV Z M σ H h v) (e : deref ς h = .ok d) : Pk Z M H d v := by
  cases h with
  | val x => cases e; exact .inl q
  | sl i =>
    simp only [deref] at e
    have q : σ[i]? = some (some v) := q
    split at e
    · cases e
      rename_i b hb
      obtain ⟨a, h1, _, _, h4⟩ := S.own _ _ _ hb
      rw [q] at h1; cases h1
      exact .inr ⟨a, rfl, h4⟩
    · cases e
      rename_i hb
      obtain ⟨u, h1, h2⟩ := S.shr _ _ hb
      rw [q] at h1; cases h1
      exact .inl h2
    · cases e

/-! ### operands and values -/
theorem rdH_of {f : List Sl → R (D × Bool × List Sl)} {Q : VK} (h : rdH Z F (fun ς => (f ς).bind fun r => .ok (.val r.1, r.2.2)) σ H Q) : rdE Z F f σ H Q := by
  obtain ⟨M, ς, g, ς', S, e, k⟩ := h
  obtain ⟨⟨d, fr, ς1⟩, e1, e2⟩ := R.bind_is e
  cases e2
  exact ⟨M, ς, d, fr, ς1, S, e1, fun v H' ⟨M', n, r, _⟩ => k v H' M' n r⟩
/-- two operands, from the left -/
theorem two {f g : List Sl → R (Hd × List Sl)} {h k : Hd × List Sl} {Q : V → V → Hp → Prop} (S : Sim Z F M σ ς H) (e1 : f ς = .ok h) (e2 : g h.2 = .ok k)
    (q : ∀ v u H' M', Nxt Z F M σ ς H M' k.2 H' → HdV Z M' σ H' h.1 v → HdV Z M' σ H' k.1 u → Q v u H') : rdH Z F f σ H fun v H1 => rdH Z F g σ H1 fun u H2 => Q v u H2 :=
  ⟨M, ς, h.1, h.2, S, e1, fun v H1 M1 n1 r1 => ⟨M1, h.2, k.1, k.2, n1.S, e2, fun u H2 M2 n2 r2 => q v u H2 M2 (n1.trans n2) (n2.hdv r1) r2⟩⟩

/-- a row of values; a test -/
def rdL (Z : Zt) (F : Fm) (f : List Sl → R (List D × List Sl)) : TA := fun σ H Q =>
  ∃ (M : Mu) (ς : List Sl) (ds : List D) (ς' : List Sl), Sim Z F M σ ς H ∧ f ς = .ok (ds, ς') ∧ ∀ vs H' M', Nxt Z F M σ ς H M' ς' H' → RepL Z M' H' ds vs → Q vs H'
def rdT (Z : Zt) (F : Fm) (f : List Sl → R (Bool × List Sl)) : TT := fun σ H Q =>
  ∃ (M : Mu) (ς : List Sl) (b : Bool) (ς' : List Sl), Sim Z F M σ ς H ∧ f ς = .ok (b, ς') ∧ ∀ H' M', Nxt Z F M σ ς H M' ς' H' → Q b H'
def HdVs (Z : Zt) (M : Mu) (σ : L2.St) (H : Hp) : List Hd → List V → Prop
  | [], vs => vs = []
  | h :: hs, vs => ∃ v r, vs = v :: r ∧ HdV Z M σ H h v ∧ HdVs Z M σ H hs r
theorem Nxt.hdvs (n : Nxt Z F M σ ς H M' ς' H') : ∀ {hs : List Hd} {vs : List V}, HdVs Z M σ H hs vs → HdVs Z M' σ H' hs vs
  | [], _, h => h
  | h :: hs, _, ⟨v, r, e, h1, h2⟩ => ⟨v, r, e, n.hdv h1, n.hdvs h2⟩
def rdA (Z : Zt) (F : Fm) (f : List Sl → R (List Hd × List Sl)) : TA := fun σ H Q =>
  ∃ (M : Mu) (ς : List Sl) (hs : List Hd) (ς' : List Sl), Sim Z F M σ ς H ∧ f ς = .ok (hs, ς') ∧ ∀ vs H' M', Nxt Z F M σ ς H M' ς' H' → HdVs Z M' σ H' hs vs → Q vs H'
def rdO (Z : Zt) (F : Fm) (f : List Sl → R (Option Int × List Sl)) : TO := fun σ H Q =>
  ∃ (M : Mu) (ς : List Sl) (o : Option Int) (ς' : List Sl), Sim Z F M σ ς H ∧ f ς = .ok (o, ς') ∧ ∀ H' M', Nxt Z F M σ ς H M' ς' H' → Q o H'

/-- a slot's own object is read: it is shared from now on -/
theorem Sim.freeze {i : Nat} {d : D} (S : Sim Z F M σ ς H) (h : ς[i]? = some (.own false d)) :
    ∃ a M', σ[i]? = some (some (.ref a)) ∧ Nxt Z F M σ ς H M' (ς.set i (.shr d)) H ∧ Rep Z M' H d (.ref a) := by
  obtain ⟨a, h1, h2, h3, h4⟩ := S.own i _ d h
  have hi : i < ς.length := (List.getElem?_eq_some_iff.mp h).1
  have L : ∀ b, (M b ∧ b ≠ a) → M b := fun b h => h.1
  have c : Carry Z M H (fun b => M b ∧ b ≠ a) H := .less L
  have ne : ∀ (j : Nat) b e, (ς.set i (.shr d))[j]? = some (.own b e) → i ≠ j ∧ ς[j]? = some (.own b e) := fun j b e q => by
    by_cases ij : i = j
    · subst ij
      rw [List.getElem?_set_self hi] at q; cases q
    · rw [List.getElem?_set_ne ij] at q; exact ⟨ij, q⟩
  have hr : Rep Z (fun b => M b ∧ b ≠ a) H d (.ref a) := Own.rep (fun q => q.2 rfl) (h4.carry c rfl)
  refine ⟨a, fun b => M b ∧ b ≠ a, h1, ⟨L, fun b q n => ⟨q, fun e => n ⟨i, false, d, h, by rw [e]; exact h1⟩⟩, fun b ⟨j, x, y, q1, q2⟩ => ⟨j, x, y, (ne j x y q1).2, q2⟩, S.owns, .refl _ _, fun _ q => q, ?_⟩, hr⟩
  refine ⟨by rw [List.length_set]; exact S.len, fun j e q => ?_, fun j b e q => ?_, fun j k b e b' e' x jk q1 q2 q3 => ?_, S.old, fun b q => S.dom b q.1, fun b q => ⟨S.sup b q, ?_⟩, S.wm, S.dm0, S.tab⟩
  · by_cases ij : i = j
    · subst ij
      rw [List.getElem?_set_self hi] at q; cases q
      exact ⟨_, h1, hr⟩
    · rw [List.getElem?_set_ne ij] at q
      obtain ⟨v, q1, q2⟩ := S.shr j e q
      exact ⟨v, q1, Rep.carry c _ _ q2⟩
  · obtain ⟨ij, q'⟩ := ne j b e q
    obtain ⟨a', q1, q2, q3, q4⟩ := S.own j b e q'
    refine ⟨a', q1, ⟨q2, fun z => ?_⟩, q3, q4.carry c rfl⟩
    subst z
    exact S.sep i j _ _ _ _ _ ij h q' h1 q1
  · exact S.sep j k _ _ _ _ x jk (ne j _ _ q1).2 (ne k _ _ q2).2 q3
  · rintro rfl
    exact S.dm0 b q h3

/-- an object that is nobody's, but no value's either, changes -/
theorem Sim.poke {p : Addr} {o u : HO} (S : Sim Z F M σ ς H) (hm : M p) (hn : ¬ OwnS σ ς p) (h0 : Nf F.H0 p) (hu : H p = some u) (pu : Pl u) (po : Pl o) : Sim Z F M σ ς (upd H p o) := by
  have cr : Carry Z M H M (upd H p o) := .evo <| .of fun a u na q => by rw [upd_ne (fun z => na (by rw [z]; exact hm))]; exact q
  refine ⟨S.len, fun i d h => let ⟨v, h1, h2⟩ := S.shr i d h; ⟨v, h1, Rep.carry cr _ _ h2⟩, fun i b d h => ?_, S.sep, fun a u h w t => ?_, fun a h => ?_, S.sup, S.wm, S.dm0, S.tab.put hu pu.t pu.e⟩
  · obtain ⟨a, h1, h2, h3, h4⟩ := S.own i b d h
    exact ⟨a, h1, h2, h3, h4.carry cr (upd_ne fun z => hn ⟨i, b, d, h, by rw [← z]; exact h1⟩)⟩
  · rw [upd_ne fun z => by subst z; exact h0.no h t]
    exact S.old a u h w t
  · by_cases z : a = p
    · rw [z]; exact nf_not upd_same po.t
    · exact fun q => S.dom a h fun v e => q v (by rw [upd_ne z]; exact e)
theorem Sim.drop {p : Addr} (S : Sim Z F M σ ς H) (hn : ¬ OwnS σ ς p) (h0 : Nf F.H0 p) : Sim Z F (fun a => M a ∧ a ≠ p) σ ς H := by
  have cr : Carry Z M H (fun a => M a ∧ a ≠ p) H := .less fun a h => h.1
  refine ⟨S.len, fun i d h => let ⟨v, h1, h2⟩ := S.shr i d h; ⟨v, h1, Rep.carry cr _ _ h2⟩, fun i b d h => ?_, S.sep, S.old, fun a h => S.dom a h.1, fun a h => ⟨S.sup a h, fun z => ?_⟩, S.wm, S.dm0, S.tab⟩
  · obtain ⟨a, h1, h2, h3, h4⟩ := S.own i b d h
    exact ⟨a, h1, ⟨h2, fun z => hn ⟨i, b, d, h, by rw [← z]; exact h1⟩⟩, h3, h4.carry cr rfl⟩
  · subst z
    exact S.dm0 a h h0
theorem ins_drop {M2 : Mu} {p : Addr} (h : M2 p) : ins (fun a => M2 a ∧ a ≠ p) p = M2 := by
  funext a
  refine propext ⟨fun q => q.elim (·.1) fun z => by rw [z]; exact h, fun q => ?_⟩
  by_cases z : a = p
  · exact .inr z
  · exact .inl ⟨q, z⟩
/-- a new object p stood by while other things were made; now it is filled -/
structure Made (Z : Zt) (F : Fm) (M : Mu) (σ : L2.St) (ς : List Sl) (H : Hp) (p : Addr) (o2 : HO) (M2 : Mu) (ς' : List Sl) (H2 : Hp) : Prop where
  n : Nxt Z F M σ ς H (fun a => M2 a ∧ a ≠ p) ς' (upd H2 p o2)
  S : Sim Z F (ins (fun a => M2 a ∧ a ≠ p) p) σ ς' (upd H2 p o2)
  c : Carry Z M2 H2 (fun a => M2 a ∧ a ≠ p) (upd H2 p o2)
  d : Carry Z M2 H2 (ins (fun a => M2 a ∧ a ≠ p) p) (upd H2 p o2)
theorem made {p : Addr} {o1 o2 : HO} {M2 : Mu} (S : Sim Z F M σ ς H) (hp : H p = none) (n : Nxt Z F (ins M p) σ ς (upd H p o1) M2 ς' H2) (p1 : Pl o1 := by trivial) (p2 : Pl o2 := by trivial) : H2 p = some o1 ∧ Made Z F M σ ς H p o2 M2 ς' H2 := by
  have hO : ¬ OwnS σ ς p := fun q => S.nM (.of hp) (S.owns p q)
  have hO2 : ¬ OwnS σ ς' p := fun q => hO (n.o p q)
  have h0 : Nf F.H0 p := S.n0 (.of hp)
  have hM : M2 p := n.k p (.inr rfl) hO
  have at2 : H2 p = some o1 := n.e.at hO upd_same p1.t
  have cr : Carry Z M2 H2 M2 (upd H2 p o2) := .evo <| .of fun a u na q => by rw [upd_ne (fun z => na (by rw [z]; exact hM))]; exact q
  have S2 : Sim Z F M2 σ ς' (upd H2 p o2) := n.S.poke hM hO2 h0 at2 p1 p2
  refine ⟨at2, ⟨⟨fun a h => (n.l a h.1).elim id fun z => absurd z h.2, fun a h q => ⟨n.k a (.inl h) q, fun z => S.nM (.of hp) (by rw [← z]; exact h)⟩, n.o, S.owns, fun a o na q t => ?_, fun q h => ?_, S2.drop hO2 h0⟩, by rw [ins_drop hM]; exact S2, .trans cr (.less fun a h => h.1), by rw [ins_drop hM]; exact cr⟩⟩
  · have ne := ne_of_none q hp
    rw [upd_ne ne]
    exact n.e a o na (by rw [upd_ne ne]; exact q) t
  · by_cases z : q = p
    · rw [z]; exact .of hp
    · exact upd_free hp q (n.f q fun v e => h v (by rw [upd_ne z]; exact e))
end
end Iq
set_option Elab.async false
set_option linter.all false
set_option maxRecDepth 100000
set_option maxHeartbeats 1000000
namespace Iq
open PySem L2

abbrev zt (X : Cx) (fa : Fa) : Zt := .mk' X.w X.K X.mg fa

/-! ### what is written stays short -/
section
variable {X : Cx} {fa : Fa} {M : Mu} {H : Hp}

theorem rep_int {Z : Zt} {i : Int} : Rep Z M H (.int i) (.int i) := by simp only [Rep]
theorem rep_bl {Z : Zt} {b : Bool} : Rep Z M H (.bl b) (.bl b) := by simp only [Rep]
theorem rep_str {Z : Zt} {x : Str} : Rep Z M H (.str x) (.str x) := by simp only [Rep]
theorem rep_non {Z : Zt} : Rep Z M H .non .non := by simp only [Rep]

/-- lists tracked in H, both -/
theorem op_catL : OpR X (binaryOp .Add) (fun x y H Q => ∃ l b xs zs, x = .ref l ∧ y = .ref b ∧ Rd H l (.lst xs) ∧ Rd H b (.lst zs) ∧ xs.length + zs.length ≤ sizeLine ∧ ∀ p, H p = none → Q (.ref p) (upd H p (.lst (xs ++ zs)))) := by
  intro pins s σ H x y v u Q I rx ry h
  obtain ⟨l, b, xs, zs, rfl, rfl, hH, hB, hz, q⟩ := h
  cases rx
  cases ry
  obtain ⟨z, its, n, r, e⟩ := hH.ok I.hok
  obtain ⟨z2, its2, n2, r2, e2⟩ := hB.ok I.hok
  have hl := r.length
  have hl2 := r2.length
  refine PySem.P.add_list e e2 ?_ (by rw [List.size_toArray, List.size_toArray]; omega)
  have ea : its.toArray ++ its2.toArray = (its ++ its2).toArray := by simp
  rw [ea]
  have hn : H s.heap.objs.size = none := I.hok.fresh (Nat.le_refl _)
  exact ⟨.ref s.heap.objs.size, _, I.laid (a := s.heap.objs.size) (o := .lst (xs ++ zs)) (t' := s.toks) (fun _ _ q => Heap.get?_push_of_some _ q) (Nat.le_refl _)
    ⟨by rw [List.length_append]; exact hz, its ++ its2, _, r.append r2, Heap.get?_push_size _ rfl⟩, rfl, q _ hn⟩
/-- text * int -/
theorem op_mulS : OpR X (binaryOp .Mult) (fun x y H Q => ∃ a j, x = .str a ∧ y = .int j ∧ 0 ≤ j ∧ j ≤ 1000 ∧ a.length ≤ 1000 ∧ Q (.str (Txt.mul a j)) H) := by
  intro pins s σ H x y v u Q I rx ry h
  obtain ⟨a, j, rfl, rfl, h0, h1, h2, q⟩ := h
  obtain ⟨t, rfl⟩ := rx
  obtain ⟨t', rfl⟩ := ry
  refine PySem.SB.mul ⟨?_, fun h3 _ => ?_, fun _ _ => ?_⟩ fun t' k => ⟨.str (Txt.mul a j), H, I.tok k, ⟨_, rfl⟩, q⟩
  · have a1 : ¬ j < -(2 ^ 63 : Int) := by omega
    have a2 : ¬ j ≥ 2 ^ 63 := by omega
    rw [decide_eq_false a1, decide_eq_false a2]; rfl
  · have h5 : (1000 : Int) * j ≤ 2 ^ 63 - 1 := by omega
    have h6 : (1000 : Int) ≤ (2 ^ 63 - 1) / j := (Int.le_ediv_iff_mul_le (by omega)).mpr h5
    omega
  · have h7 : a.length * j.toNat ≤ 1000 * 1000 := Nat.mul_le_mul h2 (by omega)
    have h8 : sizeLine = 16777216 := sizeLine_eq
    exact decide_eq_false (by omega)

def rBin (Z : Zt) (op : Operator) : R2 := fun x y H Q => ∃ M d1 d2 o, Pk Z M H d1 x ∧ Pk Z M H d2 y ∧ binD op d1 d2 = .ok o ∧ ∀ v H', Mk Z M H o.1 o.2 v H' → Q v H'
theorem op_bin (op : Operator) : OpR X (binaryOp op) (rBin (zt X fa) op) := by
  intro pins s σ H x y v u Q I rx ry h
  obtain ⟨M, d1, d2, o, h1, h2, e, k⟩ := h
  unfold binD at e
  split at e
  · cases e; cases h1.int; cases h2.int
    exact op_add pins s σ H _ _ v u Q I rx ry ⟨_, _, rfl, rfl, k _ _ (.same rep_int)⟩
  · split at e
    · cases e; cases h1.str; cases h2.str
      exact op_add_str pins s σ H _ _ v u Q I rx ry ⟨_, _, rfl, rfl, by assumption, k _ _ (.same rep_str)⟩
    · cases e
  · split at e
    · rename_i hz
      cases e
      obtain ⟨a, xs, rfl, t1, r1⟩ := h1.tup
      obtain ⟨b, ys, rfl, t2, r2⟩ := h2.tup
      have l1 := r1.length
      have l2 := r2.length
      refine op_catA pins s σ H _ _ v u Q I rx ry ⟨a, b, xs, ys, rfl, rfl, t1.sq, t2.sq, by omega, fun e => ?_, fun _ e => ?_, fun _ _ p hp => k _ _ (.tup hp (r1.append r2))⟩
      · subst e
        rename_i as bs
        cases as with
        | nil => refine k _ _ (.same ?_); simp only [List.nil_append, Rep]; exact ⟨b, ys, rfl, t2, r2⟩
        | cons _ _ => cases l1
      · subst e
        rename_i as bs _
        cases bs with
        | nil => refine k _ _ (.same ?_); simp only [List.append_nil, Rep]; exact ⟨a, xs, rfl, t1, r1⟩
        | cons _ _ => cases l2
    · cases e
  · split at e
    · rename_i hz
      cases e
      obtain ⟨a, xs, rfl, t1, r1⟩ := h1.lst
      obtain ⟨b, ys, rfl, t2, r2⟩ := h2.lst
      have l1 := r1.length
      have l2 := r2.length
      exact op_catL pins s σ H _ _ v u Q I rx ry ⟨a, b, xs, ys, rfl, rfl, t1, t2, by omega, fun p hp => k _ _ (.lst hp (r1.append r2))⟩
    · cases e
  · cases e; cases h1.int; cases h2.int
    exact op_sub pins s σ H _ _ v u Q I rx ry ⟨_, _, rfl, rfl, k _ _ (.same rep_int)⟩
  · split at e
    · rename_i hz
      cases e; cases h1.int; cases h2.int
      refine op_mul pins s σ H _ _ v u Q I rx ry ⟨_, _, rfl, rfl, ?_, k _ _ (.same rep_int)⟩
      simp only [Bool.or_eq_true, Bool.and_eq_true, decide_eq_true_eq] at hz
      exact hz
    · cases e
  · split at e
    · rename_i hz
      cases e; cases h1.str; cases h2.int
      exact op_mulS pins s σ H _ _ v u Q I rx ry ⟨_, _, rfl, rfl, hz.1, hz.2.1, hz.2.2, k _ _ (.same rep_str)⟩
    · cases e
  · split at e
    · rename_i hz
      cases e; cases h1.int; cases h2.int
      exact op_fdiv pins s σ H _ _ v u Q I rx ry ⟨_, _, rfl, rfl, hz, k _ _ (.same rep_int)⟩
    · cases e
  · split at e
    · rename_i hz
      cases e; cases h1.int; cases h2.int
      exact op_mod pins s σ H _ _ v u Q I rx ry ⟨_, _, rfl, rfl, hz, k _ _ (.same rep_int)⟩
    · cases e
  · split at e
    · rename_i hz
      cases e; cases h1.int; cases h2.int
      exact op_pow pins s σ H _ _ v u Q I rx ry ⟨_, _, rfl, rfl, hz, k _ _ (.same rep_int)⟩
    · cases e
  · cases e

/-! ### comparisons -/
mutual
theorem dp_of {Z : Zt} : ∀ (d : D) (v : V) (p : PyData), Rep Z M H d v → d.py = some p → Dp Z.K H v p
  | .non, v, p, h, e => by simp only [Rep] at h; simp only [D.py] at e; cases e; subst h; exact .non
  | .bl b, v, p, h, e => by simp only [Rep] at h; simp only [D.py] at e; cases e; subst h; exact .bl b
  | .int b, v, p, h, e => by simp only [Rep] at h; simp only [D.py] at e; cases e; subst h; exact .int b
  | .str b, v, p, h, e => by simp only [Rep] at h; simp only [D.py] at e; cases e; subst h; exact .str b
  | .tup ds, v, p, h, e => by
    simp only [Rep] at h
    simp only [D.py, Option.map_eq_some_iff] at e
    obtain ⟨ps, e, rfl⟩ := e
    obtain ⟨a, vs, rfl, t, r⟩ := h
    exact .tup t.sq (dp_ofL ds vs ps r e)
  | .lst ds, v, p, h, e => by
    simp only [Rep] at h
    simp only [D.py, Option.map_eq_some_iff] at e
    obtain ⟨ps, e, rfl⟩ := e
    obtain ⟨a, vs, rfl, t, r⟩ := h
    exact .lst t.sq (dp_ofL ds vs ps r e)
  | .dic _, v, p, h, e => by simp only [D.py] at e; cases e
  | .fn _, v, p, h, e => by simp only [D.py] at e; cases e
theorem dp_ofL {Z : Zt} : ∀ (ds : List D) (vs : List V) (ps : List PyData), RepL Z M H ds vs → D.pyL ds = some ps → DpAll Z.K H vs ps
  | [], vs, ps, h, e => by simp only [RepL] at h; simp only [D.pyL] at e; cases e; subst h; exact .nil
  | d :: ds, vs, ps, h, e => by
    simp only [RepL] at h
    obtain ⟨v, r, rfl, h1, h2⟩ := h
    simp only [D.pyL] at e
    split at e
    · cases e
      exact .cons (dp_of d v _ h1 (by assumption)) (dp_ofL ds r _ h2 (by assumption))
    · cases e
end
theorem dp_pk {Z : Zt} {d : D} {v : V} {p : PyData} (h : Pk Z M H d v) (e : d.py = some p) : Dp Z.K H v p := by
  rcases h with h | ⟨a, rfl, h⟩
  · exact dp_of d v p h e
  · cases d with
    | lst ds =>
      obtain ⟨vs, hv, r⟩ := h
      simp only [D.py, Option.map_eq_some_iff] at e
      obtain ⟨ps, e, rfl⟩ := e
      exact .lst (.of hv) (dp_ofL ds vs ps r e)
    | dic _ => simp only [D.py] at e; cases e
    | _ => exact h.elim
theorem flat_of {Z : Zt} {d : D} {v x : V} (h : Rep Z M H d v) (e : flat d = some x) : v = x ∧ flatV x = true := by
  cases d <;> simp only [flat] at e <;> cases e <;> simp only [Rep] at h <;> exact ⟨h, rfl⟩
theorem flats_of {Z : Zt} : ∀ {ds : List D} {vs xs : List V}, RepL Z M H ds vs → flats ds = some xs → vs = xs ∧ xs.all flatV = true
  | [], _, _, h, e => by simp only [RepL] at h; simp only [flats] at e; cases e; exact ⟨h, rfl⟩
  | d :: ds, vs, xs, h, e => by
    simp only [RepL] at h
    obtain ⟨v, r, rfl, h1, h2⟩ := h
    simp only [flats] at e
    split at e
    · cases e
      obtain ⟨rfl, f1⟩ := flat_of h1 (by assumption)
      obtain ⟨rfl, f2⟩ := flats_of h2 (by assumption)
      exact ⟨rfl, by simp [f1, f2]⟩
    · cases e
theorem flat_pk {Z : Zt} {d : D} {v x : V} (h : Pk Z M H d v) (e : flat d = some x) : v = x ∧ flatV x = true := by
  rcases h with h | ⟨a, rfl, h⟩
  · exact flat_of h e
  · cases d <;> simp only [flat] at e <;> first | exact h.elim | cases e
theorem repK_val {Z : Zt} {k : Key} : ∀ {kv : List (Key × D)} {kvs : List (Key × V)}, RepK Z M H kv kvs → (∀ d, valD kv k = some d → ∃ v, valV kvs k = some v ∧ Rep Z M H d v) ∧ (valD kv k = none → valV kvs k = none)
  | [], _, h => by simp only [RepK] at h; subst h; exact ⟨fun d e => by simp [valD] at e, fun _ => rfl⟩
  | (k0, d0) :: kv, kvs, h => by
    simp only [RepK] at h
    obtain ⟨v, r, rfl, h1, h2⟩ := h
    obtain ⟨i1, i2⟩ := repK_val h2
    by_cases e : k0 = k
    · have e1 : valD ((k0, d0) :: kv) k = some d0 := by simp [valD, List.find?_cons, e]
      rw [e1, valV_pos (p := (k0, v)) e]
      exact ⟨fun d q => by cases q; exact ⟨v, rfl, h1⟩, fun q => by cases q⟩
    · have e1 : valD ((k0, d0) :: kv) k = valD kv k := by simp [valD, List.find?_cons, e]
      rw [e1, valV_neg (p := (k0, v)) e]
      exact ⟨i1, i2⟩
theorem repK_some {Z : Zt} {k : Key} {kv : List (Key × D)} {kvs : List (Key × V)} (h : RepK Z M H kv kvs) : (valV kvs k).isSome = (valD kv k).isSome := by
  obtain ⟨h1, h2⟩ := repK_val (k := k) h
  cases e : valD kv k with
  | none => rw [h2 e]; rfl
  | some d => obtain ⟨v, e', _⟩ := h1 d e; rw [e']; rfl
theorem key_pk {Z : Zt} {d : D} {v : V} {k : Key} (h : Pk Z M H d v) (e : keyOf d = some k) : v = kV k := by
  cases d with
  | int i => simp only [keyOf] at e; cases e; exact h.int
  | str i => simp only [keyOf] at e; cases e; exact h.str
  | _ => simp only [keyOf] at e; cases e
theorem wd_key {Z : Zt} {a : Addr} {k : Key} {kv : List (Key × D)} {kvs : List (Key × V)} (w : Wd Z a kvs) (r : RepK Z M H kv kvs) (f : keyFit kv k = true) : ∃ z, k = Sum.inr z := by
  cases k with
  | inr z => exact ⟨z, rfl⟩
  | inl i =>
    obtain ⟨_, _, _, _, x, v, q, rfl⟩ := w
    cases kv with
    | nil => simp only [RepK] at r; cases r
    | cons p kv =>
      obtain ⟨k, d⟩ := p
      simp only [RepK] at r
      obtain ⟨_, _, e, _⟩ := r
      cases e
      simp [keyFit] at f
theorem op_inK (hu : X.A.units + 64 < cLine) : OpR X (compareOp .In) (fun x y H Q => ∃ M d1 kv t, Pk (zt X fa) M H d1 x ∧ Pk (zt X fa) M H (.dic kv) y ∧ inD d1 (.dic kv) = .ok t ∧ Q (.bl t) H) := by
  intro pins s σ H x y v u Q I rx ry h
  obtain ⟨M, d1, kv, t, h1, h2, e, q⟩ := h
  obtain ⟨a, kvs, rfl, hd, r⟩ := h2.dic
  simp only [inD] at e
  split at e
  · rename_i k hk
    cases hf : keyFit kv k <;> rw [hf] at e
    · cases e
    · cases e
      obtain rfl := key_pk h1 hk
      rcases hd with hd | hd
      · obtain rfl : u = Value.ref a := ry
        refine d_in (by omega) I ((.inl ⟨_, _, hd, rfl, rfl⟩ : DGet _ _ _ _)) rx fun s' I' => ⟨.bl _, H, I', rfl, ?_⟩
        rw [repK_some r]; exact q
      · obtain ⟨z, rfl⟩ := wd_key hd r hf
        obtain ⟨es, n, kd, hr, _⟩ := hd
        obtain ⟨o, ho, hrel⟩ := hr z
        refine op_in_kd kd pins s σ H _ _ v u Q I rx ry ⟨z, o, rfl, rfl, ho, ?_⟩
        rw [← repK_some r] at q
        cases e1 : valV kvs (Sum.inr z) <;> cases o <;> rw [e1] at hrel q <;> first | exact q | exact hrel.elim
  · cases e
theorem op_notInK (hu : X.A.units + 64 < cLine) : OpR X (compareOp .NotIn) (fun x y H Q => ∃ M d1 kv t, Pk (zt X fa) M H d1 x ∧ Pk (zt X fa) M H (.dic kv) y ∧ inD d1 (.dic kv) = .ok t ∧ Q (.bl (!t)) H) := by
  intro pins s σ H x y v u Q I rx ry h
  obtain ⟨M, d1, kv, t, h1, h2, e, q⟩ := h
  obtain ⟨a, kvs, rfl, hd, r⟩ := h2.dic
  simp only [inD] at e
  split at e
  · rename_i k hk
    cases hf : keyFit kv k <;> rw [hf] at e
    · cases e
    · cases e
      obtain rfl := key_pk h1 hk
      rcases hd with hd | hd
      · obtain rfl : u = Value.ref a := ry
        refine d_notIn (by omega) I ((.inl ⟨_, _, hd, rfl, rfl⟩ : DGet _ _ _ _)) rx fun s' I' => ⟨.bl _, H, I', rfl, ?_⟩
        rw [repK_some r]; exact q
      · obtain ⟨z, rfl⟩ := wd_key hd r hf
        obtain ⟨es, n, kd, hr, _⟩ := hd
        obtain ⟨o, ho, hrel⟩ := hr z
        refine op_notIn_kd kd pins s σ H _ _ v u Q I rx ry ⟨z, o, rfl, rfl, ho, ?_⟩
        rw [← repK_some r] at q
        cases e1 : valV kvs (Sum.inr z) <;> cases o <;> rw [e1] at hrel q <;> first | exact q | exact hrel.elim
  · cases e
theorem inSeq_ok {Z : Zt} {d : D} {ds : List D} {t : Bool} {x : V} {vs : List V} (h1 : Pk Z M H d x) (h2 : RepL Z M H ds vs) (e : inSeq d ds = .ok t) : flatV x = true ∧ vs.all flatV = true ∧ t = inV x vs := by
  unfold inSeq at e
  split at e
  · cases e
    obtain ⟨rfl, f1⟩ := flat_pk h1 (by assumption)
    obtain ⟨rfl, f2⟩ := flats_of h2 (by assumption)
    exact ⟨f1, f2, rfl⟩
  · cases e
theorem notR_is {r : R Bool} {t : Bool} (e : notR r = .ok t) : r = .ok (!t) := by
  cases r with
  | ok b => cases e; simp
  | bad => cases e
def rCmp (Z : Zt) (op : CmpOp) : R2 := fun x y H Q => ∃ M d1 d2 t, Pk Z M H d1 x ∧ Pk Z M H d2 y ∧ cmpD op d1 d2 = .ok t ∧ Q (.bl t) H
theorem pk_isN {Z : Zt} {d : D} {v : V} {t : Bool} {e : D} (h : Pk Z M H d v) (q : isN d e = .ok t) : e = .non ∧ t = decide (v = .non) := by
  unfold isN at q
  split at q
  · refine ⟨rfl, ?_⟩
    split at q
    · cases q; rw [h.non]; rfl
    · cases q
      rename_i hn
      refine (decide_eq_false fun z => ?_).symm
      subst z
      cases d with
      | non => exact hn rfl
      | bl _ => cases h.bl
      | int _ => cases h.int
      | str _ => cases h.str
      | tup _ => obtain ⟨_, _, z, _⟩ := h.tup; cases z
      | lst _ => obtain ⟨_, _, z, _⟩ := h.lst; cases z
      | dic _ => obtain ⟨_, _, z, _⟩ := h.dic; cases z
      | fn _ => cases h.fn
  · cases q
theorem op_cmp (hu : X.A.units + 64 < cLine) (op : CmpOp) : OpR X (compareOp op) (rCmp (zt X fa) op) := by
  intro pins s σ H x y v u Q I rx ry h
  obtain ⟨M, d1, d2, t, h1, h2, e, q⟩ := h
  cases op with
  | Eq =>
    simp only [cmpD, eqD] at e
    split at e
    · split at e
      · rename_i p1 p2 e1 e2 hs
        cases e
        simp only [Bool.and_eq_true] at hs
        exact op_eqD hu pins s σ H x y v u Q I rx ry ⟨_, _, dp_pk h1 e1, dp_pk h2 e2, hs.1, hs.2, q⟩
      · cases e
    · cases e
  | NotEq =>
    simp only [cmpD] at e
    have e := notR_is e
    unfold eqD at e
    split at e
    · split at e
      · rename_i p1 p2 e1 e2 hs
        simp only [Bool.and_eq_true] at hs
        have e : PyData.eqv p1 p2 = !t := by injection e
        refine op_neD hu pins s σ H x y v u Q I rx ry ⟨_, _, dp_pk h1 e1, dp_pk h2 e2, hs.1, hs.2, ?_⟩
        rw [e, Bool.not_not]; exact q
      · cases e
    · cases e
  | Lt =>
    simp only [cmpD, ltD] at e
    split at e
    · cases e; cases h1.int; cases h2.int
      exact op_lt pins s σ H _ _ v u Q I rx ry ⟨_, _, rfl, rfl, q⟩
    · cases e; cases h1.str; cases h2.str
      exact op_lt_str pins s σ H _ _ v u Q I rx ry ⟨_, _, rfl, rfl, q⟩
    · cases e
  | LtE =>
    simp only [cmpD, leI] at e
    split at e
    · cases e; cases h1.int; cases h2.int
      exact op_le pins s σ H _ _ v u Q I rx ry ⟨_, _, rfl, rfl, q⟩
    · cases e
  | Gt =>
    simp only [cmpD] at e
    split at e
    · cases e; cases h1.int; cases h2.int
      exact op_gt pins s σ H _ _ v u Q I rx ry ⟨_, _, rfl, rfl, q⟩
    · cases e
  | GtE =>
    simp only [cmpD] at e
    split at e
    · cases e; cases h1.int; cases h2.int
      exact op_ge pins s σ H _ _ v u Q I rx ry ⟨_, _, rfl, rfl, q⟩
    · cases e
  | Is =>
    simp only [cmpD] at e
    obtain ⟨rfl, rfl⟩ := pk_isN h1 e
    cases h2.non
    exact op_isN pins s σ H _ _ v u Q I rx ry ⟨rfl, q⟩
  | IsNot =>
    simp only [cmpD] at e
    obtain ⟨rfl, e5⟩ := pk_isN h1 (notR_is e)
    cases h2.non
    refine op_notN pins s σ H _ _ v u Q I rx ry ⟨rfl, ?_⟩
    rw [← e5, Bool.not_not]; exact q
  | In =>
    simp only [cmpD] at e
    cases d2 with
    | tup ys =>
      obtain ⟨a, vs, rfl, t2, r2⟩ := h2.tup
      obtain ⟨f1, f2, rfl⟩ := inSeq_ok h1 r2 (by simpa only [inD] using e)
      exact op_in_seq pins s σ H _ _ v u Q I rx ry ⟨a, vs, rfl, .inr t2.sq, f1, f2, q⟩
    | lst ys =>
      obtain ⟨a, vs, rfl, t2, r2⟩ := h2.lst
      obtain ⟨f1, f2, rfl⟩ := inSeq_ok h1 r2 (by simpa only [inD] using e)
      exact op_in_seq pins s σ H _ _ v u Q I rx ry ⟨a, vs, rfl, .inl (.inl t2), f1, f2, q⟩
    | str z =>
      simp only [inD] at e
      split at e
      · cases e; cases h1.str; cases h2.str
        exact op_in_str pins s σ H _ _ v u Q I rx ry ⟨_, _, rfl, rfl, q⟩
      · cases e
    | dic kv => exact op_inK hu pins s σ H _ _ v u Q I rx ry ⟨M, d1, kv, t, h1, h2, e, q⟩
    | _ => simp only [inD] at e; cases e
  | NotIn =>
    simp only [cmpD] at e
    have e := notR_is e
    cases d2 with
    | tup ys =>
      obtain ⟨a, vs, rfl, t2, r2⟩ := h2.tup
      obtain ⟨f1, f2, e3⟩ := inSeq_ok h1 r2 (by simpa only [inD] using e)
      refine op_notIn_seq pins s σ H _ _ v u Q I rx ry ⟨a, vs, rfl, .inr t2.sq, f1, f2, ?_⟩
      show Q (.bl (!inV x vs)) H
      rw [← e3, Bool.not_not]; exact q
    | lst ys =>
      obtain ⟨a, vs, rfl, t2, r2⟩ := h2.lst
      obtain ⟨f1, f2, e3⟩ := inSeq_ok h1 r2 (by simpa only [inD] using e)
      refine op_notIn_seq pins s σ H _ _ v u Q I rx ry ⟨a, vs, rfl, .inl (.inl t2), f1, f2, ?_⟩
      show Q (.bl (!inV x vs)) H
      rw [← e3, Bool.not_not]; exact q
    | str z =>
      simp only [inD] at e
      split at e
      · cases h1.str; cases h2.str
        refine op_notIn_str pins s σ H _ _ v u Q I rx ry ⟨_, _, rfl, rfl, ?_⟩
        have e4 := R.ok.inj e
        rw [e4, Bool.not_not]; exact q
      · cases e
    | dic kv =>
      refine op_notInK hu pins s σ H _ _ v u Q I rx ry ⟨M, d1, kv, !t, h1, h2, e, ?_⟩
      rw [Bool.not_not]; exact q
    | _ => simp only [inD] at e; cases e
end
end Iq
set_option Elab.async false
set_option linter.all false
set_option maxRecDepth 100000
set_option maxHeartbeats 1000000
namespace Iq
open PySem L2

section
variable {X : Cx} {fa : Fa} {M : Mu} {H : Hp}

/-! ### truth -/
theorem truth_pk {d : D} {v : V} {b : Bool} (h : Pk (zt X fa) M H d v) (e : truth d = .ok b) : TruV X.K v H b := by
  cases d with
  | non => cases h.non; simp only [truth] at e; cases e; rfl
  | bl _ => cases h.bl; simp only [truth] at e; cases e; rfl
  | int _ => cases h.int; simp only [truth] at e; cases e; rfl
  | str x =>
    cases h.str
    simp only [truth] at e
    split at e
    · cases e; exact ⟨by assumption, rfl⟩
    · cases e
  | tup ds =>
    obtain ⟨a, vs, rfl, t, r⟩ := h.tup
    simp only [truth] at e; cases e
    exact .inr (.inl ⟨vs, t.sq, by cases r' : ds <;> rw [r'] at r <;> have := r.length <;> cases vs <;> first | rfl | cases this⟩)
  | lst ds =>
    obtain ⟨a, vs, rfl, t, r⟩ := h.lst
    simp only [truth] at e; cases e
    exact .inl ⟨vs, .inl t, by cases r' : ds <;> rw [r'] at r <;> have := r.length <;> cases vs <;> first | rfl | cases this⟩
  | dic kv => simp only [truth] at e; cases e
  | fn _ => simp only [truth] at e; cases e

/-! ### subscripts -/
theorem atI_rep {Z : Zt} {ds : List D} {vs : List V} {i : Int} {d : D} (r : RepL Z M H ds vs) (e : atI ds i = some d) : ∃ v, atI vs i = some v ∧ Rep Z M H d v := by
  unfold atI at e ⊢
  rw [r.length] at e
  cases q : ixN vs.length i with
  | none => rw [q] at e; cases e
  | some j =>
    rw [q] at e
    exact r.get e
theorem ix_dK (hu : X.A.units + 64 < cLine) : IxR X (fun x y H Q => ∃ a v, x = .ref a ∧ DGet H a y (some v) ∧ Q v H) := by
  intro value slice pins s σ H x y v u Q I rx ry h hs
  obtain ⟨a, z, rfl, g, q⟩ := h
  obtain rfl : v = Value.ref a := rx
  exact PyProof.Rows.tail_any (dict_typeIs I g) PySem.F.slot_dict_getitem.lookup (d_getItem (by omega) I g ry fun w' s' I' r' => ⟨z, H, I', r', q⟩) hs
def rIdx (Z : Zt) : R2 := fun x y H Q => ∃ M d1 d2 d, Pk Z M H d1 x ∧ Pk Z M H d2 y ∧ idxD d1 d2 = .ok d ∧ ∀ v, Rep Z M H d v → Q v H
theorem ix_D (hu : X.A.units + 64 < cLine) : IxR X (rIdx (zt X fa)) := by
  intro value slice pins s σ H x y v u Q I rx ry h hs
  obtain ⟨M, d1, d2, d, h1, h2, e, k⟩ := h
  unfold idxD at e
  split at e
  · split at e
    · rename_i ha
      cases e
      obtain ⟨a, vs, rfl, t, r⟩ := h1.tup
      cases h2.int
      obtain ⟨z, e1, r1⟩ := atI_rep r ha
      exact ix_tup value slice pins s σ H _ _ v u Q I rx ry ⟨a, vs, _, z, rfl, rfl, t.sq, e1, k z r1⟩ hs
    · cases e
  · split at e
    · rename_i ha
      cases e
      obtain ⟨a, vs, rfl, t, r⟩ := h1.lst
      cases h2.int
      obtain ⟨z, e1, r1⟩ := atI_rep r ha
      exact ix_list value slice pins s σ H _ _ v u Q I rx ry ⟨a, vs, _, z, rfl, rfl, .inl t, e1, k z r1⟩ hs
    · cases e
  · split at e
    · split at e
      · cases e
        cases h1.str; cases h2.int
        exact ix_str value slice pins s σ H _ _ v u Q I rx ry ⟨_, _, _, rfl, rfl, by assumption, by assumption, k _ rep_str⟩ hs
      · cases e
    · cases e
  · rename_i kv
    split at e
    · rename_i kk hk
      cases hf : keyFit kv kk <;> rw [hf] at e
      · cases e
      · simp only [cond_true] at e
        split at e
        · rename_i hv
          cases e
          obtain ⟨a, kvs, rfl, hd, r⟩ := h1.dic
          obtain rfl := key_pk h2 hk
          obtain ⟨z, ez, rz⟩ := (repK_val (k := kk) r).1 _ hv
          rcases hd with hd | hd
          · refine ix_dK hu value slice pins s σ H _ _ v u Q I rx ry ⟨a, z, rfl, ?_, k z rz⟩ hs
            rw [← ez]; exact (.inl ⟨_, _, hd, rfl, rfl⟩ : DGet _ _ _ _)
          · obtain ⟨y, rfl⟩ := wd_key hd r hf
            obtain ⟨es, n, kd, hr, _⟩ := hd
            obtain ⟨o, ho, hrel⟩ := hr y
            rw [ez] at hrel
            cases o with
            | none => exact hrel.elim
            | some u0 => exact PyProof.Rows.tail_any (by obtain rfl : v = Value.ref a := rx; exact kd_type kd I) PySem.F.slot_dict_getitem.lookup (op_item_kd kd pins s σ H _ _ v u Q I rx ry ⟨y, u0, z, rfl, rfl, ho, hrel, k z rz⟩) hs
        · cases e
    · cases e
  · cases e

/-! ### slices -/
theorem cut_rep {Z : Zt} {ds : List D} {vs : List V} {lo hi : Option Int} (r : RepL Z M H ds vs) : RepL Z M H (cutL ds lo hi) (cutV vs lo hi) := by
  unfold cutL cutV
  rw [r.length]
  exact RepL.take _ (RepL.drop _ r)
def rSli (Z : Zt) : V → Option Int → Option Int → Hp → VK → Prop := fun x lo hi H Q => ∃ M d o, Pk Z M H d x ∧ sliD d lo hi = .ok o ∧ ∀ v H', Mk Z M H o.1 o.2 v H' → Q v H'
theorem sl_D : SlR X (rSli (zt X fa)) := by
  intro pins s σ H x v vl vu lo hi sl Q I rx hs pl pu h
  obtain ⟨M, d, o, h1, e, k⟩ := h
  unfold sliD at e
  split at e
  · cases e
    obtain ⟨a, vs, rfl, t, r⟩ := h1.tup
    refine sl_tupA pins s σ H _ v vl vu lo hi sl Q I rx hs pl pu ⟨a, vs, rfl, t.sq, fun hw => k _ _ (.same ?_), fun _ p hp => k _ _ (.tup hp (cut_rep r))⟩
    have e1 : ∀ xs : List D, xs.length = vs.length → cutL xs lo hi = xs := fun xs hl => by
      unfold cutL
      rw [hl, hw.1, hw.2, List.drop_zero, Nat.sub_zero, ← hl, List.take_length]
    rw [e1 _ r.length]
    simp only [Rep]
    exact ⟨a, vs, rfl, t, r⟩
  · cases e
    obtain ⟨a, vs, rfl, t, r⟩ := h1.lst
    exact sl_list pins s σ H _ v vl vu lo hi sl Q I rx hs pl pu ⟨a, vs, rfl, .inl t, fun p hp => k _ _ (.lst hp (cut_rep r))⟩
  · split at e
    · cases e
      cases h1.str
      exact sl_str pins s σ H _ v vl vu lo hi sl Q I rx hs pl pu ⟨_, rfl, by assumption, k _ _ (.same rep_str)⟩
    · cases e
  · cases e

/-! ### built-ins of one argument -/
theorem bls_rep {Z : Zt} : ∀ {ds : List D} {vs : List V} {bs : List Bool}, RepL Z M H ds vs → bls ds = some bs → vs = bs.map V.bl
  | [], _, _, h, e => by simp only [RepL] at h; simp only [bls] at e; cases e; exact h
  | .bl b :: ds, vs, bs, h, e => by
    simp only [RepL, Rep] at h
    obtain ⟨v, r, rfl, rfl, h2⟩ := h
    simp only [bls, Option.map_eq_some_iff] at e
    obtain ⟨bs', e, rfl⟩ := e
    rw [bls_rep h2 e]; rfl
  | .non :: _, _, _, _, e => by simp only [bls] at e; cases e
  | .int _ :: _, _, _, _, e => by simp only [bls] at e; cases e
  | .str _ :: _, _, _, _, e => by simp only [bls] at e; cases e
  | .tup _ :: _, _, _, _, e => by simp only [bls] at e; cases e
  | .lst _ :: _, _, _, _, e => by simp only [bls] at e; cases e
  | .dic _ :: _, _, _, _, e => by simp only [bls] at e; cases e
  | .fn _ :: _, _, _, _, e => by simp only [bls] at e; cases e
theorem strL_rep {Z : Zt} : ∀ {ds : List D} {vs : List V} {bs : List Str}, RepL Z M H ds vs → strL ds = some bs → vs = bs.map V.str
  | [], _, _, h, e => by simp only [RepL] at h; simp only [strL] at e; cases e; exact h
  | .str b :: ds, vs, bs, h, e => by
    simp only [RepL, Rep] at h
    obtain ⟨v, r, rfl, rfl, h2⟩ := h
    simp only [strL, Option.map_eq_some_iff] at e
    obtain ⟨bs', e, rfl⟩ := e
    rw [strL_rep h2 e]; rfl
  | .non :: _, _, _, _, e => by simp only [strL] at e; cases e
  | .int _ :: _, _, _, _, e => by simp only [strL] at e; cases e
  | .bl _ :: _, _, _, _, e => by simp only [strL] at e; cases e
  | .tup _ :: _, _, _, _, e => by simp only [strL] at e; cases e
  | .lst _ :: _, _, _, _, e => by simp only [strL] at e; cases e
  | .dic _ :: _, _, _, _, e => by simp only [strL] at e; cases e
  | .fn _ :: _, _, _, _, e => by simp only [strL] at e; cases e
def biV : Bi → Value
  | .len => .builtin "len"
  | .int => .type "int"
  | .list => .type "list"
  | .tuple => .type "tuple"
  | .all => .builtin "all"
  | .any => .builtin "any"
def rBi (Z : Zt) (f : Bi) : List V → Hp → VK → Prop := fun xs H Q => ∃ M d o v, xs = [v] ∧ Pk Z M H d v ∧ biD f d = .ok o ∧ ∀ v' H', Mk Z M H o.1 o.2 v' H' → Q v' H'
theorem cr_bi (hc : X.calm = true) (f : Bi) : CallR X (biV f) (rBi (zt X fa) f) := by
  intro pins s σ H xs us Q I rx h
  obtain ⟨M, d, o, v, rfl, h1, e, k⟩ := h
  unfold biD at e
  split at e
  · split at e
    · cases e; cases h1.str
      exact call_len_str pins s σ H _ us Q I rx ⟨_, rfl, by assumption, k _ _ (.same rep_int)⟩
    · cases e
  · cases e
    obtain ⟨a, vs, rfl, t, r⟩ := h1.tup
    refine call_len_seq pins s σ H _ us Q I rx ⟨a, vs, rfl, .inr t.sq, k _ _ ?_⟩
    rw [r.length]; exact .same rep_int
  · cases e
    obtain ⟨a, vs, rfl, t, r⟩ := h1.lst
    refine call_len_seq pins s σ H _ us Q I rx ⟨a, vs, rfl, .inl (.inl t), k _ _ ?_⟩
    rw [r.length]; exact .same rep_int
  · cases e; cases h1.int
    exact call_int1 pins s σ H _ us Q I rx (.inl ⟨_, rfl, k _ _ (.same rep_int)⟩)
  · cases e; cases h1.bl
    exact call_int1 pins s σ H _ us Q I rx (.inr ⟨_, rfl, k _ _ (.same rep_int)⟩)
  · cases e
    obtain ⟨a, vs, rfl, t, r⟩ := h1.tup
    exact call_list_of pins s σ H _ us Q I rx ⟨a, vs, rfl, .inr t.sq, fun l hl => k _ _ (.lst hl r)⟩
  · cases e
    obtain ⟨a, vs, rfl, t, r⟩ := h1.lst
    exact call_list_of pins s σ H _ us Q I rx ⟨a, vs, rfl, .inl (.inl t), fun l hl => k _ _ (.lst hl r)⟩
  · cases e
    obtain ⟨a, vs, rfl, t, r⟩ := h1.tup
    refine call_tuple_of pins s σ H _ us Q I rx ⟨a, vs, rfl, .inr ⟨t.sq, k _ _ (.same ?_)⟩⟩
    simp only [Rep]; exact ⟨a, vs, rfl, t, r⟩
  · cases e
    obtain ⟨a, vs, rfl, t, r⟩ := h1.lst
    exact call_tuple_of pins s σ H _ us Q I rx ⟨a, vs, rfl, .inl ⟨.inl t, fun l hl => k _ _ (.tup hl r)⟩⟩
  · split at e
    · rename_i hb
      cases e
      obtain ⟨a, vs, rfl, t, r⟩ := h1.lst
      obtain rfl := bls_rep r hb
      exact cr_all hc pins s σ H _ us Q I rx ⟨a, _, rfl, .inl t, k _ _ (.same rep_bl)⟩
    · cases e
  · split at e
    · rename_i hb
      cases e
      obtain ⟨a, vs, rfl, t, r⟩ := h1.lst
      obtain rfl := bls_rep r hb
      exact cr_any hc pins s σ H _ us Q I rx ⟨a, _, rfl, .inl t, k _ _ (.same rep_bl)⟩
    · cases e
  · cases e

/-! ### isinstance -/
def kindS : D → Option String
  | .non => some "NoneType"
  | .bl _ => some "bool"
  | .int _ => some "int"
  | .str _ => some "str"
  | .tup _ => some "tuple"
  | .lst _ => some "list"
  | .dic _ => some "dict"
  | .fn _ => none
def tyS : Ty → String
  | .int => "int"
  | .bool => "bool"
  | .str => "str"
  | .tuple => "tuple"
  | .list => "list"
theorem kind_ty {d : D} {v : V} {T : String} (h : Pk (zt X fa) M H d v) (e : kindS d = some T) : TyX X.K H v (.type T) := by
  cases d with
  | non => cases h.non; cases e; exact .base .non
  | bl b => cases h.bl; cases e; exact .base (.bl b)
  | int b => cases h.int; cases e; exact .base (.int b)
  | str b => cases h.str; cases e; exact .base (.str b)
  | tup ds =>
    cases e
    obtain ⟨a, vs, rfl, t, r⟩ := h.tup
    rcases t with ⟨t | ⟨o, t⟩, _⟩ | ⟨o, its, n, hk, hc, _⟩
    · exact .base (.tup t)
    · exact .fTuple t
    · exact .kTuple hk hc
  | lst ds =>
    cases e
    obtain ⟨a, vs, rfl, t, r⟩ := h.lst
    rcases t with t | ⟨o, t⟩
    · exact .base (.lst t)
    · exact .base (.frz t)
  | dic ds =>
    cases e
    obtain ⟨a, vs, rfl, t, r⟩ := h.dic
    rcases t with (t | ⟨o, t⟩) | ⟨es, n, kd, _⟩
    · exact .base (.dK t)
    · exact .fDict t
    · exact .kDict kd.at_ rfl
  | fn _ => cases e
theorem isTy_kit {d : D} {t : Ty} {b : Bool} (e : isTy d t = some b) : ∃ T, kindS d = some T ∧ kitB T (tyS t) = some b := by
  cases d <;> cases t <;> first
    | (cases e; exact ⟨_, rfl, by decide +kernel⟩)
    | cases e
theorem isTys_kit {K : PySem.W.Frag} {d : D} {T : String} (hT : kindS d = some T) : ∀ {ts : List Ty} {b : Bool}, isTys d ts = some b → PySem.W.kitAny K (.type T) (ts.map fun t => .type (tyS t)) = some b
  | [], b, e => by simp only [isTys] at e; cases e; rfl
  | t :: ts, b, e => by
    simp only [isTys] at e
    split at e
    · rename_i x y e1 e2
      cases e
      obtain ⟨T', h1, h2⟩ := isTy_kit e1
      rw [hT] at h1; cases h1
      refine kitAny_cons (kit_ty h2) (fun hb => ?_) fun hb => by rw [hb]; rfl
      rw [hb, Bool.false_or]
      exact isTys_kit hT e2
    · cases e
end
end Iq
set_option Elab.async false
set_option linter.all false
set_option maxRecDepth 100000
set_option maxHeartbeats 1000000
namespace Iq
open PySem L2

/-! ### a term agrees with the text -/
/-- the module's names: constants, defs -/
structure Gt where
  cn : List Str
  fnm : List Str
  /-- forms of calls: the def's name, how many places, which names -/
  kw : List (Str × Nat × List Str)
  /-- own errors -/
  cls : List Str
  /-- the def that hears a lambda; whether lambdas are made here -/
  hn : Str
  lam : Bool
def isG (sc : Scope) (x : Str) : Bool := decide (sc.names.lookup x = some .globalImplicit) && !(x == ("__debug__" : Str))
def isV (N : List Str) (sc : Scope) (i : Nat) (x : Str) : Bool := decide (N[i]? = some x) && !(x == ("__debug__" : Str)) && !(x == ("__classdict__" : Str)) &&
  (decide (sc.names.lookup x = some .local) || decide (sc.names.lookup x = some .cell) || decide (sc.names.lookup x = some .free))
def isL (N : List Str) (sc : Scope) (fnc : Str → Bool) (i : Nat) (x : Str) : Bool := decide (N[i]? = some x) && (decide (sc.names.lookup x = some .local) || (decide (sc.names.lookup x = some .cell) && fnc x))
/-- no star, no set display -/
def nst : Expr → Bool
  | .Starred _ _ => false
  | .Set _ _ _ => false
  | .Slice _ _ _ _ => false
  | _ => true
def isCon : D → Expr → Bool
  | .non, .Constant .none _ _ => true
  | .bl b, .Constant (.bool c) _ _ => b == c
  | .int i, .Constant (.int j) _ _ => decide (i = j)
  | .str x, .Constant (.str y) _ _ => decide (x = y)
  | _, _ => false
def biS : Bi → Str
  | .len => "len"
  | .int => "int"
  | .list => "list"
  | .tuple => "tuple"
  | .all => "all"
  | .any => "any"
def tyN : Ty → Str
  | .int => "int"
  | .bool => "bool"
  | .str => "str"
  | .tuple => "tuple"
  | .list => "list"
def agTy (sc : Scope) (t : Ty) : Expr → Bool
  | .Name x _ => decide (x = tyN t) && isG sc x
  | _ => false
def agTys (sc : Scope) : List Ty → List Expr → Bool
  | [], [] => true
  | t :: ts, e :: es => agTy sc t e && agTys sc ts es
  | _, _ => false
def nameOf : Expr → Option Str
  | .Name x _ => some x
  | _ => none
theorem nameOf_is {e : Expr} {x : Str} (h : nameOf e = some x) : ∃ p, e = .Name x p := by
  unfold nameOf at h
  split at h
  · cases h; exact ⟨_, rfl⟩
  · cases h
def agNms (N : List Str) (sc : Scope) (fnc : Str → Bool) : List Nat → List Expr → Bool
  | [], [] => true
  | i :: is, e :: es => match nameOf e with
    | some x => isL N sc fnc i x && agNms N sc fnc is es
    | none => false
  | _, _ => false
def agTg (N : List Str) (sc : Scope) (fnc : Str → Bool) : Tg → Expr → Bool
  | .nm i, .Name x _ => isL N sc fnc i x
  | .tp is, .Tuple es _ _ => agNms N sc fnc is es
  | _, _ => false
def isTup : Expr → Bool
  | .Tuple _ _ _ => true
  | _ => false
def strOf : Option Expr → Option Str
  | some (.Constant (.str y) _ _) => some y
  | _ => none
theorem strOf_is {e : Option Expr} {x : Str} (h : strOf e = some x) : ∃ c p, e = some (.Constant (.str x) c p) := by
  unfold strOf at h
  split at h
  · cases h; exact ⟨_, _, rfl⟩
  · cases h
def agKeys : List Str → List (Option Expr) → Bool
  | [], [] => true
  | x :: xs, e :: es => decide (strOf e = some x) && agKeys xs es
  | _, _ => false
def ownOf (N : List Str) : List Nat → List (Str × Nat)
  | [] => []
  | i :: is => match N[i]? with
    | some x => (x, i) :: ownOf N is
    | none => ownOf N is
def inN (N : List Str) (is : List Nat) : Bool := is.all fun i => decide (i < N.length)
def agOne (sc : Scope) : List Ty → Expr → Bool
  | [t], e => agTy sc t e
  | _, _ => false
def agTup (sc : Scope) (ts : List Ty) : Expr → Bool
  | .Tuple es _ _ => agTys sc ts es && decide (es.length ≤ 1000)
  | _ => false
/-- a test that is no boolean form of its own -/
def plainT : Expr → Bool
  | .UnaryOp .Not _ _ => false
  | .BoolOp _ _ _ => false
  | .IfExp _ _ _ _ => false
  | .Compare _ _ _ _ => false
  | _ => true

/-- a name or a constant -/
def simE : Ex → Bool
  | .var _ => true
  | .con _ => true
  | _ => false
def noPar (a : Arguments) : Bool := a.posonlyargs.isEmpty && a.args.isEmpty && a.vararg.isNone && a.kwonlyargs.isEmpty && a.kw_defaults.isEmpty && a.kwarg.isNone && a.defaults.isEmpty
/-- the form of a call: name, places, names -/
def frm (Γ : Gt) (q : Nat) (f : Str) (m : Nat) (ks : List (Option Str)) : Bool := match Γ.kw[q]? with
  | some t => decide (f = t.1) && decide (m = t.2.1) && decide (ks = t.2.2.map some)
  | none => false
/-- what a method is asked of -/
def basB : Expr → Bool
  | .Name _ _ => true
  | .Subscript _ _ _ => true
  | _ => false
mutual
def agE (Γ : Gt) (N : List Str) (sc : Scope) : Ex → Expr → Bool
  | .var i, .Name x _ => isV N sc i x
  | .con d, e => isCon d e
  | .glo j, .Name x _ => isG sc x && decide (Γ.cn[j]? = some x)
  | .fnv k, .Name x _ => isG sc x && (decide (Γ.fnm[k]? = some x) && decide (x ≠ ""))
  | .tup as, .Tuple es _ _ => agL Γ N sc as es && decide (es.length ≤ 1000)
  | .lst as, .List es _ => agL Γ N sc as es && decide (es.length ≤ 1000)
  | .dct ks as, .Dict kes es _ => agKeys ks kes && agL Γ N sc as es && decide (ks.length ≤ 15) && decide (ks.Nodup) && decide (0 < ks.length) && decide (ks.length = as.length)
  | .neg a, .UnaryOp .USub x _ => agE Γ N sc a x
  | .nt a, .UnaryOp .Not x _ => agE Γ N sc a x
  | .and a b, .BoolOp .And (x :: y :: r) pos => agE Γ N sc a x && (match r with
    | [] => agE Γ N sc b y
    | _ => agE Γ N sc b (.BoolOp .And (y :: r) pos))
  | .or a b, .BoolOp .Or (x :: y :: r) pos => agE Γ N sc a x && (match r with
    | [] => agE Γ N sc b y
    | _ => agE Γ N sc b (.BoolOp .Or (y :: r) pos))
  | .ite c a b, .IfExp z x y _ => agT Γ N sc c z && agE Γ N sc a x && agE Γ N sc b y
  | .bin op a b, .BinOp x o y _ => decide (o = op) && agE Γ N sc a x && agE Γ N sc b y
  | .cmp op a b, .Compare x [o] [y] _ => decide (o = op) && agE Γ N sc a x && agE Γ N sc b y && nst y
  | .chn o1 o2 a b c, .Compare x [p1, p2] [y, z] _ => decide (p1 = o1) && decide (p2 = o2) && agE Γ N sc a x && agE Γ N sc b y && agE Γ N sc c z && nst z
  | .sli a lo hi, .Subscript x (.Slice l u none _) _ => agE Γ N sc a x && agO Γ N sc lo l && agO Γ N sc hi u
  | .idx a b, .Subscript x y _ => agE Γ N sc a x && agE Γ N sc b y && nst y
  | .call k as, .Call (.Name f _) es [] _ => isG sc f && (decide (Γ.fnm[k]? = some f) && decide (f ≠ "")) && agL Γ N sc as es
  | .calv i as, .Call (.Name f _) es [] _ => isV N sc i f && agL Γ N sc as es && decide (0 < es.length)
  | .bi f a, .Call (.Name x _) [y] [] _ => isG sc x && decide (x = biS f) && agE Γ N sc a y && nst y
  | .isi a ts, .Call (.Name x _) [y, z] [] _ => isG sc x && decide (x = "isinstance") && agE Γ N sc a y && nst y && decide (0 < ts.length) && (agOne sc ts z || agTup sc ts z)
  | .join s b, .Call (.Attribute (.Constant (.str z) _ _) m ap) [y] [] cp => decide (m = "join") && decide (s = z) && agE Γ N sc b y && nst y && (ap.endLine == cp.line)
  | .comp e t k ss c, .ListComp el [⟨tg, it, ifs, asy⟩] sco _ => decide (asy = 0) && agI Γ N sc k ss tg it && agTg N (relS sco sc) (fun x => sco.names.lookup x == some .cell) t tg &&
      blkC N sc sco (ownOf N (tgS t)) && inN N (tgS t) && decide ((tgS t).Nodup) && agQ Γ N (relS sco sc) c ifs && agE Γ N (relS sco sc) e el
  | .kwc q as zs, .Call (.Name f _) es kws _ => isG sc f && frm Γ q f es.length (kws.map (·.arg)) && agL Γ N sc as es && agL Γ N sc zs (kws.map (·.value))
  | .tus bs as, .Tuple es _ _ => agS' Γ N sc bs as es && decide (es.length ≤ 1000)
  | .rep as b, .BinOp (.List es _) o y _ => decide (o = .Mult) && agL Γ N sc as es && decide (es.length ≤ 1000) && agE Γ N sc b y
  | .hrd q as zs, .Call (.Name h _) [.Lambda params (.Call (.Name f _) es kws _) sco _] [] _ => Γ.lam && isG sc h && decide (h = Γ.hn) && noPar params && LamX.lamSB sc sco &&
      isG sco f && frm Γ q f es.length (kws.map (·.arg)) && as.all simE && zs.all simE && agL Γ N sco as es && agL Γ N sco zs (kws.map (·.value))
  | .rpr a, .Call (.Name x _) [y] [] _ => isG sc x && decide (x = "repr") && agE Γ N sc a y && nst y
  | .srs a, .Call (.Name x _) [.Call (.Name z _) [y] [] _] [] _ => isG sc x && decide (x = "sorted") && isG sc z && decide (z = "set") && agE Γ N sc a y && nst y
  | .ixm a b, .Call (.Attribute o m ap) [y] [] cp => decide (m = "index") && agE Γ N sc a o && basB o && agE Γ N sc b y && nst y && (ap.endLine == cp.line)
  | .ixg j b, .Call (.Attribute (.Name x _) m ap) [y] [] cp => decide (m = "index") && isG sc x && decide (Γ.cn[j]? = some x) && agE Γ N sc b y && nst y && (ap.endLine == cp.line)
  | .lss bs as, .List es _ => agS' Γ N sc bs as es && decide (es.length ≤ 1000)
  | _, _ => false
def agS' (Γ : Gt) (N : List Str) (sc : Scope) : List Bool → List Ex → List Expr → Bool
  | [], [], [] => true
  | false :: bs, a :: as, e :: es => agE Γ N sc a e && nst e && agS' Γ N sc bs as es
  | true :: bs, a :: as, .Starred e _ :: es => agE Γ N sc a e && agS' Γ N sc bs as es
  | _, _, _ => false
def agL (Γ : Gt) (N : List Str) (sc : Scope) : List Ex → List Expr → Bool
  | [], [] => true
  | a :: as, e :: es => agE Γ N sc a e && nst e && agL Γ N sc as es
  | _, _ => false
def agO (Γ : Gt) (N : List Str) (sc : Scope) : Option Ex → Option Expr → Bool
  | none, none => true
  | some a, some e => agE Γ N sc a e
  | _, _ => false
def agQ (Γ : Gt) (N : List Str) (sc : Scope) : Option Tx → List Expr → Bool
  | none, [] => true
  | some a, [e] => agT Γ N sc a e
  | _, _ => false
def agT (Γ : Gt) (N : List Str) (sc : Scope) : Tx → Expr → Bool
  | .nt a, .UnaryOp .Not x _ => agT Γ N sc a x
  | .and a b, .BoolOp .And (x :: y :: r) pos => agT Γ N sc a x && (match r with
    | [] => agT Γ N sc b y
    | _ => agT Γ N sc b (.BoolOp .And (y :: r) pos))
  | .or a b, .BoolOp .Or (x :: y :: r) pos => agT Γ N sc a x && (match r with
    | [] => agT Γ N sc b y
    | _ => agT Γ N sc b (.BoolOp .Or (y :: r) pos))
  | .at (.cmp op a b), .Compare x [o] [y] _ => decide (o = op) && agE Γ N sc a x && agE Γ N sc b y && nst y
  | .at (.chn o1 o2 a b c), .Compare x [p1, p2] [y, z] _ => decide (p1 = o1) && decide (p2 = o2) && agE Γ N sc a x && agE Γ N sc b y && agE Γ N sc c z && nst z
  | .at (.cmp _ _ _), _ => false
  | .at (.chn _ _ _ _ _), _ => false
  | .at a, e => agE Γ N sc a e && plainT e
  | _, _ => false
def agI (Γ : Gt) (N : List Str) (sc : Scope) : Ik → List Ex → Expr → Expr → Bool
  | .seq, [a], _, e => agE Γ N sc a e && nst e
  | .rng, [a], _, .Call (.Name x _) [y] [] _ => isG sc x && decide (x = "range") && agE Γ N sc a y && nst y
  | .rng2, [a, b], _, .Call (.Name x _) [y, z] [] _ => isG sc x && decide (x = "range") && agE Γ N sc a y && nst y && agE Γ N sc b z && nst z
  | .zip, [a, b], tg, .Call (.Name x _) [y, z] [] _ => isTup tg && isG sc x && decide (x = "zip") && agE Γ N sc a y && nst y && agE Γ N sc b z && nst z
  | .enu, [a], tg, .Call (.Name x _) [y] [] _ => isTup tg && isG sc x && decide (x = "enumerate") && agE Γ N sc a y && nst y
  | _, _, _, _ => false
end
def bnames : List Str := ["len", "int", "list", "tuple", "all", "any", "isinstance", "bool", "str", "range", "zip", "enumerate", "repr", "sorted", "set"]
end Iq
set_option Elab.async false
set_option linter.all false
set_option maxRecDepth 100000
set_option maxHeartbeats 2000000
/-! an own error whose __init__ says super().__init__(word, at) and keeps both -/
namespace Xn
open PySem PySem.W PySem.Calls PyProof.Rows PySem.HandSPX
/-- the text of such an __init__ -/
def nA (p1 p2 p3 : Pos) : Arguments := { posonlyargs := [], args := [⟨"self", none, p1⟩, ⟨"word", none, p2⟩, ⟨"at", none, p3⟩], vararg := none, kwonlyargs := [], kw_defaults := [], kwarg := none, defaults := [] }
structure Ps where
  a : Pos
  b : Pos
  c : Pos
  d : Pos
  e : Pos
  f : Pos
  g : Pos
  h : Pos
  i : Pos
  j : Pos
  k : Pos
  l : Pos
  m : Pos
  n : Pos
  o : Pos
def nB (p : Ps) : List Stmt := [.Expr (.Call (.Attribute (.Call (.Name "super" p.a) [] [] p.b) "__init__" p.c) [.Name "word" p.d, .Name "at" p.e] [] p.f) p.g,
  .Assign [.Attribute (.Name "self" p.h) "word" p.i] (.Name "word" p.j) p.k,
  .Assign [.Attribute (.Name "self" p.l) "at" p.m] (.Name "at" p.n) p.o]
def nS : Scope := { kind := .function, names := [(PySem.Str.ofString "self", .local), (PySem.Str.ofString "word", .local), (PySem.Str.ofString "at", .local), (PySem.Str.ofString "__class__", .free), (PySem.Str.ofString "super", .globalImplicit)], isGenerator := false, isCoroutine := false, more := [] }
/-- what the written part says of the class x at C, of its __init__ at fI; cc its own cell -/
structure NuTxt (P : Program) (K : Frag) (mg : Str → Option Value) (x : Str) (C fI : Addr) : Prop where
  gC : mg x = some (.ref C)
  cls : ∃ nm q N bs bm sn sub ab col dd k0 k1 k2 k3 k5, K.lookup C = some (excClassObj nm q C N bs bm true sn sub ab col dd k0 k1 k2 k3 k5 "ValueError.__new__") ∧ refsVE bm = true
  sa : findIn K (.ref C) "__setattr__" = some (some (.builtin "object.__setattr__"))
  nW : findIn K (.ref C) "word" = some none
  nT : findIn K (.ref C) "at" = some none
  iC : findIn K (.ref C) "__init__" = some (some (.ref fI))
  tC : typeIn K (.ref fI) = some (.type "function")
  kC : keepIn K (.ref C) = true
  exC : subIn K (.ref C) (.type "BaseException") = some true
  tyC : typeIn K (.ref C) = some (.type "type")
  op : nsIn K cStatics "thirdparty.any" = some none
  si : ks_superIn K C C "__init__" = some (some (.builtin "ValueError.__init__"))
  xi : excInitIn K C veTail "ValueError.__new__" = true
  sv : subIn K (.ref C) (.type "ValueError") = some true
  mr : mroIn K C (.ref C) = some true
  sup : mg "super" = none
  top : (P.main.scope.names.lookup ("super" : Str)).isSome = false
  fn : ∃ (oc : Value) (od : Option Addr) (doc pm : Value) (an : Option Addr) (ct : Value) (osl : Array (Option Value)) (cc cda : Addr) (ql : Str) (p1 p2 p3 : Pos) (p : Ps) (cl : Value) (cld : Option Addr) (csl : Array (Option Value)) (ccl : Value) (cdd : Option Addr) (vs : Array Value) (ccs : Array (Option Value)) (file : Str) (tf : Tok),
    K.lookup fI = some ⟨oc, od, .func (ksFn "__init__" ql (nA p1 p2 p3) (nB p) nS .none .none doc pm an (.ref cda) ct cc), osl⟩ ∧ codeIn K (.ref cda) ql = true ∧ K.lookup cc = some ⟨cl, cld, .cell (some (.ref C)), csl⟩ ∧
    K.lookup cda = some ⟨ccl, cdd, .fields vs, ccs⟩ ∧ (p.c.endLine == p.f.line) = true ∧ vs[2]? = some (.str file tf) ∧ ((P.main.file : Str) == file) = true
theorem two_size (u v : Value) : [u, v].length ≤ sizeLine := by
  rw [sizeLine_eq]
  exact (by decide : 2 ≤ 16777216)
theorem ldX {M : Model} {s : Shared} {name : Str} {scope : Scope} {L a : Addr} {cd : Value} {cl : List (Str × Addr)} {m : Str → Option Value} {x : Str} {pos : Pos} {v : Value} {Q : Value → Shared → Prop} {A : Around} {E : Value → Shared → Prop} (hn : s.heap.Ns L m) (hv : m x = some v) (h : Q v s)
    (hk : scope.kind = .function := by rfl) (hl : (envX name scope L a cd cl).kindOf x = some .local := by rfl) (hd : (x == ("__debug__" : Str)) = false := by decide) :
    wpAny M A (eval (.Name x pos) (envX name scope L a cd cl)) Q E s := wpAny_Name (wpAny_loadName_local hk hl hn hv h) hd
theorem ev_meth {o : Expr} {name x y : Str} {apos pos px py : Pos} {env : Env} (hl : (apos.endLine == pos.line) = true) :
    eval (.Call (.Attribute o name apos) [.Name x px, .Name y py] [] pos) env = (do
      let ov ← attributeBase o name env (eval o env)
      standAt apos.atName
      let (f, first) ← holding [ov] (getMethod ov name (do return (← importBound o env).getD true))
      callWith pos f first (backTo pos (starEach [.Name x px, .Name y py] env)) []) := by
  have e : ∀ few, methodCallPos few o env apos pos = pure pos := fun few => by unfold methodCallPos; simp [hl]
  rw [arm_eval_Call]
  simp only [methodCall, e, pure_bind]
  rfl
/-- what __init__ leaves of a fresh exception at x -/
structure NuEnd (h h' : Heap) (x C dx t1 : Addr) (u v : Value) : Prop where
  keep : ∀ b o, b ≠ x → h.get? b = some o → h'.get? b = some o
  obj : h'.get? x = some { cls := .ref C, dict := some dx, data := .fields #[.ref t1, .none, .none, .none, .bool false, .none] }
  dbig : h.objs.size ≤ dx
  dne : dx ≠ x
  ns : h'.Ns1 dx (fun y => if y = "at" then some v else if y = "word" then some u else none)
section
variable {prog : Program} {w : World} {A : Around} {E : Value → Shared → Prop} {R : Result → Shared → Prop} {s : Shared} {K : Frag} {mg mb : Str → Option Value} {C fI : Addr} {nx : Str}
theorem nu_init (T : NuTxt prog K mg nx C fI) {x t0 : Addr} {u v : Value} (X : K.In s.heap) (hlim : s.heap.NoLimit) (G : s.heap.Ns mainGlobals mg) (B : s.heap.Ns builtinsNs mb) (hB : mb "super" = some (.type "super")) (hx : s.heap.get? x = some (excO C t0)) (hnx : K.lookup x = none) (hroom : A.depth < recursionLimit)
    (hq : ∀ h' tk dx t1, NuEnd s.heap h' x C dx t1 u v → R (.ok (.ret .none)) { s with heap := h', toks := tk }) :
    codeAny (model prog w) A (.call (.ref fI) ⟨[.ref x, u, v], []⟩) R s := by
  obtain ⟨oc, od, doc, pm, an, ct, osl, cc, cda, ql, p1, p2, p3, p, cl, cld, csl, ccl, cdd, vs, ccs, file, tf, ho, hcd, hcc, hcda, hln, hvs, hfile⟩ := T.fn
  obtain ⟨nm, q, N, bs, bm, sn, sub, ab, col, dd, k0, k1, k2, k3, k5, hC, hbm⟩ := T.cls
  have hcl : clsIn K C = some { name := nm, bases := bs, mro := .ref C :: bm, ns := N, qualname := q, hasDict := true, slotNames := sn, subclasses := sub, abstract := ab, collection := col, hasDel := false } := by unfold clsIn; rw [hC] <;> rfl
  refine ks_codeAny_call_defAt (fd := ksFn "__init__" ql (nA p1 p2 p3) (nB p) nS .none .none doc pm an (.ref cda) ct cc) (body := nB p) (binds := [("self", .ref x), ("word", u), ("at", v)]) hroom (X _ _ ho) rfl hlim (codeRec_of X hcd) rfl (BindsTo.of_eq (by first | rfl | with_unfolding_all rfl)) (show ∀ y ∈ nS.names, y.2 ≠ .cell by decide) ?_ (fun h₁ hns k₁ => ?_) rfl rfl rfl
  · intro y hy
    simp only [List.mem_cons, List.not_mem_nil, or_false] at hy
    rcases hy with rfl | rfl | rfl <;> rfl
  obtain ⟨hp, g, d, tk, os⟩ := s
  let L : Addr := hp.objs.size
  let h₀ : Heap := hideAll hp [x]
  let m : Str → Option Value := fun y => ([("self", Value.ref x), ("word", u), ("at", v)] : List (Str × Value)).reverse.lookup y
  have X0 : K.In h₀ := fun a o e => hideAll_get [x] (X a o e) fun z => by
    rw [List.mem_singleton.mp z, hnx] at e; cases e
  have F1 : Fr h₀ L h₁ m := ⟨hns, fun b o e => k₁ b o (of_hideAll _ e), Nat.le_of_eq (hideAll_size _ _)⟩
  have xL : x ≠ L := Nat.ne_of_lt (Heap.lt_size hx)
  have N1 : News h₀ L h₁ [(x, excObj C t0 none .none)] := fun q hq => by
    rw [List.mem_singleton.mp hq]
    exact ⟨k₁ _ _ hx, xL, hideAll_none [x] (List.mem_singleton.mpr rfl)⟩
  have X1 : K.In h₁ := X.keeps k₁
  show PySem.wpAt (model prog w) (A.deeper (ksEnv ql nS L fI (.ref cda) cc)) (.func (nB p) (ksEnv ql nS L fI (.ref cda) cc)) (execs (nB p) (ksEnv ql nS L fI (.ref cda) cc)) _ _ _
  refine ks_wpAt_execs_cons (ks_wpAt_Expr_any (ks_wpAt_MethodCall ?_ (ev_meth hln)))
  refine ks_wpAt_super_base (env := ksEnv ql nS L fI (.ref cda) cc) rfl rfl rfl rfl (X1 _ _ ho) rfl rfl rfl (X1 _ _ hcda) rfl hvs hfile T.top ?_
  refine ks_loadName_global rfl rfl (loadGlobal_builtin (env := ksEnv ql nS L fI (.ref cda) cc) (G.keeps k₁) T.sup (B.keeps k₁) hB ⟨rfl, ?_⟩)
  refine wpAny_loadName_free rfl rfl rfl ⟨_, X1 _ _ hcc, rfl⟩ ?_
  refine wpAny_loadName_local rfl rfl hns (show _ = some (Value.ref x) from rfl) ?_
  refine ks_wpAny_isType_cls (X1 _ _ hC) rfl ⟨rfl, ?_⟩
  refine ks_wpAny_call_super (X1 _ _ hC) rfl (k₁ _ _ hx) rfl (fun c e => by cases e) (looks_mroIn X1 T.mr) fun h₂ e₂ k₂ => ?_
  obtain ⟨F2, N2, l2⟩ := ks_newsPush (s := ⟨h₁, g, d, tk + 3, os⟩) F1 N1 rfl e₂ k₂
  have I2 : InstAt h₂ x (excObj C t0 none .none) C none := ⟨k₂ _ _ (k₁ _ _ hx), rfl, rfl, trivial⟩
  have sx : h₁.objs.size ≠ x := Nat.ne_of_gt (Heap.lt_size (k₁ _ _ hx))
  refine kxs_method (s := ⟨h₂, g, d, tk + 3, os⟩) kxs_ValueError F2 X0 N2 (List.mem_cons_self) I2 T.op T.si T.sv rfl fun mw h₃ F3 N3 l3 => ?_
  have mx : mw ≠ x := fun z => absurd (l3 (x, excObj C t0 none .none) (List.mem_cons_of_mem _ List.mem_cons_self)) (by rw [z]; exact Nat.lt_irrefl _)
  refine kxs_callWith1 (s := ⟨h₃, g, d, tk + 3 + 1, os⟩) N3 (List.mem_cons_self) ?_
  refine spliced_cons (ldX (v := u) F3.ns rfl (spliced_cons (ldX (v := v) F3.ns rfl (spliced_nil ⟨kxs_at N3 (List.mem_cons_self), ?_⟩))))
  have hx0 : excInitIn K C veTail "ValueError.__new__" = true := T.xi
  refine kxs_call (s := ⟨h₃, g, d, tk + 3 + 1, os⟩) (rest := [u, v]) (t := t0) (dv := none) (c2 := .none) F3 X0 N3 F.excBase_ValueError hx0 (List.mem_cons_self) (.tail mx (.tail sx (.head fun _ h => nomatch h))) (two_size u v) fun t1 h₅ F5 N5 l5 => ?_
  have X5 : K.In h₅ := X0.keeps F5.keep
  have hx5 : h₅.get? x = some (excO C t1) := (N5 (x, excObj C t1 none .none) (by simp)).1
  have kp5 : ∀ b o, b ≠ x → hp.get? b = some o → h₅.get? b = some o := fun b o hb e => F5.keep b o (hideAll_get [x] e fun z => hb (List.mem_singleton.mp z))
  refine wpAt_of_wpAny ?_
  show wpAny _ _ (execs _ _) _ _ _
  refine wpAny_execs_cons (plainObj_wpAny_Assign_Attribute ?_)
  refine ldX (v := u) F5.ns rfl (ldX (v := .ref x) F5.ns rfl ?_)
  refine set_plain X5 (ox := excO C t1) (od := none) ⟨hx5, rfl, rfl, trivial⟩ T.sa ?_
  refine exc_osa X5 hx5 hcl (show refsVE (.ref C :: bm) = true from hbm) rfl T.nW fun h₆ tk₆ dx k₆ dn dne hx₆ hn₆ => ?_
  show wpAny _ _ (execs _ _) _ _ _
  have ns6 : h₆.Ns L m := by
    obtain ⟨oL, es, ep, hL, r⟩ := F5.ns
    exact ⟨oL, es, ep, k₆ _ _ (Ne.symm xL) hL, r⟩
  have X6 : K.In h₆ := fun a o e => k₆ a o (fun z => by rw [z, hnx] at e; cases e) (X5 a o e)
  have wi : PySem.Within (fun y : Str => if y = "word" then some u else none) ["word"] := fun y hy => by
    by_cases e : y = "word"
    · exact List.mem_singleton.mpr e
    · simp [e] at hy
  obtain ⟨oD, _, _, hoD, _, _⟩ := hn₆.count wi
  refine wpAny_execs_cons (plainObj_wpAny_Assign_Attribute ?_)
  refine ldX (v := v) ns6 rfl (ldX (v := .ref x) ns6 rfl ?_)
  refine set_plain X6 (ox := { cls := .ref C, dict := some dx, data := .fields #[.ref t1, .none, .none, .none, .bool false, .none] }) (od := some oD) ⟨hx₆, rfl, rfl, hoD⟩ T.sa ?_
  refine OEX.osa_old X6 hx₆ hn₆ wi (by decide) hcl (show refsVE (.ref C :: bm) = true from hbm) rfl T.nT fun h₇ tk₇ k₇ hn₇ => ?_
  show wpAny _ _ (execs _ _) _ _ _
  have sz : hp.objs.size ≤ h₅.objs.size := by
    obtain ⟨oL, _, _, hL, _⟩ := F5.ns
    exact Nat.le_of_lt (Heap.lt_size hL)
  have nd : ∀ b o, hp.get? b = some o → b ≠ dx := fun b o e z => absurd (Heap.lt_size e) (by rw [z]; exact Nat.not_lt.mpr (Nat.le_trans sz dn))
  exact wpAny_execs_nil (hq h₇ tk₇ dx t1 ⟨fun b o hb e => k₇ b o (nd b o e) (k₆ b o hb (kp5 b o hb e)), k₇ _ _ (Ne.symm dne) hx₆, Nat.le_trans sz dn, dne, hn₇⟩)
/-- a made one -/
structure NuMade (h h' : Heap) (e C d : Addr) (u v : Value) : Prop where
  keep : ∀ b o, h.get? b = some o → h'.get? b = some o
  new : h.objs.size ≤ e
  obj : ∃ oe vs, h'.get? e = some oe ∧ oe.cls = .ref C ∧ oe.dict = some d ∧ oe.data = .fields vs ∧ vs[1]? = some .none
  dbig : h.objs.size ≤ d
  dne : d ≠ e
  ns : h'.Ns1 d (fun y => if y = "at" then some v else if y = "word" then some u else none)
theorem nu_made (T : NuTxt prog K mg nx C fI) {u v : Value} (X : K.In s.heap) (hlim : s.heap.NoLimit) (G : s.heap.Ns mainGlobals mg) (B : s.heap.Ns builtinsNs mb) (hB : mb "super" = some (.type "super")) (hroom : A.depth + 1 < recursionLimit)
    (hq : ∀ h' tk e d, NuMade s.heap h' e C d u v → R (.ok (.ret (.ref e))) { s with heap := h', toks := tk }) :
    codeAny (model prog w) A (.call (.ref C) ⟨[u, v], []⟩) R s := by
  obtain ⟨nm, q, N, bs, bm, sn, sub, ab, col, dd, k0, k1, k2, k3, k5, hC, hbm⟩ := T.cls
  obtain ⟨hp, g, d, tk, os⟩ := s
  let h2 : Heap := (hp.push (kdv_tup [u, v])).push (excO C hp.objs.size)
  have k : ∀ b o, hp.get? b = some o → h2.get? b = some o := fun b o e => Heap.get?_push_of_some _ (Heap.get?_push_of_some _ e)
  have at2 : h2.get? (hp.objs.size + 1) = some (excO C hp.objs.size) := by heap_get
  have hnx : K.lookup (hp.objs.size + 1) = none := by
    cases e : K.lookup (hp.objs.size + 1) with
    | none => rfl
    | some o => exact absurd (Heap.lt_size (X _ _ e)) (by show ¬ hp.objs.size + 1 < hp.objs.size; omega)
  refine call_own F.excBase_ValueError (fun Y => refsVE_contains Y bm hbm) (X _ _ hC) (looks_findIn X T.iC) (fun self => bind_fn X self T.tC) (two_size u v) ?_
  refine nu_init (s := ⟨h2, g, d, tk, os⟩) (mb := mb) T (X.keeps k) (hlim.keeps k) (G.keeps k) (B.keeps k) hB at2 hnx hroom fun h' tk' dx t1 M => ?_
  have s2 : h2.objs.size = hp.objs.size + 1 + 1 := by show ((hp.push _).push _).objs.size = _; rw [Heap.size_push, Heap.size_push]
  have db := M.dbig
  rw [show (Shared.heap ⟨h2, g, d, tk, os⟩).objs.size = hp.objs.size + 1 + 1 from s2] at db
  have ne : ∀ b o, hp.get? b = some o → b ≠ hp.objs.size + 1 := fun b o e z => absurd (Heap.lt_size e) (by rw [z]; exact Nat.not_lt.mpr (Nat.le_succ _))
  exact ⟨rfl, hq h' tk' (hp.objs.size + 1) dx ⟨fun b o e => M.keep b o (ne b o e) (k b o e), Nat.le_succ _, ⟨_, _, M.obj, rfl, rfl, rfl, rfl⟩, by show hp.objs.size ≤ dx; omega, M.dne, M.ns⟩⟩
end
end Xn
set_option Elab.async false
set_option linter.all false
set_option maxRecDepth 100000
set_option maxHeartbeats 2000000
namespace Xn
open PySem PySem.Spec PyProof.Rows L2
abbrev flds (u v : V) : List (Str × V) := [("at", v), ("word", u)]
theorem relO_nu {u v : V} {u' v' : Value} (r : RelV u u') (q : RelV v v') (f : Str) : RelO (List.lookup f (flds u v)) (if f = "at" then some v' else if f = "word" then some u' else none) := by
  by_cases h1 : f = "at"
  · subst h1
    rw [if_pos rfl]
    have e : List.lookup ("at" : Str) (flds u v) = some v := by simp [flds, List.lookup]
    rw [e]; exact q
  · rw [if_neg h1]
    have b1 : (f == ("at" : Str)) = false := by simpa using h1
    by_cases h2 : f = "word"
    · subst h2
      rw [if_pos rfl]
      have e : List.lookup ("word" : Str) (flds u v) = some u := by simp [flds, List.lookup, b1]
      rw [e]; exact r
    · rw [if_neg h2]
      have b2 : (f == ("word" : Str)) = false := by simpa using h2
      have e : List.lookup f (flds u v) = none := by simp [flds, List.lookup, b1, b2]
      rw [e]; trivial
section
variable {X : Cx} {C fI : Addr} {x : Str}
/-- C(word, at) -/
def tMkNu (C : Addr) (ta : TA) : L2.St → Hp → XK → Prop := fun σ H Q => ta σ H fun vs H1 => ∃ u v, vs = [u, v] ∧ ∀ d, H1 d = none → Q (.ref C) (some d) (upd H1 d (.xd (flds u v)))
theorem pmk_nu {a b : Expr} {ta : TA} {p pos : Pos} {k : Nat} (T : NuTxt X.prog X.K X.mg x C fI) (hr : Room k X.A) (ha : PA X [a, b] ta) (hg : Gl X x)
    (he : starEach (a :: [b]) X.env = (false, eval a X.env) :: starEach [b] X.env) (hpl : (backTo pos (starEach [b] X.env)).any (·.1) = false) (hdb : (x == ("__debug__" : Str)) = false) :
    PMk X (.Call (.Name x p) [a, b] [] pos) (tMkNu C ta) := by
  intro pins s σ H Q I h
  refine wpAny_Call_Name_kw (ld_glob I hg T.gC ?_ hdb)
  refine PySem.W.callWith_K (h₀ := X.base) I.ok.mod.kin T.kC (thn (ha.run pos pins s σ H _ I h) fun us s1 hh => ?_) he hpl
  obtain ⟨vs, H1, I1, r1, u, v, ev, q1⟩ := hh
  subst ev
  refine ⟨I1.kIn, ?_⟩
  cases r1 with
  | cons ru rn =>
    rename_i u' us'
    cases rn with
    | cons rv rn =>
    rename_i v' us'
    cases rn
    show wpAny _ _ (call (.ref C) [u', v']) _ _ _
    have hlim := I1.nolimit
    obtain ⟨mb, hb1, hb2⟩ := I1.mod.blt
    have bk := I1.bk
    have gl := I1.mod.glob
    obtain ⟨hp, g, dr, tk, os⟩ := s1
    refine wpAny_call (nu_made (mb := mb) T I1.kIn hlim (gl.keeps bk) (hb1.keeps bk) ((hb2 _ (by decide)).trans (by first | rfl | kernel_rfl)) (by have := hr.dp; omega) fun h' tk' e d M => ?_)
    show MkP X pins σ Q (.ref e) ⟨h', g, dr, tk', os⟩
    obtain ⟨oe, fv, hoe, hc, hd, hdat, h1⟩ := M.obj
    have hns := M.ns
    obtain ⟨G', g1, g2⟩ := restrict h' fun b => decide (b ≠ e)
    have gk : ∀ b, b ≠ e → G'.get? b = h'.get? b := fun b hb => g1 b (decide_eq_true hb)
    have ge : G'.get? e = none := g2 e (by simp)
    have old : ∀ b o, hp.get? b = some o → G'.get? b = some o := fun b o q => (gk b (Nat.ne_of_lt (Nat.lt_of_lt_of_le (Heap.lt_size q) M.new))).trans (M.keep b o q)
    have ob : ObjOk X.prog X.w (upd H1 d (.xd (flds u v))) G' d (.xd (flds u v)) :=
      ⟨_, hns.at (fun o q => (gk d M.dne).trans q), fun f => relO_nu ru rv f⟩
    have J : Inv X pins σ (upd H1 d (.xd (flds u v))) ⟨G', g, dr, tk', os⟩ := I1.laid (t' := tk') old M.dbig ob
    refine ⟨e, oe, fv, ⟨G', g, dr, tk', os⟩, _, .ref C, some d, rfl, J, fun b o q => ?_, ge, hoe, ⟨hc, hd⟩, hdat, h1, ?_, rfl, I1.bare, raises_own T.exC T.tyC, q1 d (I1.hok.fresh M.dbig)⟩
    · by_cases hb : b = e
      · have q' : G'.get? b = some o := q
        rw [hb, ge] at q'; cases q'
      · exact (gk b hb).symm.trans q
    · rw [upd_ne (Ne.symm M.dne)]
      exact I1.hok.fresh M.new
end
end Xn
set_option Elab.async false
set_option linter.all false
set_option maxRecDepth 100000
set_option maxHeartbeats 2000000
/-! the def that calls what it got and tells of its error -/
namespace Hx
open PySem PySem.Spec PyProof.Rows L2 Iq
/-- one question of the clause -/
def cs (p : Nat → Pos) (i : Nat) (tag C : Str) : Stmt := .If (.Call (.Name "isinstance" (p i)) [.Name "failure" (p (i + 1)), .Name C (p (i + 2))] [] (p (i + 3)))
  [.Return (some (.Tuple [.Constant (.str tag) 0 (p (i + 4)), .Attribute (.Name "failure" (p (i + 5))) "word" (p (i + 6)), .Attribute (.Name "failure" (p (i + 7))) "at" (p (i + 8))] 0 (p (i + 9)))) (p (i + 10))] [] (p (i + 11))
def hB (a : Str) (p : Nat → Pos) : List Stmt := [.Try [.Return (some (.Tuple [.Constant (.str "told") 0 (p 0), .Call (.Name a (p 1)) [] [] (p 2)] 0 (p 3))) (p 4)]
  [.ExceptHandler (some (.Name "ForkError" (p 5))) (some "failure") [cs p 10 "paper" "InvalidPaper", cs p 30 "use" "NotUsable", .Return (some (.Tuple [.Constant (.str "odd") 0 (p 6)] 0 (p 7))) (p 8)] (p 9)] [] [] (p 50)]
/-- a caught class -/
structure ErrC (K : PySem.W.Frag) (C : Addr) : Prop where
  xf : XfC K C
  ha : PySem.W.findIn K (.ref C) "__class__" = some (some (.builtin "object.__class__"))
  hn : PySem.W.specialIn K (.builtin "object.__class__") "__get__" = some (some (.builtin "getset_descriptor.__get__"))
  ht : PySem.W.takesIn K (.builtin "object.__class__") = some true
  hm : PySem.W.mroIn K C (.type "object") = some true
  w : PySem.W.findIn K (.ref C) "word" = some none
  t : PySem.W.findIn K (.ref C) "at" = some none
theorem inst_at {X : Cx} {pins : List (Addr × Obj)} {σ : L2.St} {H : Hp} {s : Shared} {a D dd : Addr} {oe : Obj} {pn : List (Addr × Obj)} {fs : List (Str × V)} (hz : Zc (.ref D) (some dd) oe) (hf : ∃ vs, oe.data = .fields vs) (I : Inv (X.suite a ((a, oe) :: pn)) pins σ H s) (hx : H dd = some (.xd fs)) :
    ∃ od, PySem.W.InstAt s.heap a oe D (some od) := by
  obtain ⟨h1, _⟩ := I.pin (a, oe) (List.mem_append_left _ List.mem_cons_self)
  obtain ⟨vs, hd⟩ := hf
  have ho : ObjOk X.prog X.w H s.heap dd (.xd fs) := I.hok dd _ hx
  obtain ⟨m, hns, _⟩ := ho
  obtain ⟨od, e, _⟩ := lookIn_ns hns
  refine ⟨od, h1, hz.1, ?_, ?_⟩
  · unfold PySem.W.notCls; rw [hd]
  · rw [hz.2]; exact e
/-- isinstance(failure, C) -/
theorem call_isD {X : Cx} {a D dd : Addr} {oe : Obj} {pn : List (Addr × Obj)} (C : ErrC X.K D) (hz : Zc (.ref D) (some dd) oe) (hf : ∃ vs, oe.data = .fields vs) :
    CallR (X.suite a ((a, oe) :: pn)) (.builtin "isinstance") (fun xs H Q => ∃ (c : Addr) (fs : List (Str × V)) (b : Bool), xs = [.ref a, .ref c] ∧ H dd = some (.xd fs) ∧ PySem.W.kitOne X.K (.ref D) (.ref c) = some b ∧ Q (.bl b) H) := by
  intro pins s σ H xs us Q I r h
  obtain ⟨c, fs, b, rfl, hx, e, q⟩ := h
  cases r with
  | @cons _ u1 _ _ r1 r =>
  cases r with
  | @cons _ u2 _ _ r2 r =>
    cases r
    obtain rfl : u1 = Value.ref a := r1
    obtain rfl : u2 = Value.ref c := r2
    obtain ⟨od, J⟩ := inst_at hz hf I hx
    have hcl : (PySem.W.clsIn X.K D).isSome = true := by
      obtain ⟨cd, hc, _⟩ := PySem.W.any_some C.xf.hdC
      rw [hc]; rfl
    exact PySem.W.kia_one (PySem.W.kitx_exc hcl C.xf.ga C.xf.gg C.xf.exC C.ha C.hn C.ht C.hm) I.kIn J e (fun z => nomatch z) fun tk => ⟨.bl b, H, I.kept (t' := tk) fun _ _ z => z, rfl, q⟩
/-- the classes that the clause asks about -/
structure Cls3 (K : PySem.W.Frag) (mg : Str → Option Value) (cF cP cN : Addr) : Prop where
  f : mg "ForkError" = some (.ref cF)
  p : mg "InvalidPaper" = some (.ref cP)
  n : mg "NotUsable" = some (.ref cN)
  i : mg "isinstance" = none
/-- what is told of an error with the class C -/
structure Of (K : PySem.W.Frag) (cF cP cN C : Addr) (bp bn : Bool) : Prop where
  c : ErrC K C
  f : PySem.W.exmOne K (.ref C) (.ref cF) = some true
  p : PySem.W.kitOne K (.ref C) (.ref cP) = some bp
  n : PySem.W.kitOne K (.ref C) (.ref cN) = some bn
/-- the reading of the def -/
def TH (K : PySem.W.Frag) (cF cP cN : Addr) : (XK → Hp → VK → Prop) → Hp → VK → Prop := fun tl H Q =>
  tl (fun cls d H' => ∃ C dd fs w t bp bn, cls = .ref C ∧ d = some dd ∧ Of K cF cP cN C bp bn ∧ H' dd = some (.xd fs) ∧ fs.lookup ("word" : Str) = some w ∧ fs.lookup ("at" : Str) = some t ∧
      ∀ p, H' p = none → Q (.ref p) (upd H' p (.tup (bif bp then [.str "paper", w, t] else bif bn then [.str "use", w, t] else [.str "odd"]))))
    H fun v H' => [V.str "told", v].length ≤ sizeLine ∧ ∀ p, H' p = none → Q (.ref p) (upd H' p (.tup [.str "told", v]))
theorem boot_isi : bootBuiltins ("isinstance" : Str) = some (.builtin "isinstance") := by decide +kernel
theorem bimp {X : Cx} {sts : List Stmt} {t t' : TS} (h : PSs X sts t) (i : ∀ D σ H, t' D σ H → t D σ H) : PSs X sts t' := ⟨fun pins s σ H D I q => h.run pins s σ H D I (i D σ H q)⟩
section
variable {X : Cx} {Ng : List Str} {x a q : Str} {sg : Scope} {g cF cP cN : Addr} {cdg : Value} {p : Nat → Pos}
theorem xd_new {H : Hp} {r dd : Addr} {fs : List (Str × V)} {o : HO} (h : H dd = some (.xd fs)) (hr : H r = none) : upd H r o dd = some (.xd fs) := by rw [upd_ne (ne_of_none h hr)]; exact h
/-- one question, its answer no or yes -/
def tCs (a dd : Addr) (b : Bool) (tag : Str) (u : TS) : TS := fun D σ H => σ[1]? = some (some (.ref a)) ∧ ∃ fs w t, H dd = some (.xd fs) ∧ fs.lookup ("word" : Str) = some w ∧ fs.lookup ("at" : Str) = some t ∧
  (b = true → ∀ p, H p = none → D.rt (.ref p) (upd H p (.tup [.str tag, w, t]))) ∧ (b = false → u D σ H)
theorem p_cs {C : Addr} {D dd : Addr} {oe : Obj} {pn : List (Addr × Obj)} {e : Addr} {i : Nat} {tag : Str} {b : Bool} {rest : List Stmt} {u : TS} (T : ErrC X.K D) (hz : Zc (.ref D) (some dd) oe) (hf : ∃ vs, oe.data = .fields vs) (hN : X.N[1]? = some ("failure" : Str)) (hv : Vis X.env.scope "failure")
    (hi : Gl X "isinstance") (hmi : X.mg "isinstance" = none) {nm : Str} (hg : Gl X nm) (hm : X.mg nm = some (.ref C)) (hdb : (nm == ("__debug__" : Str)) = false) (k : PySem.W.kitOne X.K (.ref D) (.ref C) = some b)
    (hr : PSs (X.suite e ((e, oe) :: pn)) rest u) : PSs (X.suite e ((e, oe) :: pn)) (cs p i tag nm :: rest) (tCs e dd b tag u) := by
  have v : ∀ pos, PE (X.suite e ((e, oe) :: pn)) (.Name "failure" pos) (tVar 1) := fun pos => pe_var hN hv
  have c : ∀ pos, PE (X.suite e ((e, oe) :: pn)) (.Name nm pos) (tC (.ref C)) := fun pos => pe_glob hg hm rfl hdb
  have h1 := pe_callB (X := X.suite e ((e, oe) :: pn)) (p := p i) (pos := p (i + 3)) (call_isD T hz hf) hi hmi boot_isi (pa_cons (v (p (i + 1))) (pa_cons (c (p (i + 2))) pa_nil))
  have f1 := pe_xf (pos := p (i + 6)) (n := "word") T.xf T.w hz hf (v (p (i + 5)))
  have f2 := pe_xf (pos := p (i + 8)) (n := "at") T.xf T.t hz hf (v (p (i + 7)))
  have h2 := ps_ret (pos := p (i + 10)) (pe_tup (x1 := 0) (pos := p (i + 9)) (pa_cons (pe_str (j := 0) (pos := p (i + 4)) (x := tag)) (pa_cons f1 (pa_cons f2 pa_nil))))
  have h3 := ps_if (pos := p (i + 11)) (pt_truth h1 (fun _ => rfl)) (pss_one h2) pss_nil
  refine bimp (pss_cons h3 hr) fun E σ H h => ?_
  obtain ⟨s1, fs, w, t, hx, hw, ht, yes, no⟩ := h
  refine ⟨_, s1, C, fs, b, rfl, hx, k, b, rfl, ?_⟩
  cases b with
  | true =>
    rw [if_pos rfl]
    exact ⟨_, s1, rfl, rfl, dd, fs, w, rfl, hx, hw, _, s1, rfl, rfl, dd, fs, t, rfl, hx, ht, (by show 3 ≤ sizeLine; rw [sizeLine_eq]; omega), fun p hp => yes rfl p hp⟩
  | false =>
    rw [if_neg Bool.false_ne_true]
    exact no rfl
/-- the whole def: what GivesTo asks -/
theorem heard_gives (Cl : Cls3 X.K X.mg cF cP cN) (hNg : Ng = [a, "failure"]) (hnd : Ng.Nodup) (ha : sg.names.lookup a = some .local) (hfl : sg.names.lookup ("failure" : Str) = some .local) (hF : sg.names.lookup ("ForkError" : Str) = some .globalImplicit) (hP : sg.names.lookup ("InvalidPaper" : Str) = some .globalImplicit)
    (hU : sg.names.lookup ("NotUsable" : Str) = some .globalImplicit) (hI : sg.names.lookup ("isinstance" : Str) = some .globalImplicit) : LamX.GivesTo X Ng x sg g cdg (hB a p) a q (TH X.K cF cP cN) := by
  intro f c' s H Q tl act hc h
  subst hNg
  have nx : (cxOf C8.CX0 X.prog X.w X.K X.mg X.base [a, "failure"] x sg g cdg X.A X.stack s H C8.E0).nox.N[1]? = some ("failure" : Str) := rfl
  refine ⟨_, pss_one (ps_try_as (X := (cxOf C8.CX0 X.prog X.w X.K X.mg X.base [a, "failure"] x sg g cdg X.A X.stack s H C8.E0).nox) (c := .ref cF) (i := 1)
      (tb := fun W D σ H => ∃ Ech : XK, (∀ cls d σ' H', Ech cls d H' → W cls d σ' H') ∧ σ[0]? = some (some (.ref f)) ∧ H c' = some (LamX.CodeO c' q) ∧ tl Ech H fun v H' => [V.str "told", v].length ≤ sizeLine ∧ ∀ p, H' p = none → D.rt (.ref p) (upd H' p (.tup [.str "told", v])))
      (ts := fun e cls d => fun D σ H => (σ.length = 2 → σ[1]? = some (some (.ref e))) ∧ ∃ C dd bp bn fs w t, cls = .ref C ∧ d = some dd ∧ Of X.K cF cP cN C bp bn ∧ H dd = some (.xd fs) ∧ fs.lookup ("word" : Str) = some w ∧ fs.lookup ("at" : Str) = some t ∧
        ∀ p, H p = none → D.rt (.ref p) (upd H p (.tup (bif bp then [.str "paper", w, t] else bif bn then [.str "use", w, t] else [.str "odd"]))))
      rfl rfl hnd nx hfl ⟨hF, rfl, .inl Cl.f⟩ LamX.takes0 (fun W pn xe tk _ => ?_) (fun e oe cls d pn hz hf => ?_)), ?_⟩
  · refine ⟨fun pins s' σ H' D I h' => ?_⟩
    obtain ⟨Ech, hW, h1, h2, h3⟩ := h'
    have hp := act W pn xe Ech (p 1) (p 2) tk hW
    have hq := pss_one (ps_ret (pos := p 4) (pe_tup (x1 := 0) (pos := p 3) (pa_cons (pe_str (j := 0) (pos := p 0) (x := "told")) (pa_cons hp pa_nil))))
    refine hq.run pins s' σ H' D I ⟨h1, h2, ?_⟩
    exact h3
  · refine ⟨fun pins s' σ H' D I h' => ?_⟩
    obtain ⟨hs, C, dd, bp, bn, fs, w, t, rfl, rfl, o, hx, hw, ht, k⟩ := h'
    have e1 : σ[1]? = some (some (.ref e)) := hs I.len
    have vF : Vis sg "failure" := .inl hfl
    have r := pss_one (ps_ret (X := (cxOf C8.CX0 X.prog X.w X.K X.mg X.base [a, "failure"] x sg g cdg X.A X.stack s H C8.E0).nox.suite e ((e, oe) :: pn)) (pos := p 8) (pe_tup (x1 := 0) (pos := p 7) (pa_cons (pe_str (j := 0) (pos := p 6) (x := "odd")) pa_nil)))
    have c2 := p_cs (X := (cxOf C8.CX0 X.prog X.w X.K X.mg X.base [a, "failure"] x sg g cdg X.A X.stack s H C8.E0).nox) (p := p) (i := 30) (tag := "use") o.c hz hf nx vF hI Cl.i hU Cl.n rfl o.n r
    have c1 := p_cs (X := (cxOf C8.CX0 X.prog X.w X.K X.mg X.base [a, "failure"] x sg g cdg X.A X.stack s H C8.E0).nox) (p := p) (i := 10) (tag := "paper") o.c hz hf nx vF hI Cl.i hP Cl.p rfl o.p c2
    refine c1.run pins s' σ H' D I ⟨e1, fs, w, t, hx, hw, ht, fun e q => ?_, fun q => ⟨e1, fs, w, t, hx, hw, ht, fun e q2 => ?_, fun q2 => ?_⟩⟩
    · subst e; exact k q
    · subst q e; exact k q2
    · subst q q2
      exact ⟨by show 1 ≤ sizeLine; rw [sizeLine_eq]; omega, fun p hp => k p hp⟩
  · refine ⟨_, fun cls d σ' H' hE => ?_, rfl, hc, h⟩
    obtain ⟨C, dd, fs, w, t, bp, bn, rfl, rfl, o, hx, hw, ht, k⟩ := hE
    refine ⟨true, o.f, fun _ e he => ⟨fun hl => ?_, C, dd, bp, bn, fs, w, t, rfl, rfl, o, hx, hw, ht, k⟩, fun z => nomatch z⟩
    rw [List.length_set] at hl
    rw [List.getElem?_set_self (by omega)]
end
/-- what is told of a class's error, by its two answers -/
def tell (bp bn : Bool) (w t : D) : D := .tup (bif bp then [.str "paper", w, t] else bif bn then [.str "use", w, t] else [.str "odd"])
structure Heard (P : Program) (K : PySem.W.Frag) (mg : Str → Option Value) (cl : Nat → Addr) (hn : Str) (hr : Nat → List (Str × D) → R D) : Prop where
  ex : ∃ (g cF cP cN : Addr) (pg : Arguments) (a : Str) (sg : Scope) (p : Nat → Pos) (fd : FuncData), FunD K hn hn pg (hB a p) sg [] [] g fd ∧ mg hn = some (.ref g) ∧ FnScope [a, "failure"] [a] sg ∧ Binds K fd [a] [] ∧
    (sg.names.lookup a = some .local ∧ sg.names.lookup ("failure" : Str) = some .local ∧ sg.names.lookup ("ForkError" : Str) = some .globalImplicit ∧ sg.names.lookup ("InvalidPaper" : Str) = some .globalImplicit ∧
      sg.names.lookup ("NotUsable" : Str) = some .globalImplicit ∧ sg.names.lookup ("isinstance" : Str) = some .globalImplicit) ∧ (hn == ("__debug__" : Str)) = false ∧ (a == ("__debug__" : Str)) = false ∧ (a == ("__classdict__" : Str)) = false ∧
    Cls3 K mg cF cP cN ∧ ∀ c fs d, hr c fs = .ok d → ∃ bp bn w t, Of K cF cP cN (cl c) bp bn ∧ fs.lookup ("word" : Str) = some w ∧ fs.lookup ("at" : Str) = some t ∧ d = tell bp bn w t
end Hx
set_option Elab.async false
set_option linter.all false
set_option maxRecDepth 100000
set_option maxHeartbeats 1000000
namespace Iq
open PySem PySem.Spec PyProof.Rows L2

/-! ### defs called where it is known that no repr is under way -/
/-- nothing guards, if this is asked -/
def Gz (rp : Bool) (A : Around) : Prop := rp = true → A.guards = some []
theorem Gz.deep {rp : Bool} {A : Around} (g : Gz rp A) (env : Env) : Gz rp (A.deeper env) := g
theorem Gz.low {A : Around} : Gz false A := fun h => by cases h
section
variable (rp : Bool) (P : Program) (w : World) (K : PySem.W.Frag) (mg : Str → Option Value) (base : Heap) (CX : CXT) (k : Nat) (f : Addr)
/-- by places -/
def FnP (sp : Sp) : Prop := ∀ (A : Around) (outer : List Env) (s : Shared) (H : Hp) (us : List Value) (vs : List V) (Q : VK) (E : XK),
  Gz rp A → Room k A → Env0 P w K mg base A outer s H → Vals vs us → sp vs H Q E → codeAny (model P w) A (.call (.ref f) ⟨us, []⟩) (CR CX outer P w H s Q E) s
/-- by its parameters -/
structure FnB (fd : FuncData) (ps : List Str) (sp : Sp) : Prop where
  len : ∀ vs H Q E, sp vs H Q E → vs.length = ps.length
  go : ∀ (A : Around) (outer : List Env) (s : Shared) (H : Hp) (args : Args) (us : List Value) (vs : List V) (Q : VK) (E : XK), Gz rp A → Room k A → Env0 P w K mg base A outer s H →
    BindsTo s fd args (ps.zip us) → Vals vs us → sp vs H Q E → codeAny (model P w) A (.call (.ref f) args) (CR CX outer P w H s Q E) s
end
section
variable {rp : Bool} {P : Program} {w : World} {K : PySem.W.Frag} {mg : Str → Option Value} {base : Heap} {CX : CXT} {k : Nat} {f : Addr} {sp : Sp}
theorem FnB.at {fd : FuncData} {ps : List Str} (F : FnB rp P w K mg base CX k f fd ps sp) (b : Binds K fd ps []) : FnP rp P w K mg base CX k f sp := by
  intro A outer s H us vs Q E g hr e0 r q
  have n : (us ++ []).length = ps.length := by
    rw [List.append_nil, ← r.length]; exact F.len _ _ _ _ q
  have bt := b s us (e0.mod.kin.keeps fun a o z => (e0.bs a o z).1) n
  simp only [List.append_nil] at bt
  exact F.go A outer s H _ us vs Q E g hr e0 bt r q
end
section
variable {X : Cx} {CX : CXT} {f : Addr} {E : XK} {pins : List (Addr × Obj)} {σ : L2.St} {H : Hp} {s : Shared} {Q : VK}
/-- the callee's end is the call's end here -/
theorem came_back {us : List Value} {kw : List (Str × Value)} (I : L2.Inv X pins σ H s) (px : Passes CX X E) (c : codeAny (model X.prog X.w) X.A (.call (.ref f) ⟨us, kw⟩) (CR CX X.stack X.prog X.w H s Q E) s) :
    wpAny (model X.prog X.w) X.A (call (.ref f) us kw) (EP X pins σ Q) X.xe s :=
  wpAny_call <| codeAny_mono c fun r t z => match r, z with
    | .error e, z => px pins σ H s e t I z
    | .ok (.ret _), z => I.after z
    | .ok .next, z => z.elim
    | .ok .brk, z => z.elim
    | .ok .cont, z => z.elim
variable {rp : Bool} {k : Nat} {sp : Sp} {x : Str} {p pos : Pos} {e : Expr} {es : List Expr} {t : TA}
/-- what a call by places asks -/
def tPl (sp : Sp) (E : XK) (t : TA) : TE := fun σ H Q => t σ H fun vs H1 => sp vs H1 Q E
theorem pl_more (F : FnP rp X.prog X.w X.K X.mg X.base CX k f sp) (g : Gz rp X.A) (hr : Room k X.A) (hg : Gl X x) (hm : X.mg x = some (.ref f)) (hk : PySem.W.keepIn X.K (.ref f) = true) (px : Passes CX X E) (ha : PA X (e :: es) t) (hdb : (x == ("__debug__" : Str)) = false)
    (s1 : starEach (e :: es) X.env = (false, eval e X.env) :: starEach es X.env) (s2 : (backTo pos (starEach es X.env)).any (·.1) = false) : PE X (.Call (.Name x p) (e :: es) [] pos) (tPl sp E t) :=
  ⟨fun pins s σ H Q I q => wpAny_Call_Name_kw <| ld_glob I hg hm (PySem.W.callWith_K (h₀ := X.base) I.ok.mod.kin hk
    (thn (ha.run pos pins s σ H _ I q) fun us t ⟨vs, H1, J, r, q1⟩ => ⟨J.kIn, came_back J px (F X.A X.stack t H1 us vs Q E g hr J.env0 r q1)⟩) s1 s2) hdb⟩
theorem pl_none (F : FnP rp X.prog X.w X.K X.mg X.base CX k f sp) (g : Gz rp X.A) (hr : Room k X.A) (hg : Gl X x) (hm : X.mg x = some (.ref f)) (hk : PySem.W.keepIn X.K (.ref f) = true) (px : Passes CX X E) (hdb : (x == ("__debug__" : Str)) = false) : PE X (.Call (.Name x p) [] [] pos) (tPl sp E tNil) :=
  ⟨fun pins s σ H Q I q => wpAny_Call_Name_kw <| ld_glob I hg hm (PySem.W.callWith_K0 I.kIn hk (came_back I px (F X.A X.stack s H [] [] Q E g hr I.env0 .nil q))) hdb⟩
/-- with a starred argument behind plain ones -/
theorem pl_star (F : FnP rp X.prog X.w X.K X.mg X.base CX k f sp) (g : Gz rp X.A) (hr : Room k X.A) (hg : Gl X x) (hm : X.mg x = some (.ref f)) (hk : PySem.W.keepIn X.K (.ref f) = true) (px : Passes CX X E) (ha : PA X (e :: es) t) (hdb : (x == ("__debug__" : Str)) = false)
    (s1 : starEach (e :: es) X.env = (false, eval e X.env) :: starEach es X.env) (s2 : (backTo pos (starEach es X.env)).any (·.1) = true) : PE X (.Call (.Name x p) (e :: es) [] pos) (tPl sp E t) :=
  ⟨fun pins s σ H Q I q => wpAny_Call_Name_kw <| ld_glob I hg hm (PySem.W.callWith_S2 (h₀ := X.base) I.ok.mod.kin hk
    (thn (ha.run pos pins s σ H _ I q) fun us t ⟨vs, H1, J, r, q1⟩ => ⟨J.kIn, came_back J px (F X.A X.stack t H1 us vs Q E g hr J.env0 r q1)⟩) s1 s2) hdb⟩
/-- a slot that holds a def -/
theorem pl_slot {i : Nat} (F : FnP rp X.prog X.w X.K X.mg X.base CX k f sp) (g : Gz rp X.A) (hr : Room k X.A) (hN : X.N[i]? = some x) (hv : Vis X.env.scope x) (hk : PySem.W.keepIn X.K (.ref f) = true) (px : Passes CX X E) (ha : PA X (e :: es) t) (hdb : (x == ("__debug__" : Str)) = false) (hcd : (x == ("__classdict__" : Str)) = false)
    (s1 : starEach (e :: es) X.env = (false, eval e X.env) :: starEach es X.env) (s2 : (backTo pos (starEach es X.env)).any (·.1) = false) : PE X (.Call (.Name x p) (e :: es) [] pos) (fun σ H Q => σ[i]? = some (some (.ref f)) ∧ tPl sp E t σ H Q) := by
  refine ⟨fun pins s σ H Q I ⟨q0, q⟩ => wpAny_Call_Name_kw ?_⟩
  refine thn ((pe_var (pos := p) hN hv hdb hcd).run pins s σ H (fun v Hv => Hv = H ∧ v = .ref f) I ⟨_, q0, rfl, rfl⟩) fun u t ⟨v, Hv, J, r, z⟩ => ?_
  obtain ⟨rfl, rfl⟩ := z
  cases r
  exact PySem.W.callWith_K (h₀ := X.base) J.ok.mod.kin hk (thn (ha.run pos pins t σ _ _ J q) fun us t' ⟨vs, H1, J1, r, q1⟩ => ⟨J1.kIn, came_back J1 px (F X.A X.stack t' H1 us vs Q E g hr J1.env0 r q1)⟩) s1 s2
variable {fd : FuncData} {ps ks : List Str} {m : Nat} {kws : List Keyword} {tk : TA} {gu : List Value → List Value → List Value} {gV : List V → List V → List V}
theorem named {us ws : List Value} {vs zs : List V} (F : FnB rp X.prog X.w X.K X.mg X.base CX k f fd ps sp) (g : Gz rp X.A) (hr : Room k X.A) (hb : KBn X.K fd ps m ks gu gV) (px : Passes CX X E) (I : L2.Inv X pins σ H s) (r : Vals vs us) (rz : Vals zs ws) (l1 : vs.length = m) (l2 : zs.length = ks.length) (q : sp (gV vs zs) H Q E) :
    wpAny (model X.prog X.w) X.A (call (.ref f) us (ks.zip ws)) (EP X pins σ Q) X.xe s :=
  came_back I px (F.go X.A X.stack s H _ _ _ Q E g hr I.env0 (hb.to s us ws I.kIn (r.length.symm.trans l1) (rz.length.symm.trans l2)) (hb.rel r rz) q)
/-- f(e, .., k = v, ..) -/
theorem pl_kw (F : FnB rp X.prog X.w X.K X.mg X.base CX k f fd ps sp) (g : Gz rp X.A) (hr : Room k X.A) (hg : Gl X x) (hm : X.mg x = some (.ref f)) (hk : PySem.W.keepIn X.K (.ref f) = true) (hb : KBn X.K fd ps m ks gu gV) (px : Passes CX X E) (ha : PA X (e :: es) t) (hkw : PK X kws tk)
    (h1 : (backToKw pos (keywordEach kws X.env)).all (·.1.isSome) = true) (h2 : (backToKw pos (keywordEach kws X.env)).filterMap (·.1) = ks) (hdb : (x == ("__debug__" : Str)) = false) (s1 : starEach (e :: es) X.env = (false, eval e X.env) :: starEach es X.env)
    (s2 : ((backTo pos (starEach (e :: es) X.env)).any (·.1) || (backToKw pos (keywordEach kws X.env)).any (·.1.isNone)) = false) : PE X (.Call (.Name x p) (e :: es) kws pos) (tCallN m ks.length sp gV E t tk) :=
  ⟨fun pins s σ H Q I q => wpAny_Call_Name_kw <| ld_glob I hg hm (PySem.W.callWith_KW (h₀ := X.base) I.ok.mod.kin hk h1
    (thn (ha.run pos pins s σ H _ I q) fun us t ⟨vs, H1, J, r, q1⟩ => thn (hkw.run pos pins t σ H1 _ J q1) fun ws t' ⟨zs, H2, J2, rz, l1, l2, q2⟩ => ⟨J2.kIn, by
      rw [h2]; exact named F g hr hb px J2 r rz l1 l2 q2⟩) s2 s1) hdb⟩
theorem pl_kw0 (F : FnB rp X.prog X.w X.K X.mg X.base CX k f fd ps sp) (g : Gz rp X.A) (hr : Room k X.A) (hg : Gl X x) (hm : X.mg x = some (.ref f)) (hk : PySem.W.keepIn X.K (.ref f) = true) (hb : KBn X.K fd ps m ks gu gV) (px : Passes CX X E) (hkw : PK X kws tk)
    (h1 : (backToKw pos (keywordEach kws X.env)).all (·.1.isSome) = true) (h2 : (backToKw pos (keywordEach kws X.env)).filterMap (·.1) = ks) (hdb : (x == ("__debug__" : Str)) = false)
    (s2 : ((backTo pos (starEach [] X.env)).any (·.1) || (backToKw pos (keywordEach kws X.env)).any (·.1.isNone)) = false) : PE X (.Call (.Name x p) [] kws pos) (tCallN m ks.length sp gV E tNil tk) :=
  ⟨fun pins s σ H Q I q => wpAny_Call_Name_kw <| ld_glob I hg hm (PySem.W.callWith_KW0 (h₀ := X.base) I.ok.mod.kin hk h1
    (thn (hkw.run pos pins s σ H _ I q) fun ws t' ⟨zs, H2, J2, rz, l1, l2, q2⟩ => ⟨J2.kIn, by
      rw [h2]; exact named F g hr hb px J2 .nil rz l1 l2 q2⟩) s2) hdb⟩
end
/-- a def's promise by its body, at one surrounding -/
theorem fnB_of {rp : Bool} {CX : CXT} {P : Program} {w : World} {K : PySem.W.Frag} {mg : Str → Option Value} {base : Heap} {k : Nat} {f : Addr} {name qual : Str} {params : Arguments} {body : List Stmt} {scope : Scope} {dV kV doc pm cdv ct oc : Value} {an od : Option Addr}
    {osl : Array (Option Value)} {N ps : List Str} {sp : Sp} (lk : K.lookup f = some ⟨oc, od, .func (PySem.W.fnOf name qual params body scope dV kV doc pm an cdv ct), osl⟩) (hcd : PySem.W.codeIn K cdv qual = true) (S : FnScope N ps scope) (len : ∀ vs H Q E, sp vs H Q E → vs.length = ps.length)
    (hb : ∀ (A : Around) (outer : List Env) (s : Shared) (H : Hp) (vs : List V) (Q : VK) (E : XK), Gz rp A → Room k (A.deeper (envOfC qual scope s.heap.objs.size f cdv)) → sp vs H Q E →
      ∃ t, PSs (cxOf CX P w K mg base N qual scope f cdv A outer s H E) body t ∧ t { nx := fun _ H' => Q .non H', rt := Q } (L2.start N vs) H) :
    FnB rp P w K mg base CX (k + 1) f (PySem.W.fnOf name qual params body scope dV kV doc pm an cdv ct) ps sp :=
  ⟨len, fun A outer s H args us vs Q E g hr e0 b r q => LamX.run_ofS lk hcd S hr e0 b r (len _ _ _ _ q) fun hr' => hb A outer s H vs Q E g hr' q⟩
/-- the same of a def with a star parameter: what is left over is a new tuple -/
theorem fnP_star {rp : Bool} {CX : CXT} {P : Program} {w : World} {K : PySem.W.Frag} {mg : Str → Option Value} {base : Heap} {k : Nat} {f : Addr} {name qual : Str} {params : Arguments} {body : List Stmt} {scope : Scope} {dV kV doc pm cdv ct oc : Value} {an od : Option Addr}
    {osl : Array (Option Value)} {N ps : List Str} {pv : Str} {sp : Sp} (lk : K.lookup f = some ⟨oc, od, .func (PySem.W.fnOf name qual params body scope dV kV doc pm an cdv ct), osl⟩) (hcd : PySem.W.codeIn K cdv qual = true) (S : FnScope N (ps ++ [pv]) scope) (up : StX.CXUp CX)
    (bd : ∀ us rest : List Value, us.length = ps.length → bindArgs (PySem.W.fnOf name qual params body scope dV kV doc pm an cdv ct) ⟨us ++ rest, []⟩ = (newTuple rest >>= fun t => pure (ps.zip us ++ [(pv, t)])))
    (hb : ∀ (A : Around) (outer : List Env) (s : Shared) (H : Hp) (vs : List V) (Q : VK) (E : XK), Gz rp A → Room k (A.deeper (envOfC qual scope s.heap.objs.size f cdv)) → sp vs H Q E →
      ∃ t, PSs (cxOf CX P w K mg base N qual scope f cdv A outer s H E) body t ∧ t { nx := fun _ H' => Q .non H', rt := Q } (L2.start N vs) H) :
    FnP rp P w K mg base CX (k + 1) f (fun vs H Q E => ∃ ws rest, vs = ws ++ rest ∧ ws.length = ps.length ∧ rest.length ≤ sizeLine ∧ ∀ p, H p = none → sp (ws ++ [.ref p]) (upd H p (.tup rest)) Q E) := by
  intro A outer s H us vs Q E g hr e0 r ⟨ws, rest, e, l, z, q⟩
  subst e
  obtain ⟨u1, u2, rfl, r1, r2⟩ := StX.vals_split r
  have fr : H s.heap.objs.size = none := e0.hok.fresh (Nat.le_refl _)
  have n1 : u1.length = ps.length := r1.length.symm.trans l
  refine StX.run_bnd lk hcd S hr e0 (G := fun xs H2 => ∃ a, H a = none ∧ H2 = upd H a (.tup rest) ∧ xs = ws ++ [.ref a]) (fun A' Ex Q' h => ?_) fun t H2 xs ⟨a, h1, h2, h3⟩ hr' => ?_
  · rw [bd u1 u2 n1]
    have new : ObjOk P w (upd H s.heap.objs.size (.tup rest)) (s.heap.push ⟨.type "tuple", none, .seq u2.toArray 0, #[]⟩) s.heap.objs.size (.tup rest) := ⟨z, u2, r2, _, Heap.get?_push_size _ rfl, rfl, _, rfl⟩
    have un : Un (frs outer) [] H (upd H s.heap.objs.size (.tup rest)) s.heap (s.heap.push ⟨.type "tuple", none, .seq u2.toArray 0, #[]⟩) := StX.un_laid fr
    have := h { s with heap := s.heap.push ⟨.type "tuple", none, .seq u2.toArray 0, #[]⟩ } _ _ (u1 ++ [.ref s.heap.objs.size]) (StX.env0_laid e0 new) un rfl (fun e t' => up outer s H _ _ E e t' un (fun b o c => Heap.get?_push_of_some _ c) rfl)
      (r1.append (.cons (a := V.ref s.heap.objs.size) (b := Value.ref s.heap.objs.size) rfl .nil)) (by simp [l]) ⟨_, fr, rfl, rfl⟩
    rw [List.zip_append n1.symm] at this
    exact wpAny_bind (wpAny_newTuple (wpAny_pure this) (r2.length ▸ z))
  · subst h2 h3
    exact hb A outer t _ _ Q E g hr' (q a h1)
end Iq
set_option Elab.async false
set_option linter.all false
set_option maxRecDepth 100000
set_option maxHeartbeats 1000000
namespace Iq
open PySem L2

/-! ### a call, by its meaning -/
def OwnsL (Z : Zt) (M : Mu) (H : Hp) : List Addr → List D → Prop
  | [], ds => ds = []
  | a :: as, ds => ∃ d r, ds = d :: r ∧ Own Z M H a d ∧ OwnsL Z M H as r
/-- the arguments: values, and the objects of callers -/
def ArgV (Z : Zt) (M : Mu) (H : Hp) : List Sl → List V → List Addr → Prop
  | [], vs, os => vs = [] ∧ os = []
  | .shr d :: as, vs, os => ∃ v r, vs = v :: r ∧ Rep Z M H d v ∧ ArgV Z M H as r os
  | .own true d :: as, vs, os => ∃ a r q, vs = .ref a :: r ∧ os = a :: q ∧ M a ∧ Own Z M H a d ∧ ArgV Z M H as r q
  | _ :: _, _, _ => False
structure Called (Z : Zt) (M : Mu) (H : Hp) (os : List Addr) (d : D) (fr : Bool) (outs : List D) (v : V) (H' : Hp) : Prop where
  e : Evo (· ∈ os) H H'
  f : ∀ p, Nf H' p → Nf H p
  r : Rep Z M H' d v
  o : OwnsL Z M H' os outs
  n : fr = true → ∃ p, v = .ref p ∧ Nf H p ∧ Own Z (ins M p) H' p d ∧ OwnsL Z (ins M p) H' os outs
  t : TbOk Z H'
def RepF (Z : Zt) (M : Mu) (H : Hp) : List (Str × D) → List (Str × V) → Prop
  | [], vs => vs = []
  | (x, d) :: r, vs => ∃ v q, vs = (x, v) :: q ∧ Rep Z M H d v ∧ RepF Z M H r q
/-- an error's own dict -/
def XdOk (Z : Zt) (M : Mu) (H : Hp) (fs : List (Str × D)) (dd : Addr) : Prop := ∃ vs, H dd = some (.xd vs) ∧ RepF Z M H fs vs
structure Raised (Z : Zt) (M : Mu) (H : Hp) (fs : List (Str × D)) (dd : Addr) (H' : Hp) : Prop where
  e : Evo (fun _ => False) H H'
  f : ∀ p, Nf H' p → Nf H p
  r : XdOk Z M H' fs dd
  t : TbOk Z H'
def spF (Z : Zt) (fn : List Sl → R (D × Bool × List D)) (fx : List Sl → R (Nat × List (Str × D))) : Sp := fun vs H Q E =>
  ∃ (M : Mu) (as : List Sl) (os : List Addr), ArgV Z M H as vs os ∧ os.Nodup ∧ (∀ a, M a → ¬ Nf H a) ∧ TbOk Z H ∧
    ((∃ d fr outs, fn as = .ok (d, fr, outs) ∧ ∀ v H', Called Z M H os d fr outs v H' → Q v H') ∨
     (∃ c fs, fx as = .ok (c, fs) ∧ os = [] ∧ ∀ dd H', Raised Z M H fs dd H' → E (.ref (Z.cl c)) (some dd) H'))

/-- a form of a call with names: the def at a level, how its values come to its parameters -/
def KwO (rp : Bool) (P : Program) (w : World) (K : PySem.W.Frag) (mg : Str → Option Value) (base : Heap) (fa : Fa) (x : Str) (m : Nat) (ks : List Str) (k : Nat) (sel : List (Sum Nat D)) (n : Nat) (fn : List Sl → R (D × Bool × List D)) (fx : List Sl → R (Nat × List (Str × D))) : Prop :=
  mg x = some (.ref (fa k)) ∧ PySem.W.keepIn K (.ref (fa k)) = true ∧ ∃ fd ps g gV, KBn K fd ps m ks g gV ∧
    (∀ M H ds es vs zs o, RepL (.mk' w K mg fa) M H ds vs → RepL (.mk' w K mg fa) M H es zs → ds.length = m → es.length = ks.length → selL (ds ++ es) sel = .ok o → RepL (.mk' w K mg fa) M H o (gV vs zs)) ∧
    FnB rp P w K mg base (L2.CX P w) n (fa k) fd ps (spF (.mk' w K mg fa) fn fx)
abbrev KwOk (rp : Bool) (X : Cx) (fa : Fa) (x : Str) (m : Nat) (ks : List Str) (k : Nat) (sel : List (Sum Nat D)) (n : Nat) (fn : List Sl → R (D × Bool × List D)) (fx : List Sl → R (Nat × List (Str × D))) : Prop := KwO rp X.prog X.w X.K X.mg X.base fa x m ks k sel n fn fx
/-- what is known of the def that hears a lambda -/
structure HearTxt (P : Program) (K : PySem.W.Frag) (mg : Str → Option Value) (fa : Fa) (hn : Str) (hr : Nat → List (Str × D) → R D) : Prop where
  ok : Hx.Heard P K mg fa.cl hn hr
structure LamB (X : Cx) (fa : Fa) : Prop where
  tab : ∃ c T, LamX.TabB X.base X.mg c T ∧ X.env.code = .ref c ∧ (T, X.env.qual ++ "<lambda>") ∈ fa.tb ∧ ∀ p ∈ fa.tb, p.1 = T → p.2 = X.env.qual ++ "<lambda>"
structure Gd (X : Cx) (fa : Fa) (Γ : Gt) (P : Pr) (n : Nat) : Prop where
  calm : X.calm = true
  nd : X.N.Nodup
  room : Room n X.A
  gz : Gz P.rp X.A
  free : ∀ x ∈ bnames, X.mg x = none
  con : ∀ (j : Nat) x d, Γ.cn[j]? = some x → P.cs[j]? = some d → ∃ u v, X.mg x = some u ∧ RelV v u ∧ ∀ M H, Rep (zt X fa) M H d v
  fns : ∀ (k : Nat) x, Γ.fnm[k]? = some x → x ≠ "" → X.mg x = some (.ref (fa k)) ∧ PySem.W.keepIn X.K (.ref (fa k)) = true ∧ FnP P.rp X.prog X.w X.K X.mg X.base (L2.CX X.prog X.w) n (fa k) (spF (zt X fa) (P.fn k) (P.fx k))
  fnk : ∀ (k : Nat), P.po k = true → ∃ x, Γ.fnm[k]? = some x ∧ x ≠ ""
  kws : ∀ (q : Nat) x m ks k sel, Γ.kw[q]? = some (x, m, ks) → P.kw[q]? = some (k, sel) → KwOk P.rp X fa x m ks k sel n (P.fn k) (P.fx k)
  low : (∀ (k : Nat) as, P.fl k as = .bad ∧ P.xl k as = .bad) ∨ ∃ l, n = l + 2 ∧ ∀ (q : Nat) x m ks k sel, Γ.kw[q]? = some (x, m, ks) → P.kw[q]? = some (k, sel) → KwOk false X fa x m ks k sel l (P.fl k) (P.xl k)
  cls : ∀ (c : Nat) x, Γ.cls[c]? = some x → ∃ fI, Xn.NuTxt X.prog X.K X.mg x (fa.cl c) fI
  lam : Γ.lam = true → LamB X fa ∧ HearTxt X.prog X.K X.mg fa Γ.hn P.hr
theorem passX {X : Cx} : Passes (L2.CX X.prog X.w) X (fun _ _ _ => False) := fun _ _ _ _ _ _ _ ⟨_, _, _, _, _, _, _, _, _, _, _, _, z⟩ => z.elim
theorem Gd.blk {X : Cx} {fa : Fa} {Γ : Gt} {P : Pr} {n : Nat} (G : Gd X fa Γ P n) (s : Shared) (H : Hp) (sc : Scope) (ce : Env) (fp : List Addr) (hq : ce.qual = X.env.qual := by rfl) (hc : ce.code = X.env.code := by rfl) : Gd (X.blk s H sc ce fp) fa Γ P n :=
  ⟨G.calm, G.nd, G.room, G.gz, G.free, G.con, G.fns, G.fnk, G.kws, G.low, G.cls, fun h => ⟨⟨by
    obtain ⟨c, T, h1, h2, h3, h4⟩ := (G.lam h).1.tab
    exact ⟨c, T, h1, hc.trans h2, by show (T, ce.qual ++ "<lambda>") ∈ fa.tb; rw [hq]; exact h3, fun p hp e => by show p.2 = ce.qual ++ "<lambda>"; rw [hq]; exact h4 p hp e⟩⟩, (G.lam h).2⟩⟩

/-! ### side conditions of the text -/
section
variable {env : Env} {e : Expr} {es : List Expr} {pos : Pos}
theorem star_cons (h : nst e = true) : starEach (e :: es) env = (false, eval e env) :: starEach es env := by
  cases e <;> first | rfl | cases h
theorem star_any : ∀ {es : List Expr}, es.all nst = true → (backTo pos (starEach es env)).any (·.1) = false
  | [], _ => rfl
  | e :: es, h => by
    simp only [List.all_cons, Bool.and_eq_true] at h
    rw [star_cons h.1]
    show (false || (backTo pos (starEach es env)).any (·.1)) = false
    rw [star_any h.2]; rfl
theorem plain_ix (h : nst e = true) : PlainIx e := fun o i => by
  cases e <;> first | rfl | cases h
theorem no_marks {op : CmpOp} (h : nst e = true) : behindInMarks op e = false := by
  cases e <;> first | rfl | cases h
theorem no_fold (h : nst e = true) : ∀ x, foldedSetIterable e env x = pure x := fun x => by
  cases e <;> first | rfl | cases h
theorem base_con {c : Const} {k : Nat} {p : Pos} {m : Str} : attributeBase (.Constant c k p) m env (eval (.Constant c k p) env) = eval (.Constant c k p) env := rfl
end

section
variable {X : Cx} {fa : Fa} {Γ : Gt} {P : Pr} {n : Nat} {F : Fm} {e x y z : Expr} {pos : Pos}
theorem isG_gl {sc : Scope} {x : Str} (hs : X.env.scope = sc) (h : isG sc x = true) : Gl X x ∧ (x == ("__debug__" : Str)) = false := by
  simp only [isG, Bool.and_eq_true, decide_eq_true_eq, Bool.not_eq_true'] at h
  exact ⟨by unfold Gl Env.kindOf; rw [hs]; exact h.1, h.2⟩

/-! ### names and constants -/
theorem s_var {sc : Scope} {i : Nat} {x : Str} (hs : X.env.scope = sc) (h : isV X.N sc i x = true) : PE X (.Name x pos) (tVar i) := by
  simp only [isV, Bool.and_eq_true, decide_eq_true_eq, Bool.not_eq_true', Bool.or_eq_true] at h
  obtain ⟨⟨⟨h1, h2⟩, h3⟩, h4⟩ := h
  refine pe_var h1 ?_ h2 h3
  unfold Vis
  rw [hs]
  rcases h4 with (h4 | h4) | h4
  · exact .inl h4
  · exact .inr (.inl h4)
  · exact .inr (.inr h4)
theorem rd_varE {Z : Zt} {i : Nat} {σ : L2.St} {H : Hp} {Q : VK} (h : rdE Z F (evE P (.var i)) σ H Q) : tVar i σ H Q := by
  obtain ⟨M, ς, d, fr, ς', S, e, k⟩ := h
  simp only [evE] at e
  split at e
  · cases e
    obtain ⟨v, h1, h2⟩ := S.shr i _ (by assumption)
    exact ⟨v, h1, k v H ⟨M, .refl S, h2, fun q => by cases q⟩⟩
  · cases e
    obtain ⟨a, M', h1, h2, h3⟩ := S.freeze (by assumption)
    exact ⟨_, h1, k _ H ⟨M', h2, h3, fun q => by cases q⟩⟩
  · cases e
theorem rd_varH {Z : Zt} {i : Nat} {f : List Sl → R (D × Bool × List Sl)} {σ : L2.St} {H : Hp} {Q : VK} (h : rdH Z F (hd (.var i) f) σ H Q) : tVar i σ H Q := by
  obtain ⟨M, ς, g, ς', S, e, k⟩ := h
  simp only [hd] at e
  split at e
  · cases e
    obtain ⟨a, h1, _⟩ := S.own i _ _ (by assumption)
    exact ⟨_, h1, k _ H M (.refl S) h1⟩
  · cases e
    obtain ⟨v, h1, h2⟩ := S.shr i _ (by assumption)
    exact ⟨v, h1, k v H M (.refl S) h2⟩
  · cases e
theorem rd_same {Z : Zt} {d : D} {v : V} {f : List Sl → R (D × Bool × List Sl)} (hf : ∀ ς, f ς = .ok (d, false, ς)) (hr : ∀ M H, Rep Z M H d v) {σ : L2.St} {H : Hp} {Q : VK} (h : rdE Z F f σ H Q) : tC v σ H Q := by
  obtain ⟨M, ς, g, fr, ς', S, e, k⟩ := h
  rw [hf] at e; cases e
  exact k v H ⟨M, .refl S, hr _ _, fun q => by cases q⟩
theorem s_con {d : D} (h : isCon d e = true) : PE X e (rdE (zt X fa) F (evE P (.con d))) := by
  have hf : ∀ ς, evE P (.con d) ς = .ok (d, false, ς) := fun ς => by simp only [evE]
  unfold isCon at h
  split at h
  · exact pimp pe_non fun σ H Q q => rd_same hf (fun _ _ => rep_non) q
  · rw [← beq_iff_eq.mp h]; rw [← beq_iff_eq.mp h] at *; exact pimp pe_bl fun σ H Q q => rd_same hf (fun _ _ => rep_bl) q
  · rw [← of_decide_eq_true h]; exact pimp pe_int fun σ H Q q => rd_same hf (fun _ _ => rep_int) q
  · rw [← of_decide_eq_true h]; exact pimp pe_str fun σ H Q q => rd_same hf (fun _ _ => rep_str) q
  · cases h
theorem s_glo (G : Gd X fa Γ P n) {sc : Scope} {j : Nat} {x : Str} (hs : X.env.scope = sc) (h : isG sc x = true) (hx : Γ.cn[j]? = some x) : PE X (.Name x pos) (rdE (zt X fa) F (evE P (.glo j))) := by
  obtain ⟨hg, hd⟩ := isG_gl hs h
  cases hd' : P.cs[j]? with
  | none => exact ⟨fun pins s σ H Q I ⟨M, ς, g, fr, ς', S, e, k⟩ => by simp only [evE, hd'] at e; cases e⟩
  | some d =>
    obtain ⟨u, v, h1, h2, h3⟩ := G.con j x d hx hd'
    exact pimp (pe_glob hg h1 h2 hd) fun σ H Q q => rd_same (fun ς => by simp only [evE, hd']) h3 q
theorem s_fnv (G : Gd X fa Γ P n) {sc : Scope} {k : Nat} {x : Str} (hs : X.env.scope = sc) (h : isG sc x = true) (hx : Γ.fnm[k]? = some x) (hne : x ≠ "") : PE X (.Name x pos) (rdE (zt X fa) F (evE P (.fnv k))) := by
  obtain ⟨hg, hd⟩ := isG_gl hs h
  obtain ⟨h1, _⟩ := G.fns k x hx hne
  exact pimp (pe_glob (v := .ref (fa k)) hg h1 rfl hd) fun σ H Q q => rd_same (d := .fn k) (fun ς => by simp only [evE]) (fun M H => by simp only [Rep]) q

/-! ### rows -/
theorem l_nil {Z : Zt} : PA X [] (rdL Z F (evL P [])) := ⟨fun pos pins s σ H Q I ⟨M, ς, ds, ς', S, e, k⟩ => by
  simp only [evL] at e; cases e
  exact pa_nil.run pos pins s σ H Q I (k [] H M (.refl S) (by simp only [RepL]))⟩
theorem l_cons {Z : Zt} {a : Ex} {as : List Ex} {es : List Expr} (h1 : PE X e (rdE Z F (evE P a))) (h2 : PA X es (rdL Z F (evL P as))) (hn : nst e = true) : PA X (e :: es) (rdL Z F (evL P (a :: as))) := ⟨fun pos pins s σ H Q I ⟨M, ς, ds, ς', S, e, k⟩ => by
  simp only [evL] at e
  obtain ⟨⟨d, fr, ς1⟩, e1, e⟩ := R.bind_is e
  obtain ⟨⟨ds2, ς2⟩, e2, e⟩ := R.bind_is e
  cases e
  refine (pa_cons h1 h2 (star_cons hn)).run pos pins s σ H Q I ⟨M, ς, d, fr, ς1, S, e1, fun v H1 ⟨M1, n1, r1, _⟩ => ⟨M1, ς1, ds2, _, n1.S, e2, fun vs H2 M2 n2 r2 => k _ H2 M2 (n1.trans n2) ?_⟩⟩
  simp only [RepL]
  exact ⟨v, vs, rfl, n2.rep r1, r2⟩⟩
theorem evL_len {P : Pr} : ∀ {as : List Ex} {ς : List Sl} {ds : List D} {ς' : List Sl}, evL P as ς = .ok (ds, ς') → ds.length = as.length
  | [], ς, ds, ς', e => by simp only [evL] at e; cases e; rfl
  | a :: as, ς, ds, ς', e => by
    simp only [evL] at e
    obtain ⟨_, e1, e⟩ := R.bind_is e
    obtain ⟨⟨ds2, ς2⟩, e2, e⟩ := R.bind_is e
    cases e
    simp [evL_len e2]
theorem s_tup {as : List Ex} {es : List Expr} {k1 : Nat} (h : PA X es (rdL (zt X fa) F (evL P as))) (hl : as.length ≤ 1000) : PE X (.Tuple es k1 pos) (rdE (zt X fa) F (evE P (.tup as))) :=
  pimp (pe_tup h) fun σ H Q ⟨M, ς, d, fr, ς', S, e, k⟩ => by
    simp only [evE] at e
    obtain ⟨⟨ds, ς1⟩, e1, e⟩ := R.bind_is e
    cases e
    refine ⟨M, ς, ds, _, S, e1, fun vs H1 M1 n1 r1 => ⟨?_, fun p hp => k _ _ (Mk.aft (.tup hp r1) n1)⟩⟩
    rw [← r1.length, evL_len e1]; exact Nat.le_trans hl (by decide)
theorem s_lst {as : List Ex} {es : List Expr} (h : PA X es (rdL (zt X fa) F (evL P as))) (hl : as.length ≤ 1000) : PE X (.List es pos) (rdE (zt X fa) F (evE P (.lst as))) :=
  pimp (pe_lst h) fun σ H Q ⟨M, ς, d, fr, ς', S, e, k⟩ => by
    simp only [evE] at e
    obtain ⟨⟨ds, ς1⟩, e1, e⟩ := R.bind_is e
    cases e
    refine ⟨M, ς, ds, _, S, e1, fun vs H1 M1 n1 r1 => ⟨?_, fun p hp => k _ _ (Mk.aft (.lst hp r1) n1)⟩⟩
    rw [← r1.length, evL_len e1]; exact Nat.le_trans hl (by decide)

/-! ### operators -/
theorem s_bin {op : Operator} {a b : Ex} (ha : PE X x (rdH (zt X fa) F (hd a (evE P a)))) (hb : PE X y (rdH (zt X fa) F (hd b (evE P b)))) : PE X (.BinOp x op y pos) (rdE (zt X fa) F (evE P (.bin op a b))) :=
  pimp (pe_op (op_bin (fa := fa) op) ha hb) fun σ H Q ⟨M, ς, d, fr, ς', S, e, k⟩ => by
    simp only [evE] at e
    obtain ⟨h, e1, e⟩ := R.bind_is e
    obtain ⟨g, e2, e⟩ := R.bind_is e
    obtain ⟨d1, e3, e⟩ := R.bind_is e
    obtain ⟨d2, e4, e⟩ := R.bind_is e
    obtain ⟨o, e5, e⟩ := R.bind_is e
    cases e
    exact two S e1 e2 fun v u H2 M2 n2 r1 r2 => ⟨M2, d1, d2, o, deref_pk n2.S r1 e3, deref_pk n2.S r2 e4, e5, fun w H3 m => k _ _ (m.aft n2)⟩
theorem s_cmp (G : Gd X fa Γ P n) {op : CmpOp} {a b : Ex} (ha : PE X x (rdH (zt X fa) F (hd a (evE P a)))) (hb : PE X y (rdH (zt X fa) F (hd b (evE P b)))) (hn : nst y = true) : PE X (.Compare x [op] [y] pos) (rdE (zt X fa) F (evE P (.cmp op a b))) :=
  pimp (pe_cmpR (op_cmp (fa := fa) G.room.units op) ha hb (no_marks hn)) fun σ H Q ⟨M, ς, d, fr, ς', S, e, k⟩ => by
    simp only [evE] at e
    obtain ⟨h, e1, e⟩ := R.bind_is e
    obtain ⟨g, e2, e⟩ := R.bind_is e
    obtain ⟨d1, e3, e⟩ := R.bind_is e
    obtain ⟨d2, e4, e⟩ := R.bind_is e
    obtain ⟨o, e5, e⟩ := R.bind_is e
    cases e
    exact two S e1 e2 fun v u H2 M2 n2 r1 r2 => ⟨M2, d1, d2, o, deref_pk n2.S r1 e3, deref_pk n2.S r2 e4, e5, k _ _ (Mk.aft (.same rep_bl) n2)⟩
theorem t_cmp (G : Gd X fa Γ P n) {op : CmpOp} {a b : Ex} (ha : PE X x (rdH (zt X fa) F (hd a (evE P a)))) (hb : PE X y (rdH (zt X fa) F (hd b (evE P b)))) (hn : nst y = true) : PT X (.Compare x [op] [y] pos) (rdT (zt X fa) F (evT P (.at (.cmp op a b)))) :=
  timp (pt_cmpR (op_cmp (fa := fa) G.room.units op) ha hb (no_marks hn)) fun σ H Q ⟨M, ς, b, ς', S, e, k⟩ => by
    simp only [evT, hd, evE] at e
    obtain ⟨_, e0, e⟩ := R.bind_is e
    obtain ⟨_, e0, ee⟩ := R.bind_is e0
    obtain ⟨h, e1, e0⟩ := R.bind_is e0
    obtain ⟨g, e2, e0⟩ := R.bind_is e0
    obtain ⟨d1, e3, e0⟩ := R.bind_is e0
    obtain ⟨d2, e4, e0⟩ := R.bind_is e0
    obtain ⟨o, e5, e0⟩ := R.bind_is e0
    cases e0; cases ee
    simp only [deref, R.bind_ok, truth] at e
    cases e
    exact two S e1 e2 fun v u H2 M2 n2 r1 r2 => ⟨M2, d1, d2, _, deref_pk n2.S r1 e3, deref_pk n2.S r2 e4, e5, _, rfl, k _ _ n2⟩
theorem chain_go {o1 o2 : CmpOp} {a b c : Ex} {σ : L2.St} {H : Hp} {Q : VK} (h : rdE (zt X fa) F (evE P (.chn o1 o2 a b c)) σ H Q) :
    tChain (rCmp (zt X fa) o1) (rCmp (zt X fa) o2) (rdH (zt X fa) F (hd a (evE P a))) (rdH (zt X fa) F (hd b (evE P b))) (rdH (zt X fa) F (hd c (evE P c))) σ H Q := by
  obtain ⟨M, ς, d, fr, ς', S, e, k⟩ := h
  simp only [evE] at e
  obtain ⟨h, e1, e⟩ := R.bind_is e
  obtain ⟨g, e2, e⟩ := R.bind_is e
  obtain ⟨d1, e3, e⟩ := R.bind_is e
  obtain ⟨d2, e4, e⟩ := R.bind_is e
  obtain ⟨t, e5, e⟩ := R.bind_is e
  refine two S e1 e2 fun v u H2 M2 n2 r1 r2 => ⟨M2, d1, d2, t, deref_pk n2.S r1 e3, deref_pk n2.S r2 e4, e5, t, rfl, ?_⟩
  cases t with
  | false =>
    simp only [cond_false] at e; cases e
    rw [if_neg Bool.false_ne_true]
    exact k _ _ (Mk.aft (.same rep_bl) n2)
  | true =>
    simp only [cond_true] at e
    obtain ⟨f, e6, e⟩ := R.bind_is e
    obtain ⟨d3, e7, e⟩ := R.bind_is e
    obtain ⟨d4, e8, e⟩ := R.bind_is e
    obtain ⟨t2, e9, e⟩ := R.bind_is e
    cases e
    rw [if_pos rfl]
    exact ⟨M2, g.2, f.1, f.2, n2.S, e6, fun w H3 M3 n3 r3 => ⟨M3, d3, d4, t2, deref_pk n3.S (n3.hdv r2) e7, deref_pk n3.S r3 e8, e9, k _ _ (Mk.aft (.same rep_bl) (n2.trans n3))⟩⟩
theorem s_chn (G : Gd X fa Γ P n) {o1 o2 : CmpOp} {a b c : Ex} (ha : PE X x (rdH (zt X fa) F (hd a (evE P a)))) (hb : PE X y (rdH (zt X fa) F (hd b (evE P b)))) (hc : PE X z (rdH (zt X fa) F (hd c (evE P c)))) (hn : nst z = true) :
    PE X (.Compare x [o1, o2] [y, z] pos) (rdE (zt X fa) F (evE P (.chn o1 o2 a b c))) :=
  pimp (pe_chain (op_cmp (fa := fa) G.room.units o1) (op_cmp (fa := fa) G.room.units o2) ha hb hc (no_marks hn)) fun σ H Q h => chain_go h
theorem t_chn (G : Gd X fa Γ P n) {o1 o2 : CmpOp} {a b c : Ex} (ha : PE X x (rdH (zt X fa) F (hd a (evE P a)))) (hb : PE X y (rdH (zt X fa) F (hd b (evE P b)))) (hc : PE X z (rdH (zt X fa) F (hd c (evE P c)))) (hn : nst z = true) :
    PT X (.Compare x [o1, o2] [y, z] pos) (rdT (zt X fa) F (evT P (.at (.chn o1 o2 a b c)))) :=
  timp (pt_chain (op_cmp (fa := fa) G.room.units o1) (op_cmp (fa := fa) G.room.units o2) ha hb hc (no_marks hn)) fun σ H Q ⟨M, ς, b, ς', S, e, k⟩ => by
    simp only [evT, hd] at e
    obtain ⟨_, e9, e⟩ := R.bind_is e
    obtain ⟨⟨d, fr, ς1⟩, e0, ee⟩ := R.bind_is e9
    cases ee
    simp only [deref, R.bind_ok] at e
    obtain ⟨t, e1, e⟩ := R.bind_is e
    cases e
    refine chain_go ⟨M, ς, d, fr, _, S, e0, fun v H' ⟨M', n', r', _⟩ => ?_⟩
    have hb : ∃ t', d = .bl t' := by
      clear e9
      simp only [evE] at e0
      obtain ⟨h, e1, e0⟩ := R.bind_is e0
      obtain ⟨g, e2, e0⟩ := R.bind_is e0
      obtain ⟨d1, e3, e0⟩ := R.bind_is e0
      obtain ⟨d2, e4, e0⟩ := R.bind_is e0
      obtain ⟨t, e5, e0⟩ := R.bind_is e0
      cases t with
      | false => simp only [cond_false] at e0; cases e0; exact ⟨_, rfl⟩
      | true =>
        simp only [cond_true] at e0
        obtain ⟨f, e6, e0⟩ := R.bind_is e0
        obtain ⟨d3, e7, e0⟩ := R.bind_is e0
        obtain ⟨d4, e8, e0⟩ := R.bind_is e0
        obtain ⟨t2, e9, e0⟩ := R.bind_is e0
        cases e0; exact ⟨_, rfl⟩
    obtain ⟨t', rfl⟩ := hb
    simp only [truth] at e1; cases e1
    simp only [Rep] at r'
    exact ⟨_, r', k _ _ n'⟩
theorem s_neg {a : Ex} (ha : PE X x (rdH (zt X fa) F (hd a (evE P a)))) : PE X (.UnaryOp .USub x pos) (rdE (zt X fa) F (evE P (.neg a))) :=
  pimp (pe_un un_neg ha) fun σ H Q ⟨M, ς, d, fr, ς', S, e, k⟩ => by
    simp only [evE] at e
    obtain ⟨h, e1, e⟩ := R.bind_is e
    obtain ⟨d1, e3, e⟩ := R.bind_is e
    obtain ⟨i, e4, e⟩ := R.bind_is e
    cases e
    refine ⟨M, ς, h.1, h.2, S, e1, fun v H1 M1 n1 r1 => ?_⟩
    have p := deref_pk n1.S r1 e3
    cases d1 <;> simp only [intOf] at e4 <;> cases e4
    exact ⟨_, p.int, k _ _ (Mk.aft (.same rep_int) n1)⟩
theorem s_nt {a : Ex} (ha : PE X x (rdH (zt X fa) F (hd a (evE P a)))) : PE X (.UnaryOp .Not x pos) (rdE (zt X fa) F (evE P (.nt a))) :=
  pimp (pe_notT ha) fun σ H Q ⟨M, ς, d, fr, ς', S, e, k⟩ => by
    simp only [evE] at e
    obtain ⟨h, e1, e⟩ := R.bind_is e
    obtain ⟨d1, e3, e⟩ := R.bind_is e
    obtain ⟨b, e4, e⟩ := R.bind_is e
    cases e
    exact ⟨M, ς, h.1, h.2, S, e1, fun v H1 M1 n1 r1 => ⟨b, truth_pk (deref_pk n1.S r1 e3) e4, k _ _ (Mk.aft (.same rep_bl) n1)⟩⟩
theorem s_and {a b : Ex} {r : List Expr} (ha : PE X x (rdE (zt X fa) F (evE P a))) (hb : PE X (.BoolOp .And (y :: r) pos) (rdE (zt X fa) F (evE P b))) : PE X (.BoolOp .And (x :: y :: r) pos) (rdE (zt X fa) F (evE P (.and a b))) :=
  pimp (pe_andT ha hb) fun σ H Q ⟨M, ς, d, fr, ς', S, e, k⟩ => by
    simp only [evE] at e
    obtain ⟨⟨d1, f1, ς1⟩, e1, e⟩ := R.bind_is e
    obtain ⟨t, e2, e⟩ := R.bind_is e
    refine ⟨M, ς, d1, f1, ς1, S, e1, fun v H1 ⟨M1, n1, r1, _⟩ => ⟨t, truth_pk r1.pk e2, ?_⟩⟩
    cases t with
    | true =>
      rw [if_pos rfl]
      simp only [cond_true] at e
      exact ⟨M1, ς1, d, fr, ς', n1.S, e, fun w H2 ⟨M2, n2, r2, q2⟩ => k w H2 ⟨M2, n1.trans n2, r2, fun z => let ⟨p, h1, h2, h3⟩ := q2 z; ⟨p, h1, n1.f p h2, h3⟩⟩⟩
    | false =>
      rw [if_neg Bool.false_ne_true]
      simp only [cond_false] at e; cases e
      exact k v H1 ⟨M1, n1, r1, fun q => by cases q⟩
theorem s_or {a b : Ex} {r : List Expr} (ha : PE X x (rdE (zt X fa) F (evE P a))) (hb : PE X (.BoolOp .Or (y :: r) pos) (rdE (zt X fa) F (evE P b))) : PE X (.BoolOp .Or (x :: y :: r) pos) (rdE (zt X fa) F (evE P (.or a b))) :=
  pimp (pe_orT ha hb) fun σ H Q ⟨M, ς, d, fr, ς', S, e, k⟩ => by
    simp only [evE] at e
    obtain ⟨⟨d1, f1, ς1⟩, e1, e⟩ := R.bind_is e
    obtain ⟨t, e2, e⟩ := R.bind_is e
    refine ⟨M, ς, d1, f1, ς1, S, e1, fun v H1 ⟨M1, n1, r1, _⟩ => ⟨t, truth_pk r1.pk e2, ?_⟩⟩
    cases t with
    | false =>
      rw [if_neg Bool.false_ne_true]
      simp only [cond_false] at e
      exact ⟨M1, ς1, d, fr, ς', n1.S, e, fun w H2 ⟨M2, n2, r2, q2⟩ => k w H2 ⟨M2, n1.trans n2, r2, fun z => let ⟨p, h1, h2, h3⟩ := q2 z; ⟨p, h1, n1.f p h2, h3⟩⟩⟩
    | true =>
      rw [if_pos rfl]
      simp only [cond_true] at e; cases e
      exact k v H1 ⟨M1, n1, r1, fun q => by cases q⟩
theorem s_ite {c : Tx} {a b : Ex} (hc : PT X z (rdT (zt X fa) F (evT P c))) (ha : PE X x (rdE (zt X fa) F (evE P a))) (hb : PE X y (rdE (zt X fa) F (evE P b))) : PE X (.IfExp z x y pos) (rdE (zt X fa) F (evE P (.ite c a b))) :=
  pimp (pe_ifExp hc ha hb) fun σ H Q ⟨M, ς, d, fr, ς', S, e, k⟩ => by
    simp only [evE] at e
    obtain ⟨⟨t, ς1⟩, e1, e⟩ := R.bind_is e
    refine ⟨M, ς, t, ς1, S, e1, fun H1 M1 n1 => ?_⟩
    cases t with
    | true =>
      rw [if_pos rfl]
      simp only [cond_true] at e
      exact ⟨M1, ς1, d, fr, ς', n1.S, e, fun w H2 ⟨M2, n2, r2, q2⟩ => k w H2 ⟨M2, n1.trans n2, r2, fun z => let ⟨p, h1, h2, h3⟩ := q2 z; ⟨p, h1, n1.f p h2, h3⟩⟩⟩
    | false =>
      rw [if_neg Bool.false_ne_true]
      simp only [cond_false] at e
      exact ⟨M1, ς1, d, fr, ς', n1.S, e, fun w H2 ⟨M2, n2, r2, q2⟩ => k w H2 ⟨M2, n1.trans n2, r2, fun z => let ⟨p, h1, h2, h3⟩ := q2 z; ⟨p, h1, n1.f p h2, h3⟩⟩⟩
theorem s_idx (G : Gd X fa Γ P n) {a b : Ex} (ha : PE X x (rdH (zt X fa) F (hd a (evE P a)))) (hb : PE X y (rdH (zt X fa) F (hd b (evE P b)))) (hn : nst y = true) : PE X (.Subscript x y pos) (rdE (zt X fa) F (evE P (.idx a b))) :=
  pimp (pe_ix (ix_D (fa := fa) G.room.units) ha hb (plain_ix hn)) fun σ H Q ⟨M, ς, d, fr, ς', S, e, k⟩ => by
    simp only [evE] at e
    obtain ⟨h, e1, e⟩ := R.bind_is e
    obtain ⟨g, e2, e⟩ := R.bind_is e
    obtain ⟨d1, e3, e⟩ := R.bind_is e
    obtain ⟨d2, e4, e⟩ := R.bind_is e
    obtain ⟨o, e5, e⟩ := R.bind_is e
    cases e
    exact two S e1 e2 fun v u H2 M2 n2 r1 r2 => ⟨M2, d1, d2, _, deref_pk n2.S r1 e3, deref_pk n2.S r2 e4, e5, fun w r => k _ _ (Mk.aft (.same r) n2)⟩
theorem o_none {Z : Zt} : PO X none (rdO Z F (evO P none)) := ⟨fun pins s σ H Q I ⟨M, ς, o, ς', S, e, k⟩ => by
  simp only [evO] at e; cases e
  exact po_none.run pins s σ H Q I (k H M (.refl S))⟩
theorem o_some {a : Ex} (ha : PE X x (rdH (zt X fa) F (hd a (evE P a)))) : PO X (some x) (rdO (zt X fa) F (evO P (some a))) := ⟨fun pins s σ H Q I ⟨M, ς, o, ς', S, e, k⟩ => by
  simp only [evO] at e
  obtain ⟨h, e1, e⟩ := R.bind_is e
  obtain ⟨d, e2, e⟩ := R.bind_is e
  obtain ⟨i, e3, e⟩ := R.bind_is e
  cases e
  refine (po_some ha).run pins s σ H Q I ⟨M, ς, h.1, h.2, S, e1, fun v H1 M1 n1 r1 => ?_⟩
  have p := deref_pk n1.S r1 e2
  cases d <;> simp only [intOf] at e3 <;> cases e3
  exact ⟨_, p.int, k _ _ n1⟩⟩
theorem s_sli {a : Ex} {lo hi : Option Ex} {l u : Option Expr} {p2 : Pos} (ha : PE X x (rdH (zt X fa) F (hd a (evE P a)))) (hl : PO X l (rdO (zt X fa) F (evO P lo))) (hu : PO X u (rdO (zt X fa) F (evO P hi))) :
    PE X (.Subscript x (.Slice l u none p2) pos) (rdE (zt X fa) F (evE P (.sli a lo hi))) :=
  pimp (pe_slice (sl_D (fa := fa)) ha hl hu) fun σ H Q ⟨M, ς, d, fr, ς', S, e, k⟩ => by
    simp only [evE] at e
    obtain ⟨h, e1, e⟩ := R.bind_is e
    obtain ⟨⟨o1, ς1⟩, e2, e⟩ := R.bind_is e
    obtain ⟨⟨o2, ς2⟩, e3, e⟩ := R.bind_is e
    obtain ⟨d1, e4, e⟩ := R.bind_is e
    obtain ⟨o, e5, e⟩ := R.bind_is e
    cases e
    exact ⟨M, ς, h.1, h.2, S, e1, fun v H1 M1 n1 r1 => ⟨M1, h.2, o1, ς1, n1.S, e2, fun H2 M2 n2 => ⟨M2, ς1, o2, ς2, n2.S, e3, fun H3 M3 n3 =>
      ⟨M3, d1, o, deref_pk n3.S (n3.hdv (n2.hdv r1)) e4, e5, fun w H4 m => k _ _ (m.aft ((n1.trans n2).trans n3))⟩⟩⟩⟩
end
end Iq
set_option Elab.async false
set_option linter.all false
set_option maxRecDepth 100000
set_option maxHeartbeats 1000000
namespace Iq
open PySem L2

section
variable {X : Cx} {fa : Fa} {Γ : Gt} {P : Pr} {n : Nat} {F : Fm} {e x y z : Expr} {pos : Pos}

theorem HdV.new {Z : Zt} {M : Mu} {σ : L2.St} {H : Hp} {h : Hd} {v : V} {p : Addr} {o : HO} (r : HdV Z M σ H h v) (hp : H p = none) : HdV Z M σ (upd H p o) h v := by
  cases h with
  | val d => exact Rep.carry (.evo (.new hp)) _ _ r
  | sl i => exact r

/-! ### tests -/
theorem plain_true {env : Env} (h : plainT e = true) : ∀ whole, isTrue e env whole = (do let v ← whole; standAt e.pos; holding [v] (truthy v)) := fun whole => by
  cases e with
  | UnaryOp op a p => cases op <;> first | rfl | cases h
  | _ => first | rfl | cases h
theorem t_at {a : Ex} (ha : PE X x (rdH (zt X fa) F (hd a (evE P a)))) (hp : plainT x = true) : PT X x (rdT (zt X fa) F (evT P (.at a))) :=
  timp (pt_truth ha (plain_true hp)) fun σ H Q ⟨M, ς, b, ς', S, e, k⟩ => by
    simp only [evT] at e
    obtain ⟨h, e1, e⟩ := R.bind_is e
    obtain ⟨d, e2, e⟩ := R.bind_is e
    obtain ⟨t, e3, e⟩ := R.bind_is e
    cases e
    exact ⟨M, ς, h.1, h.2, S, e1, fun v H1 M1 n1 r1 => ⟨_, truth_pk (deref_pk n1.S r1 e2) e3, k _ _ n1⟩⟩
theorem t_nt {a : Tx} (ha : PT X x (rdT (zt X fa) F (evT P a))) : PT X (.UnaryOp .Not x pos) (rdT (zt X fa) F (evT P (.nt a))) :=
  timp (pt_not ha) fun σ H Q ⟨M, ς, b, ς', S, e, k⟩ => by
    simp only [evT] at e
    obtain ⟨⟨t, ς1⟩, e1, e⟩ := R.bind_is e
    cases e
    exact ⟨M, ς, _, _, S, e1, fun H1 M1 n1 => k _ _ n1⟩
theorem go_and {Z : Zt} {a b : Tx} {σ : L2.St} {H : Hp} {Q : Bool → Hp → Prop} (h : rdT Z F (evT P (.and a b)) σ H Q) : tAnd (rdT Z F (evT P a)) (rdT Z F (evT P b)) σ H Q := by
  obtain ⟨M, ς, t, ς', S, e, k⟩ := h
  simp only [evT] at e
  obtain ⟨⟨t1, ς1⟩, e1, e⟩ := R.bind_is e
  refine ⟨M, ς, t1, ς1, S, e1, fun H1 M1 n1 => ?_⟩
  cases t1 with
  | true =>
    rw [if_pos rfl]
    simp only [cond_true] at e
    exact ⟨M1, ς1, t, ς', n1.S, e, fun H2 M2 n2 => k H2 M2 (n1.trans n2)⟩
  | false =>
    rw [if_neg Bool.false_ne_true]
    simp only [cond_false] at e; cases e
    exact k _ _ n1
theorem go_or {Z : Zt} {a b : Tx} {σ : L2.St} {H : Hp} {Q : Bool → Hp → Prop} (h : rdT Z F (evT P (.or a b)) σ H Q) : tOr (rdT Z F (evT P a)) (rdT Z F (evT P b)) σ H Q := by
  obtain ⟨M, ς, t, ς', S, e, k⟩ := h
  simp only [evT] at e
  obtain ⟨⟨t1, ς1⟩, e1, e⟩ := R.bind_is e
  refine ⟨M, ς, t1, ς1, S, e1, fun H1 M1 n1 => ?_⟩
  cases t1 with
  | false =>
    rw [if_neg Bool.false_ne_true]
    simp only [cond_false] at e
    exact ⟨M1, ς1, t, ς', n1.S, e, fun H2 M2 n2 => k H2 M2 (n1.trans n2)⟩
  | true =>
    rw [if_pos rfl]
    simp only [cond_true] at e; cases e
    exact k _ _ n1
theorem wimp {t t' : TT} (h : PW X e t) (i : ∀ σ H Q, t' σ H Q → t σ H Q) : PW X e t' := ⟨fun wh pins s σ H Q I q => h.run wh pins s σ H Q I (i σ H Q q)⟩

/-! ### built-ins -/
theorem mem_bn {x : Str} (h : bnames.contains x = true) : x ∈ bnames := by simpa using h
theorem s_bi (G : Gd X fa Γ P n) {sc : Scope} {f : Bi} {a : Ex} {x : Str} {p : Pos} (hs : X.env.scope = sc) (h : isG sc x = true) (hx : x = biS f) (ha : PE X y (rdH (zt X fa) F (hd a (evE P a)))) (hn : nst y = true) :
    PE X (.Call (.Name x p) [y] [] pos) (rdE (zt X fa) F (evE P (.bi f a))) := by
  obtain ⟨hg, hd⟩ := isG_gl hs h
  have hm : X.mg x = none := G.free x (by rw [hx]; cases f <;> exact mem_bn (by decide +kernel))
  have go : ∀ σ H Q, rdE (zt X fa) F (evE P (.bi f a)) σ H Q → tCB (rBi (zt X fa) f) (tCons (rdH (zt X fa) F (Iq.hd a (evE P a))) tNil) σ H Q := fun σ H Q ⟨M, ς, d, fr, ς', S, e, k⟩ => by
    simp only [evE] at e
    obtain ⟨h, e1, e⟩ := R.bind_is e
    obtain ⟨d1, e2, e⟩ := R.bind_is e
    obtain ⟨o, e3, e⟩ := R.bind_is e
    cases e
    exact ⟨M, ς, h.1, h.2, S, e1, fun v H1 M1 n1 r1 => ⟨M1, d1, o, v, rfl, deref_pk n1.S r1 e2, e3, fun w H2 m => k _ _ (m.aft n1)⟩⟩
  have pa : PA X [y] (tCons (rdH (zt X fa) F (Iq.hd a (evE P a))) tNil) := pa_cons ha pa_nil (star_cons hn)
  have hnn : x ≠ "__name__" := by rw [hx]; cases f <;> decide +kernel
  cases f with
  | len => exact pimp (pe_callB (id := "len") (cr_bi G.calm .len) hg hm (by rw [hx]; decide +kernel) pa hnn hd (star_cons hn) rfl) go
  | all => exact pimp (pe_callB (id := "all") (cr_bi G.calm .all) hg hm (by rw [hx]; decide +kernel) pa hnn hd (star_cons hn) rfl) go
  | any => exact pimp (pe_callB (id := "any") (cr_bi G.calm .any) hg hm (by rw [hx]; decide +kernel) pa hnn hd (star_cons hn) rfl) go
  | int => exact pimp (pe_callTy (T := "int") (cr_bi G.calm .int) hg hm (by rw [hx]; decide +kernel) pa hnn hd (star_cons hn) rfl) go
  | list => exact pimp (pe_callTy (T := "list") (cr_bi G.calm .list) hg hm (by rw [hx]; decide +kernel) pa hnn hd (star_cons hn) rfl) go
  | tuple => exact pimp (pe_callTy (T := "tuple") (cr_bi G.calm .tuple) hg hm (by rw [hx]; decide +kernel) pa hnn hd (star_cons hn) rfl) go

/-! ### isinstance -/
theorem s_ty (G : Gd X fa Γ P n) {sc : Scope} {t : Ty} (hs : X.env.scope = sc) (h : agTy sc t e = true) : PE X e (tC (.ty (tyS t))) := by
  unfold agTy at h
  split at h
  · simp only [Bool.and_eq_true, decide_eq_true_eq] at h
    obtain ⟨hx, h⟩ := h
    obtain ⟨hg, hd⟩ := isG_gl hs h
    rename_i xx _
    have hm : X.mg xx = none := G.free xx (by rw [hx]; cases t <;> exact mem_bn (by decide +kernel))
    refine pe_bltn (v := .ty (tyS t)) (u := .type (tyS t)) hg hm ?_ rfl ?_ hd
    · rw [hx]; cases t <;> decide +kernel
    · rw [hx]; cases t <;> decide +kernel
  · cases h
def tTys : List Ty → TA
  | [] => tNil
  | t :: ts => tCons (tC (.ty (tyS t))) (tTys ts)
theorem ty_nst {sc : Scope} {t : Ty} (h : agTy sc t e = true) : nst e = true := by
  unfold agTy at h
  split at h
  · rfl
  · cases h
theorem s_tys (G : Gd X fa Γ P n) {sc : Scope} (hs : X.env.scope = sc) : ∀ {ts : List Ty} {es : List Expr}, agTys sc ts es = true → PA X es (tTys ts)
  | [], [], _ => pa_nil
  | t :: ts, e :: es, h => by
    simp only [agTys, Bool.and_eq_true] at h
    exact pa_cons (s_ty G hs h.1) (s_tys G hs h.2) (star_cons (ty_nst h.1))
  | [], _ :: _, h => by simp only [agTys] at h; cases h
  | _ :: _, [], h => by simp only [agTys] at h; cases h
theorem tys_go {σ : L2.St} {H : Hp} {Q : List V → Hp → Prop} : ∀ {ts : List Ty} , Q (ts.map fun t => .ty (tyS t)) H → tTys ts σ H Q
  | [], h => h
  | t :: ts, h => tys_go (ts := ts) (Q := fun vs H => Q (.ty (tyS t) :: vs) H) h
theorem tys_len {sc : Scope} : ∀ {ts : List Ty} {es : List Expr}, agTys sc ts es = true → ts.length = es.length
  | [], [], _ => rfl
  | t :: ts, e :: es, h => by
    simp only [agTys, Bool.and_eq_true] at h
    simp [tys_len h.2]
  | [], _ :: _, h => by simp only [agTys] at h; cases h
  | _ :: _, [], h => by simp only [agTys] at h; cases h
theorem cls_tys : ∀ ts : List Ty, Paired ClsV (ts.map fun t => .ty (tyS t)) (ts.map fun t => .type (tyS t))
  | [] => .nil
  | t :: ts => .cons (.ty _) (cls_tys ts)
theorem isTys_kind {d : D} {ts : List Ty} {b : Bool} (h0 : ts ≠ []) (e : isTys d ts = some b) : ∃ T, kindS d = some T := by
  cases ts with
  | nil => exact absurd rfl h0
  | cons t ts =>
    simp only [isTys] at e
    split at e
    · obtain ⟨T, h, _⟩ := isTy_kit (by assumption)
      exact ⟨T, h⟩
    · cases e
theorem boot_isi : bootBuiltins ("isinstance" : Str) = some (.builtin "isinstance") := by decide +kernel
theorem s_isi1 (G : Gd X fa Γ P n) {sc : Scope} {t : Ty} {a : Ex} {x : Str} {p : Pos} (hs : X.env.scope = sc) (h : isG sc x = true) (hx : x = "isinstance") (ha : PE X y (rdH (zt X fa) F (hd a (evE P a)))) (hn : nst y = true) (hz : agTy sc t z = true) :
    PE X (.Call (.Name x p) [y, z] [] pos) (rdE (zt X fa) F (evE P (.isi a [t]))) := by
  obtain ⟨hg, hd⟩ := isG_gl hs h
  have hm : X.mg x = none := G.free x (by rw [hx]; exact mem_bn (by decide +kernel))
  have hn2 := ty_nst hz
  have pa : PA X [y, z] (tCons (rdH (zt X fa) F (Iq.hd a (evE P a))) (tCons (tC (.ty (tyS t))) tNil)) := pa_cons ha (pa_cons (s_ty G hs hz) pa_nil (star_cons hn2)) (star_cons hn)
  refine pimp (pe_callB call_isi hg hm (by rw [hx]; exact boot_isi) pa (by rw [hx]; decide +kernel) hd (star_cons hn) (star_any (by simp [hn2]))) fun σ H Q ⟨M, ς, d, fr, ς', S, e, k⟩ => ?_
  simp only [evE] at e
  obtain ⟨h, e1, e⟩ := R.bind_is e
  obtain ⟨d1, e2, e⟩ := R.bind_is e
  split at e
  · rename_i b hb
    cases e
    refine ⟨M, ς, h.1, h.2, S, e1, fun v H1 M1 n1 r1 => ?_⟩
    simp only [isTys] at hb
    split at hb
    · rename_i b1 b2 hb1 hb2
      cases hb
      cases hb2
      obtain ⟨T, hT, hk⟩ := isTy_kit hb1
      refine ⟨v, .ty (tyS t), .type T, .type (tyS t), b1, rfl, .ty _, kind_ty (deref_pk n1.S r1 e2) hT, kit_ty hk, ?_⟩
      rw [Bool.or_false] at k
      exact k _ _ (Mk.aft (.same rep_bl) n1)
    · cases hb
  · cases e
theorem s_isiN (G : Gd X fa Γ P n) {sc : Scope} {ts : List Ty} {a : Ex} {x : Str} {p : Pos} {es : List Expr} {k1 : Nat} {p2 : Pos} (hs : X.env.scope = sc) (h : isG sc x = true) (hx : x = "isinstance") (ha : PE X y (rdH (zt X fa) F (hd a (evE P a)))) (hn : nst y = true) (hz : agTys sc ts es = true) (h0 : ts ≠ []) (hl : es.length ≤ 1000) :
    PE X (.Call (.Name x p) [y, .Tuple es k1 p2] [] pos) (rdE (zt X fa) F (evE P (.isi a ts))) := by
  obtain ⟨hg, hd⟩ := isG_gl hs h
  have hm : X.mg x = none := G.free x (by rw [hx]; exact mem_bn (by decide +kernel))
  have pa : PA X [y, .Tuple es k1 p2] (tCons (rdH (zt X fa) F (Iq.hd a (evE P a))) (tCons (tTup (tTys ts)) tNil)) := pa_cons ha (pa_cons (pe_tup (s_tys G hs hz)) pa_nil rfl) (star_cons hn)
  refine pimp (pe_callB call_isiT hg hm (by rw [hx]; exact boot_isi) pa (by rw [hx]; decide +kernel) hd (star_cons hn) rfl) fun σ H Q ⟨M, ς, d, fr, ς', S, e, k⟩ => ?_
  simp only [evE] at e
  obtain ⟨h, e1, e⟩ := R.bind_is e
  obtain ⟨d1, e2, e⟩ := R.bind_is e
  split at e
  · rename_i b hb
    cases e
    refine ⟨M, ς, h.1, h.2, S, e1, fun v H1 M1 n1 r1 => tys_go ⟨?_, fun q hq => ?_⟩⟩
    · rw [List.length_map, tys_len hz]; exact Nat.le_trans hl (by decide)
    · have n2 := n1.new (o := .tup (ts.map fun t => .ty (tyS t))) hq
      have pk := deref_pk n2.S (r1.new hq) e2
      obtain ⟨T, hT⟩ := isTys_kind h0 hb
      exact ⟨v, q, _, .type T, _, b, rfl, upd_same, cls_tys ts, kind_ty pk hT, isTys_kit hT hb, k _ _ (Mk.aft (.same rep_bl) n2)⟩
  · cases e

/-! ### join -/
theorem s_join {s : Str} {b : Ex} {kk : Nat} {p ap : Pos} (hb : PE X y (rdH (zt X fa) F (hd b (evE P b)))) (hn : nst y = true) (hl : (ap.endLine == pos.line) = true) :
    PE X (.Call (.Attribute (.Constant (.str s) kk p) "join" ap) [y] [] pos) (rdE (zt X fa) F (evE P (.join s b))) :=
  pimp (pe_join pe_str hb (star_cons hn) base_con hl) fun σ H Q ⟨M, ς, d, fr, ς', S, e, k⟩ => by
    simp only [evE] at e
    obtain ⟨g, e2, e⟩ := R.bind_is e
    obtain ⟨d2, e4, e⟩ := R.bind_is e
    obtain ⟨o, e5, e⟩ := R.bind_is e
    cases e
    unfold joinD at e5
    split at e5
    · split at e5
      · rename_i ys hy
        split at e5
        · rename_i hz
          cases e5
          refine ⟨⟨s, rfl⟩, M, ς, g.1, g.2, S, e2, fun u H2 M2 n2 r2 => ?_⟩
          obtain ⟨l, vs, rfl, hl, r⟩ := (deref_pk n2.S r2 e4).lst
          obtain rfl := strL_rep r hy
          refine ⟨s, l, ys, rfl, rfl, .inl (.inl hl), ?_, k _ _ (Mk.aft (.same rep_str) n2)⟩
          have e6 : (ys.map (·.length)).sum = (ys.map Str.length).sum := rfl
          rw [e6]
          omega
        · cases e5
      · cases e5
    · cases e5

/-! ### a dict's display -/
def tKV : List Str → List TE → List (TE × TE)
  | k :: ks, t :: ts => (tC (.str k), t) :: tKV ks ts
  | _, _ => []
def evTs (Z : Zt) (F : Fm) (P : Pr) (as : List Ex) : List TE := as.map fun a => rdE Z F (evE P a)
inductive PEs (X : Cx) : List Expr → List TE → Prop
  | nil : PEs X [] []
  | cons {e : Expr} {es : List Expr} {t : TE} {ts : List TE} : PE X e t → PEs X es ts → PEs X (e :: es) (t :: ts)
theorem pps_of : ∀ {ks : List Str} {kes : List (Option Expr)} {es : List Expr} {ts : List TE}, agKeys ks kes = true → ks.length = es.length → PEs X es ts → PPs X pos kes es (tKV ks ts)
  | [], [], [], _, _, _, .nil => pps_nil
  | k :: ks, ke :: kes, e :: es, _, h, hl, .cons p q => by
    simp only [agKeys, Bool.and_eq_true, decide_eq_true_eq] at h
    obtain ⟨c, p0, rfl⟩ := strOf_is h.1
    exact pps_cons pe_str p (pps_of h.2 (by simpa using hl) q)
  | _ :: _, [], _, _, h, _, _ => by simp only [agKeys] at h; cases h
  | [], _ :: _, [], _, h, _, _ => by simp only [agKeys] at h; cases h
  | [], _, _ :: _, _, _, hl, _ => by cases hl
  | _ :: _, _, [], _, _, hl, _ => by cases hl
theorem pairs_go {Z : Zt} {σ : L2.St} : ∀ {ks : List Str} {as : List Ex} {M : Mu} {ς : List Sl} {H : Hp} {ds : List D} {ς' : List Sl} {Q : List (V × V) → Hp → Prop}, ks.length = as.length → Sim Z F M σ ς H → evL P as ς = .ok (ds, ς') →
    (∀ vs H' M', Nxt Z F M σ ς H M' ς' H' → RepL Z M' H' ds vs → Q (ks.zip vs |>.map fun p => (.str p.1, p.2)) H') → tPairs (tKV ks (evTs Z F P as)) σ H Q
  | [], [], M, ς, H, ds, ς', Q, _, S, e, k => by
    simp only [evL] at e; cases e
    exact k [] H M (.refl S) (by simp only [RepL])
  | x :: ks, a :: as, M, ς, H, ds, ς', Q, hl, S, e, k => by
    simp only [evL] at e
    obtain ⟨⟨d, fr, ς1⟩, e1, e⟩ := R.bind_is e
    obtain ⟨⟨ds2, ς2⟩, e2, e⟩ := R.bind_is e
    cases e
    refine ⟨M, ς, d, fr, ς1, S, e1, fun v H1 ⟨M1, n1, r1, _⟩ => pairs_go (by simpa using hl) n1.S e2 fun vs H2 M2 n2 r2 => ?_⟩
    have := k (v :: vs) H2 M2 (n1.trans n2) (by simp only [RepL]; exact ⟨v, vs, rfl, n2.rep r1, r2⟩)
    exact this
  | [], _ :: _, _, _, _, _, _, _, hl, _, _, _ => by cases hl
  | _ :: _, [], _, _, _, _, _, _, hl, _, _, _ => by cases hl

theorem zip_rep {Z : Zt} {M : Mu} {H : Hp} : ∀ {ks : List Str} {ds : List D} {vs : List V}, RepL Z M H ds vs → RepK Z M H ((ks.map Sum.inr).zip ds) ((ks.map Sum.inr).zip vs)
  | [], _, _, _ => by simp [RepK]
  | _ :: _, [], _, h => by simp only [RepL] at h; subst h; simp [RepK]
  | k :: ks, d :: ds, vs, h => by
    simp only [RepL] at h
    obtain ⟨v, r, rfl, h1, h2⟩ := h
    simp only [List.map_cons, List.zip_cons_cons, RepK]
    exact ⟨v, _, rfl, h1, zip_rep h2⟩
theorem merge_nodup : ∀ (more kvs : List (Key × V)), (more.map (·.1)).Nodup → (∀ k ∈ more.map (·.1), k ∉ kvs.map (·.1)) → mergeK kvs more = kvs ++ more
  | [], kvs, _, _ => by simp [mergeK]
  | p :: r, kvs, hn, hd => by
    simp only [List.map_cons, List.nodup_cons] at hn
    have h0 : (kvs.any fun kv => decide (kv.1 = p.1)) = false := by
      rw [List.any_eq_false]
      intro q hq e
      exact hd p.1 (by simp) (by rw [← of_decide_eq_true e]; exact List.mem_map_of_mem hq)
    have h1 : putK kvs p.1 p.2 = kvs ++ [p] := by
      unfold putK
      rw [if_neg (by rw [h0]; decide)]
    show mergeK (putK kvs p.1 p.2) r = _
    rw [h1, merge_nodup r (kvs ++ [p]) hn.2 ?_]
    · simp
    · intro k hk
      simp only [List.map_append, List.map_cons, List.map_nil, List.mem_append, List.mem_singleton, not_or]
      exact ⟨hd k (by simp only [List.map_cons]; exact List.mem_cons_of_mem _ hk), fun e => hn.1 (e ▸ hk)⟩
theorem s_dct {ks : List Str} {as : List Ex} {kes : List (Option Expr)} {es : List Expr} (hk : agKeys ks kes = true) (h15 : ks.length ≤ 15) (hnd : ks.Nodup) (h0 : 0 < ks.length) (hl : ks.length = as.length) (hle : ks.length = es.length) (ps : PEs X es (evTs (zt X fa) F P as)) :
    PE X (.Dict kes es pos) (rdE (zt X fa) F (evE P (.dct ks as))) := by
  have hkl : ∀ {ks : List Str} {kes : List (Option Expr)}, agKeys ks kes = true → kes.length = ks.length ∧ kes.all (·.isSome) = true := by
    intro ks
    induction ks with
    | nil => intro kes h; cases kes with
      | nil => exact ⟨rfl, rfl⟩
      | cons _ _ => simp only [agKeys] at h; cases h
    | cons k ks ih => intro kes h; cases kes with
      | nil => simp only [agKeys] at h; cases h
      | cons e kes =>
        simp only [agKeys, Bool.and_eq_true, decide_eq_true_eq] at h
        obtain ⟨i1, i2⟩ := ih h.2
        obtain ⟨c, p, rfl⟩ := strOf_is h.1
        exact ⟨by simp [i1], by simpa using i2⟩
  obtain ⟨l1, l2⟩ := hkl hk
  refine pimp (pe_disp (pps_of hk hle ps) l2 (by omega) (by intro e; rw [e] at l1; simp at l1; omega) (by omega)) fun σ H Q ⟨M, ς, d, fr, ς', S, e, k⟩ p hp => ?_
  simp only [evE] at e
  obtain ⟨⟨ds, ς1⟩, e1, e⟩ := R.bind_is e
  cases e
  refine pairs_go hl (S.newM (o := .dK []) hp) e1 fun vs H2 M2 n2 r2 => ?_
  obtain ⟨hd, md⟩ := made (o2 := .dK ((ks.map Sum.inr).zip vs)) S hp n2
  refine ⟨hd, (ks.map Sum.inr).zip vs, ?_, ?_, ?_⟩
  · have : ∀ (ks : List Str) (vs : List V), (ks.zip vs).map (fun p => (V.str p.1, p.2)) = ((ks.map Sum.inr).zip vs).map fun kv : Key × V => (kV kv.1, kv.2) := by
      intro ks
      induction ks with
      | nil => intro vs; rfl
      | cons k ks ih => intro vs; cases vs with
        | nil => rfl
        | cons v vs => simp only [List.zip_cons_cons, List.map_cons, ih]; rfl
    exact this ks vs
  · rw [List.length_zip, List.length_map]; omega
  · have hv : vs.length = ks.length := by rw [← r2.length, evL_len e1, hl]
    have hm : mergeK [] ((ks.map (Sum.inr : Str → Key)).zip vs) = (ks.map Sum.inr).zip vs := by
      rw [merge_nodup]
      · rfl
      · rw [List.map_fst_zip (by simp; omega)]
        exact List.Pairwise.map _ (fun a b h e => h (Sum.inr.inj e)) hnd
      · intro k _; simp
    rw [hm]
    have rk : RepK (zt X fa) M2 H2 ((ks.map Sum.inr).zip ds) ((ks.map Sum.inr).zip vs) := zip_rep r2
    refine k _ _ ⟨_, md.n, ?_, fun _ => ⟨p, rfl, .of hp, md.S, _, upd_same, RepK.carry md.d _ _ rk⟩⟩
    simp only [Rep]
    exact ⟨p, _, rfl, .inl ⟨.inl upd_same, fun q => q.2 rfl⟩, RepK.carry md.c _ _ rk⟩
end
end Iq
set_option Elab.async false
set_option linter.all false
set_option maxRecDepth 100000
set_option maxHeartbeats 1000000
namespace Iq
open PySem L2

section
variable {Z : Zt} {F : Fm} {M M2 : Mu} {σ : L2.St} {ς ς' : List Sl} {H H' : Hp}

/-- slots is own the objects os -/
def SlA (σ : L2.St) (ς : List Sl) : List Nat → List Addr → Prop
  | [], os => os = []
  | i :: is, os => ∃ a r b d, os = a :: r ∧ ς[i]? = some (.own b d) ∧ σ[i]? = some (some (.ref a)) ∧ SlA σ ς is r
theorem SlA.own : ∀ {is : List Nat} {os : List Addr}, SlA σ ς is os → ∀ a ∈ os, ∃ i ∈ is, ∃ b d, ς[i]? = some (.own b d) ∧ σ[i]? = some (some (.ref a))
  | [], _, h, a, ha => by simp only [SlA] at h; subst h; cases ha
  | i :: is, _, ⟨a', r, b, d, e, h1, h2, h3⟩, a, ha => by
    subst e
    rcases List.mem_cons.mp ha with rfl | ha
    · exact ⟨i, by simp, b, d, h1, h2⟩
    · obtain ⟨j, hj, q⟩ := SlA.own h3 a ha
      exact ⟨j, List.mem_cons_of_mem _ hj, q⟩
theorem SlA.nodup (S : Sim Z F M σ ς H) : ∀ {is : List Nat} {os : List Addr}, SlA σ ς is os → is.Nodup → os.Nodup
  | [], _, h, _ => by simp only [SlA] at h; subst h; exact List.nodup_nil
  | i :: is, _, ⟨a, r, b, d, e, h1, h2, h3⟩, hn => by
    subst e
    rw [List.nodup_cons] at hn ⊢
    refine ⟨fun ha => ?_, SlA.nodup S h3 hn.2⟩
    obtain ⟨j, hj, b', d', q1, q2⟩ := h3.own a ha
    exact S.sep i j _ _ _ _ a (fun e => hn.1 (e ▸ hj)) h1 q1 h2 q2
theorem arg_of (S : Sim Z F M σ ς H) : ∀ {hs : List Hd} {vs : List V} {as : List Sl}, HdVs Z M σ H hs vs → argsS ς hs = .ok as → ∃ os, ArgV Z M H as vs os ∧ SlA σ ς (hdS hs) os
  | [], vs, as, h, e => by
    simp only [HdVs] at h; simp only [argsS] at e; cases e; subst h
    exact ⟨[], ⟨rfl, rfl⟩, rfl⟩
  | .val d :: hs, vs, as, ⟨v, r, e0, h1, h2⟩, e => by
    subst e0
    simp only [argsS, argS, R.bind_ok] at e
    obtain ⟨as', e1, e⟩ := R.bind_is e
    cases e
    obtain ⟨os, q1, q2⟩ := arg_of S h2 e1
    exact ⟨os, ⟨v, r, rfl, h1, q1⟩, q2⟩
  | .sl i :: hs, vs, as, ⟨v, r, e0, h1, h2⟩, e => by
    subst e0
    simp only [argsS] at e
    obtain ⟨a1, e1, e⟩ := R.bind_is e
    obtain ⟨as', e2, e⟩ := R.bind_is e
    cases e
    simp only [argS] at e1
    split at e1
    · rename_i b d hb
      cases e1
      obtain ⟨os, q1, q2⟩ := arg_of S h2 e2
      obtain ⟨a, p1, p2, _, p4⟩ := S.own i b d hb
      have h1 : σ[i]? = some (some v) := h1
      rw [p1] at h1; cases h1
      exact ⟨a :: os, ⟨a, r, os, rfl, rfl, p2, p4, q1⟩, ⟨a, os, b, d, rfl, hb, p1, q2⟩⟩
    · cases e1
theorem setOwn_len {i : Nat} {d : D} : (setOwn ς i d).length = ς.length := by
  unfold setOwn
  split
  · rw [List.length_set]
  · rfl
theorem setOwn_ne {i j : Nat} {d : D} (h : i ≠ j) : (setOwn ς i d)[j]? = ς[j]? := by
  unfold setOwn
  split
  · rw [List.getElem?_set_ne h]
  · rfl
theorem setOwn_self {i : Nat} {d d0 : D} {b : Bool} (h : ς[i]? = some (.own b d0)) : (setOwn ς i d)[i]? = some (.own b d) := by
  unfold setOwn
  rw [h]
  simp only []
  rw [List.getElem?_set_self (List.getElem?_eq_some_iff.mp h).1]
/-- the state with each object's new value -/
theorem put_ok : ∀ {is : List Nat} {outs : List D} {os : List Addr} {ς ς' : List Sl}, putOuts is outs ς = .ok ς' → is.Nodup → SlA σ ς is os → OwnsL Z M2 H' os outs →
    ς'.length = ς.length ∧ (∀ j, j ∉ is → ς'[j]? = ς[j]?) ∧ ∀ j ∈ is, ∃ a b d0 d, a ∈ os ∧ ς[j]? = some (.own b d0) ∧ σ[j]? = some (some (.ref a)) ∧ ς'[j]? = some (.own b d) ∧ Own Z M2 H' a d
  | [], outs, os, ς, ς', e, _, h, ow => by
    cases outs with
    | nil => simp only [putOuts] at e; cases e; exact ⟨rfl, fun _ _ => rfl, fun j hj => by cases hj⟩
    | cons _ _ => simp only [putOuts] at e; cases e
  | i :: is, outs, os, ς, ς', e, hn, ⟨a, r, b, d0, e0, h1, h2, h3⟩, ow => by
    subst e0
    obtain ⟨d, rd, e1, o1, o2⟩ := ow
    subst e1
    simp only [putOuts] at e
    rw [List.nodup_cons] at hn
    have h3' : ∀ {is : List Nat} {os : List Addr}, i ∉ is → SlA σ ς is os → SlA σ (setOwn ς i d) is os := by
      intro is
      induction is with
      | nil => intro os _ h; exact h
      | cons j is ih =>
        intro os hi ⟨a, r, b, d, e0, q1, q2, q3⟩
        simp only [List.mem_cons, not_or] at hi
        exact ⟨a, r, b, d, e0, by rw [setOwn_ne hi.1]; exact q1, q2, ih hi.2 q3⟩
    obtain ⟨l, k1, k2⟩ := put_ok e hn.2 (h3' hn.1 h3) o2
    refine ⟨l.trans setOwn_len, fun j hj => ?_, fun j hj => ?_⟩
    · simp only [List.mem_cons, not_or] at hj
      rw [k1 j hj.2, setOwn_ne (Ne.symm hj.1)]
    · rcases List.mem_cons.mp hj with rfl | hj'
      · exact ⟨a, b, d0, d, by simp, h1, h2, by rw [k1 j hn.1, setOwn_self h1], o1⟩
      · obtain ⟨a', b', d0', d', m, q1, q2, q3, q4⟩ := k2 j hj'
        have ne : i ≠ j := fun e => hn.1 (e ▸ hj')
        rw [setOwn_ne ne] at q1
        exact ⟨a', b', d0', d', List.mem_cons_of_mem _ m, q1, q2, q3, q4⟩
theorem Sim.put {is : List Nat} {outs : List D} {os : List Addr} (S : Sim Z F M σ ς H) (hp : putOuts is outs ς = .ok ς') (hn : is.Nodup) (ho : SlA σ ς is os) (ow : OwnsL Z M2 H' os outs) (c : Carry Z M H M2 H') (m : ∀ a, M a → M2 a)
    (dm : ∀ a, M2 a → ¬ Nf H' a) (e : Evo (· ∈ os) H H') (tb : TbOk Z H') : Sim Z F M2 σ ς' H' ∧ ∀ a, OwnS σ ς' a → OwnS σ ς a := by
  obtain ⟨l, k1, k2⟩ := put_ok (Z := Z) (σ := σ) hp hn ho ow
  have back : ∀ (j : Nat) b d, ς'[j]? = some (.own b d) → ∃ d0, ς[j]? = some (.own b d0) := fun j b d h => by
    by_cases hj : j ∈ is
    · obtain ⟨a, b', d0, d', _, q1, _, q3, _⟩ := k2 j hj
      rw [h] at q3; cases q3
      exact ⟨d0, q1⟩
    · rw [k1 j hj] at h; exact ⟨d, h⟩
  refine ⟨⟨S.len.trans l.symm, fun i d h => ?_, fun i b d h => ?_, fun i j b d b' d' a ij h1 h2 h3 => ?_, fun a o h w t => ?_, dm, fun a h => m a (S.sup a h), S.wm, S.dm0, tb⟩, fun a ⟨i, b, d, h1, h2⟩ => ?_⟩
  · by_cases hj : i ∈ is
    · obtain ⟨a, b', d0, d', _, q1, _, q3, _⟩ := k2 i hj
      rw [h] at q3; cases q3
    · rw [k1 i hj] at h
      obtain ⟨v, q1, q2⟩ := S.shr i d h
      exact ⟨v, q1, Rep.carry c _ _ q2⟩
  · by_cases hj : i ∈ is
    · obtain ⟨a, b', d0, d', _, q1, q2, q3, q4⟩ := k2 i hj
      rw [h] at q3; cases q3
      obtain ⟨a', p1, p2, p3, _⟩ := S.own i _ _ q1
      rw [q2] at p1; cases p1
      exact ⟨a, q2, m a p2, p3, q4⟩
    · rw [k1 i hj] at h
      obtain ⟨a, p1, p2, p3, p4⟩ := S.own i b d h
      refine ⟨a, p1, m a p2, p3, p4.carry c ?_⟩
      obtain ⟨o, q, pl⟩ := p4.plain
      rw [q]
      refine e.at (fun ha => ?_) q pl.t
      obtain ⟨j, hj', b', d', q1, q2⟩ := ho.own a ha
      exact S.sep i j _ _ _ _ a (fun z => hj (z ▸ hj')) h q1 p1 q2
  · obtain ⟨_, q1⟩ := back i b d h1
    obtain ⟨_, q2⟩ := back j b' d' h2
    exact S.sep i j _ _ _ _ a ij q1 q2 h3
  · have ho1 := S.old a o h w t
    suffices z : ¬ a ∈ os by exact e a o z ho1 t
    intro ha
    obtain ⟨j, hj', b', d', q1, q2⟩ := ho.own a ha
    obtain ⟨a', p1, p2, p3, _⟩ := S.own j _ _ q1
    rw [q2] at p1; cases p1
    cases b' with
    | true => exact w p3.1
    | false => exact Nf.no p3 h t
  · obtain ⟨d0, q⟩ := back i b d h1
    exact ⟨i, b, d0, q, h2⟩

/-- a call's promise, used at a state -/
theorem call_go {fn : List Sl → R (D × Bool × List D)} {P : Pr} {k : Nat} {hs : List Hd} {vs : List V} {d : D} {fr : Bool} {Q : VK} {E : XK} {M0 : Mu} {ς0 : List Sl} {H0 : Hp} (n : Nxt Z F M0 σ ς0 H0 M ς H) (hv : HdVs Z M σ H hs vs)
    (e : callG P k hs ς = .ok (d, fr, ς')) (q : ∀ v H', Aft Z F M0 σ ς0 ς' H0 H' d fr v → Q v H') : spF Z (P.fn k) (P.fx k) vs H Q E := by
  have S := n.S
  unfold callG at e
  split at e
  · rename_i hnd
    obtain ⟨as, e1, e⟩ := R.bind_is e
    obtain ⟨⟨d1, f1, outs⟩, e2, e⟩ := R.bind_is e
    obtain ⟨ς1, e3, e⟩ := R.bind_is e
    cases e
    obtain ⟨os, av, sa⟩ := arg_of S hv e1
    have osM : ∀ a ∈ os, M a := fun a ha => by
      obtain ⟨j, _, b, d, q1, q2⟩ := sa.own a ha
      exact S.owns a ⟨j, b, d, q1, q2⟩
    refine ⟨M, as, os, av, sa.nodup S hnd, S.dom, S.tab, .inl ⟨_, _, outs, e2, fun v H' c => q v H' ?_⟩⟩
    have em : Evo M H H' := c.e.less osM
    have dmM : ∀ a, M a → ¬ Nf H' a := fun a h z => S.dom a h (c.f a z)
    obtain ⟨S1, ow1⟩ := S.put e3 hnd sa c.o (.evo em) (fun _ h => h) dmM c.e c.t
    have n2 : Nxt Z F M σ ς H M ς' H' := ⟨fun _ h => h, fun _ h _ => h, ow1, S.owns, c.e.less fun a ha => by
      obtain ⟨j, _, b, d, q1, q2⟩ := sa.own a ha
      exact ⟨j, b, d, q1, q2⟩, c.f, S1⟩
    refine ⟨M, n.trans n2, c.r, fun hf => ?_⟩
    obtain ⟨p, hv', hp, o1, o2⟩ := c.n hf
    refine ⟨p, hv', n.f p hp, (S.put e3 hnd sa o2 (.trans (.ins hp) (.evo (c.e.less fun a ha => .inl (osM a ha)))) (fun _ h => .inl h) (fun a h => h.elim (dmM a) fun z => ?_) c.e c.t).1, o1⟩
    rw [z]
    obtain ⟨u, e7, e8⟩ := o1.plain
    exact nf_not e7 e8.t
  · cases e
end

section
variable {X : Cx} {fa : Fa} {Γ : Gt} {P : Pr} {n : Nat} {F : Fm} {e x y z : Expr} {pos : Pos}
/-! ### argument rows -/
inductive SEs (X : Cx) (Z : Zt) (F : Fm) (P : Pr) : List Ex → List Expr → Prop
  | nil : SEs X Z F P [] []
  | cons {a : Ex} {as : List Ex} {e : Expr} {es : List Expr} : PE X e (rdE Z F (evE P a)) → PE X e (rdH Z F (hd a (evE P a))) → nst e = true → SEs X Z F P as es → SEs X Z F P (a :: as) (e :: es)
theorem SEs.rows {Z : Zt} : ∀ {as : List Ex} {es : List Expr}, SEs X Z F P as es → PA X es (rdL Z F (evL P as))
  | _, _, .nil => l_nil
  | _, _, .cons h _ hn t => l_cons h t.rows hn
theorem SEs.pes {Z : Zt} : ∀ {as : List Ex} {es : List Expr}, SEs X Z F P as es → PEs X es (evTs Z F P as)
  | _, _, .nil => .nil
  | _, _, .cons h _ hn t => .cons h t.pes
theorem SEs.len {Z : Zt} : ∀ {as : List Ex} {es : List Expr}, SEs X Z F P as es → as.length = es.length
  | _, _, .nil => rfl
  | _, _, .cons h _ hn t => by simp [t.len]
theorem SEs.nst {Z : Zt} : ∀ {as : List Ex} {es : List Expr}, SEs X Z F P as es → es.all Iq.nst = true
  | _, _, .nil => rfl
  | _, _, .cons h _ hn t => by simp only [List.all_cons, hn, t.nst, Bool.and_self]
theorem SEs.args {Z : Zt} : ∀ {as : List Ex} {es : List Expr} (io : List Bool), SEs X Z F P as es → PA X es (rdA Z F (evA P as io))
  | _, _, io, .nil => ⟨fun pos pins s σ H Q I ⟨M, ς, hs, ς', S, e, k⟩ => by
    simp only [evA] at e; cases e
    exact pa_nil.run pos pins s σ H Q I (k [] H M (.refl S) rfl)⟩
  | a :: as, e :: es, true :: io, .cons h1 h2 hn t => ⟨fun pos pins s σ H Q I ⟨M, ς, hs, ς', S, e, k⟩ => by
    simp only [evA] at e
    obtain ⟨⟨g, ς1⟩, e1, e⟩ := R.bind_is e
    cases g with
    | val d => cases e
    | sl i =>
      simp only [] at e
      obtain ⟨⟨gs, ς2⟩, e2, e⟩ := R.bind_is e
      cases e
      exact (pa_cons h2 (t.args io) (star_cons hn)).run pos pins s σ H Q I ⟨M, ς, .sl i, ς1, S, e1, fun v H1 M1 n1 r1 => ⟨M1, ς1, gs, _, n1.S, e2, fun vs H2 M2 n2 r2 => k _ H2 M2 (n1.trans n2) ⟨v, vs, rfl, n2.hdv r1, r2⟩⟩⟩⟩
  | a :: as, e :: es, false :: io, .cons h1 h2 hn t => ⟨fun pos pins s σ H Q I ⟨M, ς, hs, ς', S, e, k⟩ => by
    simp only [evA, List.tail_cons] at e
    obtain ⟨⟨d, fr, ς1⟩, e1, e⟩ := R.bind_is e
    obtain ⟨⟨gs, ς2⟩, e2, e⟩ := R.bind_is e
    cases e
    exact (pa_cons h1 (t.args io) (star_cons hn)).run pos pins s σ H Q I ⟨M, ς, d, fr, ς1, S, e1, fun v H1 ⟨M1, n1, r1, _⟩ => ⟨M1, ς1, gs, _, n1.S, e2, fun vs H2 M2 n2 r2 => k _ H2 M2 (n1.trans n2) ⟨v, vs, rfl, n2.rep r1, r2⟩⟩⟩⟩
  | a :: as, e :: es, [], .cons h1 h2 hn t => ⟨fun pos pins s σ H Q I ⟨M, ς, hs, ς', S, e, k⟩ => by
    simp only [evA, List.tail_nil] at e
    obtain ⟨⟨d, fr, ς1⟩, e1, e⟩ := R.bind_is e
    obtain ⟨⟨gs, ς2⟩, e2, e⟩ := R.bind_is e
    cases e
    exact (pa_cons h1 (t.args []) (star_cons hn)).run pos pins s σ H Q I ⟨M, ς, d, fr, ς1, S, e1, fun v H1 ⟨M1, n1, r1, _⟩ => ⟨M1, ς1, gs, _, n1.S, e2, fun vs H2 M2 n2 r2 => k _ H2 M2 (n1.trans n2) ⟨v, vs, rfl, n2.rep r1, r2⟩⟩⟩⟩
theorem s_call (G : Gd X fa Γ P n) {sc : Scope} {k : Nat} {as : List Ex} {es : List Expr} {f : Str} {p : Pos} (hs : X.env.scope = sc) (h : isG sc f = true) (hx : Γ.fnm[k]? = some f) (hne : f ≠ "") (ps : SEs X (zt X fa) F P as es) :
    PE X (.Call (.Name f p) es [] pos) (rdE (zt X fa) F (evE P (.call k as))) := by
  obtain ⟨hg, hd⟩ := isG_gl hs h
  obtain ⟨hm, hk, hF⟩ := G.fns k f hx hne
  have go : ∀ σ H Q, rdE (zt X fa) F (evE P (.call k as)) σ H Q → tPl (spF (zt X fa) (P.fn k) (P.fx k)) (fun _ _ _ => False) (rdA (zt X fa) F (evA P as (P.io k))) σ H Q := fun σ H Q ⟨M, ς, d, fr, ς', S, e, q⟩ => by
    simp only [evE] at e
    obtain ⟨⟨gs, ς1⟩, e1, e⟩ := R.bind_is e
    refine ⟨M, ς, gs, ς1, S, e1, fun vs H1 M1 n1 r1 => ?_⟩
    exact call_go (fn := P.fn k) n1 r1 e q
  cases es with
  | nil =>
    cases ps
    exact pimp (pl_none hF G.gz G.room hg hm hk passX hd) fun σ H Q q => by
      obtain ⟨M, ς, gs, ς1, S, e1, q1⟩ := go σ H Q q
      simp only [evA] at e1; cases e1
      exact q1 [] H M (.refl S) rfl
  | cons e es =>
    have hn := ps.nst
    simp only [List.all_cons, Bool.and_eq_true] at hn
    exact pimp (pl_more hF G.gz G.room hg hm hk passX (ps.args (P.io k)) hd (star_cons hn.1) (star_any hn.2)) go
theorem s_calv (G : Gd X fa Γ P n) {sc : Scope} {i : Nat} {as : List Ex} {es : List Expr} {f : Str} {p : Pos} (hs : X.env.scope = sc) (h : isV X.N sc i f = true) (h0 : 0 < es.length) (ps : SEs X (zt X fa) F P as es) :
    PE X (.Call (.Name f p) es [] pos) (rdE (zt X fa) F (evE P (.calv i as))) := by
  refine ⟨fun pins s σ H Q I ⟨M, ς, d, fr, ς', S, e, q⟩ => ?_⟩
  simp only [evE] at e
  split at e
  · rename_i k hk
    split at e
    · rename_i hpo
      obtain ⟨⟨gs, ς1⟩, e1, e⟩ := R.bind_is e
      simp only [Bool.and_eq_true] at hpo
      obtain ⟨x, hx, hne⟩ := G.fnk k hpo.1
      obtain ⟨hm, hkp, hF⟩ := G.fns k x hx hne
      simp only [isV, Bool.and_eq_true, decide_eq_true_eq, Bool.not_eq_true', Bool.or_eq_true] at h
      obtain ⟨⟨⟨h1, h2⟩, h3⟩, h4⟩ := h
      have hv : Vis X.env.scope f := by
        unfold Vis
        rw [hs]
        rcases h4 with (h4 | h4) | h4
        · exact .inl h4
        · exact .inr (.inl h4)
        · exact .inr (.inr h4)
      obtain ⟨v, hv1, hv2⟩ := S.shr i _ hk
      simp only [Rep] at hv2
      subst hv2
      cases es with
      | nil => cases h0
      | cons e0 es =>
        have hn := ps.nst
        simp only [List.all_cons, Bool.and_eq_true] at hn
        refine (pl_slot (E := fun _ _ _ => False) hF G.gz G.room h1 hv hkp passX (ps.args []) h2 h3 (star_cons hn.1) (star_any hn.2)).run pins s σ H Q I ⟨hv1, M, ς, gs, ς1, S, e1, fun vs H1 M1 n1 r1 => ?_⟩
        exact call_go (fn := P.fn k) n1 r1 e q
    · cases e
  · cases e
end
end Iq
set_option Elab.async false
set_option linter.all false
set_option maxRecDepth 100000
set_option maxHeartbeats 1000000
namespace Iq
open PySem L2

section
variable {Z : Zt} {F : Fm} {M M' : Mu} {σ : L2.St} {ς ς' : List Sl} {H H' : Hp} {d : D} {v : V}

/-! ### storing a shared value -/
theorem Sim.setShr {i : Nat} (S : Sim Z F M σ ς H) (r : Rep Z M H d v) : Sim Z F M (σ.set i (some v)) (ς.set i (.shr d)) H := by
  have ne : ∀ (j : Nat) b e, (ς.set i (.shr d))[j]? = some (.own b e) → i ≠ j ∧ ς[j]? = some (.own b e) := fun j b e q => by
    by_cases ij : i = j
    · subst ij
      by_cases hi : i < ς.length
      · rw [List.getElem?_set_self hi] at q; cases q
      · rw [List.set_eq_of_length_le (by omega)] at q
        exact absurd (List.getElem?_eq_some_iff.mp q).1 hi
    · rw [List.getElem?_set_ne ij] at q; exact ⟨ij, q⟩
  refine ⟨by simp [S.len], fun j e q => ?_, fun j b e q => ?_, fun j k b e b' e' x jk q1 q2 q3 => ?_, S.old, S.dom, S.sup, S.wm, S.dm0, S.tab⟩
  · by_cases ij : i = j
    · subst ij
      by_cases hi : i < ς.length
      · rw [List.getElem?_set_self hi] at q; cases q
        exact ⟨v, by rw [List.getElem?_set_self (by rw [S.len]; exact hi)], r⟩
      · rw [List.getElem?_eq_none (by simp; omega)] at q; cases q
    · rw [List.getElem?_set_ne ij] at q
      rw [List.getElem?_set_ne ij]
      exact S.shr j e q
  · obtain ⟨ij, q'⟩ := ne j b e q
    obtain ⟨a, q1, q2, q3, q4⟩ := S.own j b e q'
    refine ⟨a, by rw [List.getElem?_set_ne ij]; exact q1, q2, ?_, q4⟩
    cases b with
    | true => exact ⟨q3.1, by rw [List.getElem?_set_ne ij]; exact q3.2⟩
    | false => exact q3
  · obtain ⟨ij, q1⟩ := ne j _ _ q1
    obtain ⟨ik, q2⟩ := ne k _ _ q2
    rw [List.getElem?_set_ne ij] at q3
    rw [List.getElem?_set_ne ik]
    exact S.sep j k _ _ _ _ x jk q1 q2 q3
theorem own_setShr {i : Nat} {x : Option V} : ∀ a, OwnS (σ.set i x) (ς.set i (.shr d)) a → OwnS σ ς a := fun a ⟨j, b, e, q1, q2⟩ => by
  by_cases ij : i = j
  · subst ij
    by_cases hi : i < ς.length
    · rw [List.getElem?_set_self hi] at q1; cases q1
    · rw [List.getElem?_eq_none (by simp; omega)] at q1; cases q1
  · rw [List.getElem?_set_ne ij] at q1 q2
    exact ⟨j, b, e, q1, q2⟩

/-! ### targets -/
def gNms : List Nat → TGs
  | [] => gNil
  | i :: is => gCons (gName i) (gNms is)
def gOf (K : PySem.W.Frag) : Tg → TG
  | .nm i => gName i
  | .tp is => gTup K is.length (gNms is)
theorem wipe_set {vs : List Nat} {j : Nat} {x : Option V} (h : j ∈ vs) : wipe (σ.set j x) vs = wipe σ vs := by
  apply List.ext_getElem?
  intro i
  have g : ∀ (σ : L2.St), (wipe σ vs)[i]? = if i ∈ vs then (if i < σ.length then some none else none) else σ[i]? := by
    intro σ
    clear h
    induction vs with
    | nil => simp [wipe]
    | cons v vs ih =>
      unfold wipe
      by_cases e : v = i
      · subst e
        simp only [List.mem_cons, true_or, if_true]
        by_cases l : v < σ.length
        · rw [List.getElem?_set_self (by rw [wipe_length]; exact l), if_pos l]
        · rw [List.getElem?_eq_none (by rw [List.length_set, wipe_length]; omega), if_neg l]
      · rw [List.getElem?_set_ne e, ih]
        have : ¬ i = v := fun z => e z.symm
        simp [this]
  rw [g, g]
  by_cases e : i ∈ vs
  · simp [e]
  · have : j ≠ i := fun z => e (z ▸ h)
    simp [e, List.getElem?_set_ne this]
theorem set_go {Q : L2.St → Hp → Prop} : ∀ {is : List Nat} {ds : List D} {vs : List V} {σ : L2.St} {ς ς' : List Sl}, Sim Z F M σ ς H → RepL Z M H ds vs → setAll is ds ς = .ok ς' →
    (∀ σ', Sim Z F M σ' ς' H → (∀ a, OwnS σ' ς' a → OwnS σ ς a) → (∀ ws, (∀ i ∈ is, i ∈ ws) → wipe σ' ws = wipe σ ws) → Q σ' H) → vs.length = is.length ∧ gNms is vs σ H Q
  | [], ds, vs, σ, ς, ς', S, r, e, k => by
    cases ds with
    | nil =>
      simp only [setAll] at e; cases e
      simp only [RepL] at r; subst r
      exact ⟨rfl, rfl, k σ S (fun _ h => h) fun _ _ => rfl⟩
    | cons _ _ => simp only [setAll] at e; cases e
  | i :: is, ds, vs, σ, ς, ς', S, r, e, k => by
    cases ds with
    | nil => simp only [setAll] at e; cases e
    | cons d ds =>
      simp only [setAll] at e
      simp only [RepL] at r
      obtain ⟨v, w, rfl, r1, r2⟩ := r
      obtain ⟨l, g⟩ := set_go (Q := Q) (S.setShr (i := i) r1) r2 e fun σ' S' o w' => k σ' S' (fun a h => own_setShr a (o a h)) fun ws hw => (w' ws fun j hj => hw j (List.mem_cons_of_mem _ hj)).trans (wipe_set (hw i (by simp)))
      exact ⟨by simp [l], v, w, rfl, g⟩
theorem bind_go {t : Tg} {Q : L2.St → Hp → Prop} (S : Sim Z F M σ ς H) (r : Rep Z M H d v) (e : bindT t d ς = .ok ς')
    (k : ∀ σ', Sim Z F M σ' ς' H → (∀ a, OwnS σ' ς' a → OwnS σ ς a) → (∀ ws, (∀ i ∈ tgS t, i ∈ ws) → wipe σ' ws = wipe σ ws) → Q σ' H) : gOf Z.K t v σ H Q := by
  cases t with
  | nm i =>
    simp only [bindT] at e; cases e
    exact k _ (S.setShr r) (fun a h => own_setShr a h) fun ws hw => wipe_set (hw i (by simp [tgS]))
  | tp is =>
    cases d <;> simp only [bindT] at e <;> try (cases e; done)
    simp only [Rep] at r
    obtain ⟨a, vs, rfl, t, r⟩ := r
    obtain ⟨l, g⟩ := set_go (Q := Q) S r e k
    exact ⟨a, vs, rfl, t.sq, l, g⟩
end

section
variable {X : Cx} {N : List Str} {sc : Scope} {fnc : Str → Bool}
theorem g_name {i : Nat} {x : Str} {pos : Pos} (hs : X.env.scope = sc) (hn : X.N.Nodup) (hf : ∀ x, fnc x = true → X.fn x = true) (h : isL X.N sc fnc i x = true) : PG X (.Name x pos) (gName i) := by
  simp only [isL, Bool.and_eq_true, decide_eq_true_eq, Bool.or_eq_true] at h
  obtain ⟨h1, h2⟩ := h
  rcases h2 with h2 | ⟨h2, h3⟩
  · exact pg_name hn h1 (.inl (by rw [hs]; exact h2)) (.inr (by rw [hs]; exact h2))
  · exact pg_name hn h1 (.inr (by rw [hs]; exact h2)) (.inl (hf x h3))
theorem g_nms (hs : X.env.scope = sc) (hn : X.N.Nodup) (hf : ∀ x, fnc x = true → X.fn x = true) : ∀ {is : List Nat} {es : List Expr}, agNms X.N sc fnc is es = true →
    PGs X es (gNms is) ∧ (assignEach es X.env).length = is.length ∧ (assignEach es X.env).findIdx? (·.1) = none
  | [], [], _ => ⟨pgs_nil, rfl, rfl⟩
  | i :: is, e :: es, h => by
    simp only [agNms] at h
    split at h
    · rename_i x hx
      obtain ⟨p, rfl⟩ := nameOf_is hx
      simp only [Bool.and_eq_true] at h
      obtain ⟨g1, g2, g3⟩ := g_nms hs hn hf h.2
      refine ⟨pgs_cons (g_name hs hn hf h.1) g1 rfl, ?_, ?_⟩
      · show (assignEach es X.env).length + 1 = _
        rw [g2]; rfl
      · show List.findIdx? (·.1) ((false, assign (.Name x p) X.env) :: assignEach es X.env) = none
        rw [List.findIdx?_cons]
        simp [g3]
    · cases h
  | [], _ :: _, h => by simp only [agNms] at h; cases h
  | _ :: _, [], h => by simp only [agNms] at h; cases h
theorem g_tg (hc : X.calm = true) (hs : X.env.scope = sc) (hn : X.N.Nodup) (hf : ∀ x, fnc x = true → X.fn x = true) {t : Tg} {e : Expr} (h : agTg X.N sc fnc t e = true) : PG X e (gOf X.K t) := by
  unfold agTg at h
  split at h
  · exact g_name hs hn hf h
  · obtain ⟨g1, g2, g3⟩ := g_nms hs hn hf h
    exact pg_tup hc g1 g2 g3
  · cases h
end
end Iq
set_option Elab.async false
set_option linter.all false
set_option maxRecDepth 100000
set_option maxHeartbeats 1000000
namespace Iq
open PySem L2

/-! ### what is walked -/
structure Wk (Z : Zt) (J : It) (ds : List D) (Sr : Mu → Hp → Prop) : Prop where
  stay : ∀ M H M' H', Sr M H → Carry Z M H M' H' → Sr M' H'
  go : ∀ i M H, Sr M H → i < ds.length → J.go i H
  stop : ∀ i M H, Sr M H → i = ds.length → J.stop i H
  yld : ∀ i M H x H', Sr M H → i < ds.length → J.yld i H x H' → ∃ d, ds[i]? = some d ∧ Mk Z M H d false x H'
def rdI (Z : Zt) (F : Fm) (f : List Sl → R (List D × List Sl)) : TI := fun σ H Q =>
  ∃ (M : Mu) (ς : List Sl) (ds : List D) (ς' : List Sl), Sim Z F M σ ς H ∧ f ς = .ok (ds, ς') ∧ ∀ J H' M' Sr, Nxt Z F M σ ς H M' ς' H' → Wk Z J ds Sr → Sr M' H' → ds.length ≤ sizeLine → Q J H'
def evI (P : Pr) (k : Ik) (ss : List Ex) (ς : List Sl) : R (List D × List Sl) := (evL P ss ς).bind fun r => (walk k r.1).bind fun xs => .ok (xs, r.2)

/-- lengths of what stands in the heap -/
def Fct (K : PySem.W.Frag) (H : Hp) : Prop := (∀ a xs, SqL K H a xs → xs.length ≤ sizeLine) ∧ ∀ a xs, SqT K H a xs → xs.length ≤ sizeLine
section
variable {X : Cx} {e : Expr} {es : List Expr}
theorem fct_of {pins : List (Addr × Obj)} {σ : L2.St} {H : Hp} {s : Shared} (I : L2.Inv X pins σ H s) : Fct X.K H :=
  ⟨fun a xs h => let ⟨_, _, _, q⟩ := I.list h; q, fun a xs h => let ⟨_, _, _, q⟩ := I.tuple h; q⟩
theorem pe_fct {t : TE} (h : PE X e t) : PE X e (fun σ H Q => t σ H fun v H' => Fct X.K H' → Q v H') :=
  ⟨fun pins s σ H Q I q => thn (h.run pins s σ H _ I q) fun u s' ⟨v, H', I', r, k⟩ => ⟨v, H', I', r, k (fct_of I')⟩⟩
theorem pa_fct {t : TA} (h : PA X es t) : PA X es (fun σ H Q => t σ H fun v H' => Fct X.K H' → Q v H') :=
  ⟨fun pos pins s σ H Q I q => thn (h.run pos pins s σ H _ I q) fun u s' ⟨v, H', I', r, k⟩ => ⟨v, H', I', r, k (fct_of I')⟩⟩
theorem pior {tg : Expr} {w w' : TI} (h : PI X tg e w) (k : PI X tg e w') : PI X tg e (fun σ H R => w σ H R ∨ w' σ H R) := ⟨fun pins s σ H R I q => q.elim (h.run pins s σ H R I) (k.run pins s σ H R I)⟩
theorem piimp {tg : Expr} {w w' : TI} (h : PI X tg e w) (i : ∀ σ H Q, w' σ H Q → w σ H Q) : PI X tg e w' := ⟨fun pins s σ H R I q => h.run pins s σ H R I (i _ _ _ q)⟩
end

section
variable {Z : Zt}
theorem wk_list {a : Addr} {ds : List D} : Wk Z (Itl Z.K a) ds (fun M H => ∃ vs, Li Z M H a vs ∧ RepL Z M H ds vs) where
  stay := fun M H M' H' ⟨vs, h1, h2⟩ c => ⟨vs, c.li a vs h1, RepL.carry c _ _ h2⟩
  go := fun i M H ⟨vs, h1, h2⟩ hi => ⟨vs, vs[i]'(by rw [← h2.length]; exact hi), h1.sq, by simp⟩
  stop := fun i M H ⟨vs, h1, h2⟩ hi => ⟨vs, h1.sq, by rw [← h2.length]; exact Nat.le_of_eq hi.symm⟩
  yld := fun i M H x H' ⟨vs, h1, h2⟩ hi ⟨e, y⟩ => by
    subst e
    obtain ⟨d, e, r⟩ := h2.get' (y vs h1.sq)
    exact ⟨d, e, .same r⟩
theorem wk_tup {a : Addr} {ds : List D} : Wk Z (Itt Z.K a) ds (fun M H => ∃ vs, Tu Z M H a vs ∧ RepL Z M H ds vs) where
  stay := fun M H M' H' ⟨vs, h1, h2⟩ c => ⟨vs, c.tu a vs h1, RepL.carry c _ _ h2⟩
  go := fun i M H ⟨vs, h1, h2⟩ hi => ⟨vs, vs[i]'(by rw [← h2.length]; exact hi), h1.sq, by simp⟩
  stop := fun i M H ⟨vs, h1, h2⟩ hi => ⟨vs, h1.sq, by rw [← h2.length]; exact Nat.le_of_eq hi.symm⟩
  yld := fun i M H x H' ⟨vs, h1, h2⟩ hi ⟨e, y⟩ => by
    subst e
    obtain ⟨d, e, r⟩ := h2.get' (y vs h1.sq)
    exact ⟨d, e, .same r⟩
theorem chars_len (z : Str) : (chars z).length = z.cps.size := by simp [chars]
theorem wk_str {z : Str} : Wk Z (Its z) (chars z) (fun _ _ => True) where
  stay := fun _ _ _ _ _ _ => trivial
  go := fun i _ _ _ hi => by rw [chars_len] at hi; exact hi
  stop := fun i _ _ _ hi => by rw [chars_len] at hi; exact Nat.le_of_eq hi.symm
  yld := fun i M H x H' _ hi ⟨e, c, hc, hx⟩ => by
    subst e hx
    refine ⟨.str ⟨#[c]⟩, ?_, .same rep_str⟩
    simp only [chars, List.getElem?_map]
    rw [show z.cps.toList[i]? = some c by simpa using hc]; rfl
theorem wk_rng {lo : Int} {n : Nat} : Wk Z (Itr lo n) (upTo lo n) (fun _ _ => True) where
  stay := fun _ _ _ _ _ _ => trivial
  go := fun i _ _ _ hi => by show i < n; simpa [upTo] using hi
  stop := fun i _ _ _ hi => by show n ≤ i; simp [upTo] at hi; omega
  yld := fun i M H x H' _ hi ⟨e, hx⟩ => by
    subst e hx
    refine ⟨.int (lo + (i : Nat)), ?_, .same rep_int⟩
    simp only [upTo, List.length_map, List.length_range] at hi
    simp only [upTo, List.getElem?_map]
    rw [List.getElem?_range hi]; rfl
theorem zipD_len : ∀ (as bs : List D), (zipD as bs).length = min as.length bs.length
  | [], bs => by cases bs <;> simp [zipD]
  | _ :: _, [] => by simp [zipD]
  | a :: as, b :: bs => by simp only [zipD, List.length_cons, zipD_len as bs]; omega
theorem zipD_get : ∀ (as bs : List D) (i : Nat) (a b : D), as[i]? = some a → bs[i]? = some b → (zipD as bs)[i]? = some (.tup [a, b])
  | [], _, i, _, _, h, _ => by simp at h
  | _ :: _, [], i, _, _, _, h => by simp at h
  | a :: as, b :: bs, 0, x, y, h1, h2 => by simp at h1 h2; subst h1 h2; simp [zipD]
  | a :: as, b :: bs, i + 1, x, y, h1, h2 => by
    simp only [zipD, List.getElem?_cons_succ] at *
    exact zipD_get as bs i x y h1 h2
theorem rep2 {M : Mu} {H : Hp} {a b : D} {x y : V} (h1 : Rep Z M H a x) (h2 : Rep Z M H b y) : RepL Z M H [a, b] [x, y] := by
  simp only [RepL]
  exact ⟨x, _, rfl, h1, y, _, rfl, h2, rfl⟩
theorem wk_zipL {a b : Addr} {as bs : List D} : Wk Z (Itz Z.K a b) (zipD as bs) (fun M H => ∃ vs us, Li Z M H a vs ∧ Li Z M H b us ∧ RepL Z M H as vs ∧ RepL Z M H bs us) where
  stay := fun M H M' H' ⟨vs, us, h1, h2, h3, h4⟩ c => ⟨vs, us, c.li _ _ h1, c.li _ _ h2, RepL.carry c _ _ h3, RepL.carry c _ _ h4⟩
  go := fun i M H ⟨vs, us, h1, h2, h3, h4⟩ hi => by
    rw [zipD_len, h3.length, h4.length] at hi
    exact ⟨vs, us, vs[i]'(by omega), us[i]'(by omega), h1.sq, h2.sq, by simp, by simp⟩
  stop := fun i M H ⟨vs, us, h1, h2, h3, h4⟩ hi => by
    rw [zipD_len, h3.length, h4.length] at hi
    exact ⟨vs, us, h1.sq, h2.sq, by omega⟩
  yld := fun i M H x H' ⟨vs, us, h1, h2, h3, h4⟩ hi ⟨T, p, q, e1, e2, e3, y1, y2⟩ => by
    subst e1 e3
    obtain ⟨d1, g1, r1⟩ := h3.get' (y1 vs h1.sq)
    obtain ⟨d2, g2, r2⟩ := h4.get' (y2 us h2.sq)
    exact ⟨_, zipD_get as bs i d1 d2 g1 g2, .tup e2 (rep2 r1 r2)⟩
theorem wk_zipT {a b : Addr} {as bs : List D} : Wk Z (RZ.ItzT Z.K a b) (zipD as bs) (fun M H => ∃ vs us, Tu Z M H a vs ∧ Tu Z M H b us ∧ RepL Z M H as vs ∧ RepL Z M H bs us) where
  stay := fun M H M' H' ⟨vs, us, h1, h2, h3, h4⟩ c => ⟨vs, us, c.tu _ _ h1, c.tu _ _ h2, RepL.carry c _ _ h3, RepL.carry c _ _ h4⟩
  go := fun i M H ⟨vs, us, h1, h2, h3, h4⟩ hi => by
    rw [zipD_len, h3.length, h4.length] at hi
    exact ⟨vs, us, vs[i]'(by omega), us[i]'(by omega), h1.sq, h2.sq, by simp, by simp⟩
  stop := fun i M H ⟨vs, us, h1, h2, h3, h4⟩ hi => by
    rw [zipD_len, h3.length, h4.length] at hi
    exact ⟨vs, us, h1.sq, h2.sq, by omega⟩
  yld := fun i M H x H' ⟨vs, us, h1, h2, h3, h4⟩ hi ⟨T, p, q, e1, e2, e3, y1, y2⟩ => by
    subst e1 e3
    obtain ⟨d1, g1, r1⟩ := h3.get' (y1 vs h1.sq)
    obtain ⟨d2, g2, r2⟩ := h4.get' (y2 us h2.sq)
    exact ⟨_, zipD_get as bs i d1 d2 g1 g2, .tup e2 (rep2 r1 r2)⟩
theorem enuD_len : ∀ (as : List D) (n : Nat), (enuD n as).length = as.length
  | [], _ => rfl
  | _ :: as, n => by simp [enuD, enuD_len as (n + 1)]
theorem enuD_get : ∀ (as : List D) (n i : Nat) (a : D), as[i]? = some a → (enuD n as)[i]? = some (.tup [.int ((n + i : Nat) : Int), a])
  | [], _, i, _, h => by simp at h
  | a :: as, n, 0, x, h => by simp at h; subst h; simp [enuD]
  | a :: as, n, i + 1, x, h => by
    simp only [enuD, List.getElem?_cons_succ] at *
    rw [enuD_get as (n + 1) i x h]
    have : n + 1 + i = n + (i + 1) := by omega
    rw [this]
theorem wk_enu {a : Addr} {as : List D} : Wk Z (Ite Z.K a) (enuD 0 as) (fun M H => ∃ vs, Li Z M H a vs ∧ RepL Z M H as vs) where
  stay := fun M H M' H' ⟨vs, h1, h2⟩ c => ⟨vs, c.li _ _ h1, RepL.carry c _ _ h2⟩
  go := fun i M H ⟨vs, h1, h2⟩ hi => by
    rw [enuD_len, h2.length] at hi
    exact ⟨vs, vs[i]'hi, h1.sq, by simp⟩
  stop := fun i M H ⟨vs, h1, h2⟩ hi => by
    rw [enuD_len, h2.length] at hi
    exact ⟨vs, h1.sq, Nat.le_of_eq hi.symm⟩
  yld := fun i M H x H' ⟨vs, h1, h2⟩ hi ⟨T, p, e1, e2, e3, y1⟩ => by
    subst e1 e3
    obtain ⟨d1, g1, r1⟩ := h2.get' (y1 vs h1.sq)
    refine ⟨_, enuD_get as 0 i d1 g1, .tup e2 (rep2 ?_ r1)⟩
    rw [Nat.zero_add]; exact rep_int
end

section
variable {X : Cx} {fa : Fa} {Γ : Gt} {P : Pr} {n : Nat} {F : Fm} {e x y z tg : Expr} {pos : Pos}
theorem walk_seq {d : D} {xs : List D} (e : walk .seq [d] = .ok xs) : (∃ as, d = .lst as ∧ xs = as) ∨ (∃ as, d = .tup as ∧ xs = as) ∨ ∃ z, d = .str z ∧ z.length ≤ sizeLine ∧ xs = chars z := by
  cases d <;> simp only [walk] at e <;> try (cases e; done)
  · split at e
    · rename_i hz; cases e; exact .inr (.inr ⟨_, rfl, hz, rfl⟩)
    · cases e
  · cases e; exact .inr (.inl ⟨_, rfl, rfl⟩)
  · cases e; exact .inl ⟨_, rfl, rfl⟩
theorem i_seq {a : Ex} (ha : PE X e (rdE (zt X fa) F (evE P a))) : PI X tg e (rdI (zt X fa) F (evI P .seq [a])) := by
  refine piimp (pior (pi_list (pe_fct ha)) (pior (pi_tup (pe_fct ha)) (pi_str ha))) fun σ H Q ⟨M, ς, ds, ς', S, e, k⟩ => ?_
  unfold evI at e
  obtain ⟨⟨d1, ς1⟩, e1, e⟩ := R.bind_is e
  obtain ⟨xs, e2, e⟩ := R.bind_is e
  cases e
  simp only [evL] at e1
  obtain ⟨⟨d, fr, ς2⟩, e3, e1⟩ := R.bind_is e1
  cases e1
  rcases walk_seq e2 with ⟨as, rfl, rfl⟩ | ⟨as, rfl, rfl⟩ | ⟨z, rfl, hz, rfl⟩
  · refine .inl ⟨M, ς, _, fr, _, S, e3, fun v H1 ⟨M1, n1, r1, _⟩ fc => ?_⟩
    simp only [Rep] at r1
    obtain ⟨l, vs, rfl, h1, h2⟩ := r1
    exact ⟨l, rfl, ⟨vs, h1.sq⟩, k _ _ M1 _ n1 wk_list ⟨vs, h1, h2⟩ (by rw [h2.length]; exact fc.1 l vs h1.sq)⟩
  · refine .inr (.inl ⟨M, ς, _, fr, _, S, e3, fun v H1 ⟨M1, n1, r1, _⟩ fc => ?_⟩)
    simp only [Rep] at r1
    obtain ⟨l, vs, rfl, h1, h2⟩ := r1
    exact ⟨l, rfl, ⟨vs, h1.sq⟩, k _ _ M1 _ n1 wk_tup ⟨vs, h1, h2⟩ (by rw [h2.length]; exact fc.2 l vs h1.sq)⟩
  · refine .inr (.inr ⟨M, ς, _, fr, _, S, e3, fun v H1 ⟨M1, n1, r1, _⟩ => ?_⟩)
    simp only [Rep] at r1
    exact ⟨_, r1, k _ _ M1 _ n1 wk_str trivial (by rw [chars_len]; exact hz)⟩
theorem walk_rng {d : D} {xs : List D} (e : walk .rng [d] = .ok xs) : ∃ j, d = .int j ∧ -1000 ≤ j ∧ j ≤ 16777216 ∧ xs = upTo 0 j.toNat := by
  cases d <;> simp only [walk] at e <;> try (cases e; done)
  split at e
  · rename_i hz
    cases e
    exact ⟨_, rfl, hz.1, hz.2, rfl⟩
  · cases e
theorem walk_rng2 {c d : D} {xs : List D} (e : walk .rng2 [c, d] = .ok xs) : ∃ i j, c = .int i ∧ d = .int j ∧ (-1000 ≤ i ∧ i ≤ 10000000 ∧ -1000 ≤ j ∧ j ≤ 10000000) ∧ xs = upTo i (j - i).toNat := by
  cases c <;> cases d <;> simp only [walk] at e <;> try (cases e; done)
  split at e
  · rename_i hz
    cases e
    exact ⟨_, _, rfl, rfl, hz, rfl⟩
  · cases e
theorem walk_enu {d : D} {xs : List D} (e : walk .enu [d] = .ok xs) : ∃ as, d = .lst as ∧ xs = enuD 0 as := by
  cases d <;> simp only [walk] at e <;> try (cases e; done)
  cases e
  exact ⟨_, rfl, rfl⟩
theorem walk_zip {c d : D} {xs : List D} (e : walk .zip [c, d] = .ok xs) : (∃ as bs, c = .lst as ∧ d = .lst bs ∧ xs = zipD as bs) ∨ ∃ as bs, c = .tup as ∧ d = .tup bs ∧ xs = zipD as bs := by
  cases c <;> cases d <;> simp only [walk] at e <;> try (cases e; done)
  · cases e; exact .inr ⟨_, _, rfl, rfl, rfl⟩
  · cases e; exact .inl ⟨_, _, rfl, rfl, rfl⟩
theorem ev1 {P : Pr} {a : Ex} {ς : List Sl} {r : List D × List Sl} (e : evL P [a] ς = .ok r) : ∃ d, r.1 = [d] := by
  simp only [evL] at e
  obtain ⟨⟨d, fr, ς2⟩, e3, e1⟩ := R.bind_is e
  cases e1
  exact ⟨d, rfl⟩
theorem i_rng (G : Gd X fa Γ P n) {sc : Scope} {a : Ex} {x : Str} {p : Pos} (hs : X.env.scope = sc) (h : isG sc x = true) (hx : x = "range") (ps : SEs X (zt X fa) F P [a] [y]) : PI X tg (.Call (.Name x p) [y] [] pos) (rdI (zt X fa) F (evI P .rng [a])) := by
  obtain ⟨hg, hd⟩ := isG_gl hs h
  have hm : X.mg x = none := G.free x (by rw [hx]; exact mem_bn (by decide +kernel))
  subst hx
  have hn := ps.nst
  simp only [List.all_cons, Bool.and_eq_true] at hn
  refine piimp (pi_range1 hg hm ps.rows (star_cons hn.1)) fun σ H Q ⟨M, ς, ds, ς', S, e, k⟩ => ?_
  unfold evI at e
  obtain ⟨⟨d1, ς1⟩, e1, e⟩ := R.bind_is e
  obtain ⟨xs, e2, e⟩ := R.bind_is e
  cases e
  obtain ⟨d, hd⟩ := ev1 e1
  simp only [] at hd
  subst hd
  refine ⟨M, ς, [d], _, S, e1, fun vs H1 M1 n1 r1 => ?_⟩
  obtain ⟨j, rfl, h1, h2, rfl⟩ := walk_rng e2
  simp only [RepL, Rep] at r1
  obtain ⟨v, r, rfl, rfl, rfl⟩ := r1
  refine ⟨_, rfl, by omega, by omega, k _ _ M1 _ n1 wk_rng trivial ?_⟩
  simp only [upTo, List.length_map, List.length_range]
  have : sizeLine = 16777216 := sizeLine_eq
  omega
theorem ev2 {P : Pr} {a b : Ex} {ς : List Sl} {r : List D × List Sl} (e : evL P [a, b] ς = .ok r) : ∃ c d, r.1 = [c, d] := by
  simp only [evL] at e
  obtain ⟨⟨d, fr, ς2⟩, e3, e⟩ := R.bind_is e
  obtain ⟨⟨ds, ς3⟩, e4, e⟩ := R.bind_is e
  obtain ⟨⟨d2, fr2, ς4⟩, e5, e4⟩ := R.bind_is e4
  cases e4
  cases e
  exact ⟨d, d2, rfl⟩
theorem i_rng2 (G : Gd X fa Γ P n) {sc : Scope} {a b : Ex} {x : Str} {p : Pos} (hs : X.env.scope = sc) (h : isG sc x = true) (hx : x = "range") (ps : SEs X (zt X fa) F P [a, b] [y, z]) : PI X tg (.Call (.Name x p) [y, z] [] pos) (rdI (zt X fa) F (evI P .rng2 [a, b])) := by
  obtain ⟨hg, hd⟩ := isG_gl hs h
  have hm : X.mg x = none := G.free x (by rw [hx]; exact mem_bn (by decide +kernel))
  subst hx
  have hn := ps.nst
  simp only [List.all_cons, Bool.and_eq_true] at hn
  refine piimp (pi_range2 hg hm ps.rows (by rw [star_cons hn.1, star_cons hn.2.1]; rfl) (star_cons hn.2.1)) fun σ H Q ⟨M, ς, ds, ς', S, e, k⟩ => ?_
  unfold evI at e
  obtain ⟨⟨d1, ς1⟩, e1, e⟩ := R.bind_is e
  obtain ⟨xs, e2, e⟩ := R.bind_is e
  cases e
  obtain ⟨c, d, hd⟩ := ev2 e1
  simp only [] at hd
  subst hd
  refine ⟨M, ς, [c, d], _, S, e1, fun vs H1 M1 n1 r1 => ?_⟩
  obtain ⟨i, j, rfl, rfl, h1, rfl⟩ := walk_rng2 e2
  simp only [RepL, Rep] at r1
  obtain ⟨v, r, rfl, rfl, v2, r2, rfl, rfl, rfl⟩ := r1
  refine ⟨_, _, rfl, by omega, k _ _ M1 _ n1 wk_rng trivial ?_⟩
  simp only [upTo, List.length_map, List.length_range]
  have : sizeLine = 16777216 := sizeLine_eq
  omega
theorem i_enu (G : Gd X fa Γ P n) {sc : Scope} {a : Ex} {x : Str} {p : Pos} (hs : X.env.scope = sc) (h : isG sc x = true) (hx : x = "enumerate") (ht : isTup tg = true) (ps : SEs X (zt X fa) F P [a] [y]) : PI X tg (.Call (.Name x p) [y] [] pos) (rdI (zt X fa) F (evI P .enu [a])) := by
  obtain ⟨hg, hd⟩ := isG_gl hs h
  have hm : X.mg x = none := G.free x (by rw [hx]; exact mem_bn (by decide +kernel))
  subst hx
  have hn := ps.nst
  simp only [List.all_cons, Bool.and_eq_true] at hn
  obtain ⟨es, kk, tp, rfl⟩ : ∃ es kk tp, tg = .Tuple es kk tp := by
    cases tg <;> first | exact ⟨_, _, _, rfl⟩ | cases ht
  refine piimp (pi_enum hg hm (pa_fct ps.rows) (star_cons hn.1)) fun σ H Q ⟨M, ς, ds, ς', S, e, k⟩ => ?_
  unfold evI at e
  obtain ⟨⟨d1, ς1⟩, e1, e⟩ := R.bind_is e
  obtain ⟨xs, e2, e⟩ := R.bind_is e
  cases e
  obtain ⟨d, hd⟩ := ev1 e1
  simp only [] at hd
  subst hd
  refine ⟨M, ς, [d], _, S, e1, fun vs H1 M1 n1 r1 fc => ?_⟩
  obtain ⟨as, rfl, rfl⟩ := walk_enu e2
  simp only [RepL, Rep] at r1
  obtain ⟨v, r, rfl, ⟨l, us, rfl, h1, h2⟩, rfl⟩ := r1
  refine ⟨l, us, rfl, h1.sq, k _ _ M1 _ n1 wk_enu ⟨us, h1, h2⟩ ?_⟩
  rw [enuD_len, h2.length]; exact fc.1 l us h1.sq
theorem i_zip (G : Gd X fa Γ P n) {sc : Scope} {a b : Ex} {x : Str} {p : Pos} (hs : X.env.scope = sc) (h : isG sc x = true) (hx : x = "zip") (ht : isTup tg = true) (ps : SEs X (zt X fa) F P [a, b] [y, z]) : PI X tg (.Call (.Name x p) [y, z] [] pos) (rdI (zt X fa) F (evI P .zip [a, b])) := by
  obtain ⟨hg, hd⟩ := isG_gl hs h
  have hm : X.mg x = none := G.free x (by rw [hx]; exact mem_bn (by decide +kernel))
  subst hx
  have hn := ps.nst
  simp only [List.all_cons, Bool.and_eq_true] at hn
  obtain ⟨es, kk, tp, rfl⟩ : ∃ es kk tp, tg = .Tuple es kk tp := by
    cases tg <;> first | exact ⟨_, _, _, rfl⟩ | cases ht
  refine piimp (RZ.pi_zipA hg hm (pa_fct ps.rows) (star_cons hn.1) (star_any (by simp [hn.2.1]))) fun σ H Q ⟨M, ς, ds, ς', S, e, k⟩ => ?_
  unfold evI at e
  obtain ⟨⟨d1, ς1⟩, e1, e⟩ := R.bind_is e
  obtain ⟨xs, e2, e⟩ := R.bind_is e
  cases e
  obtain ⟨c, d, hd⟩ := ev2 e1
  simp only [] at hd
  subst hd
  rcases walk_zip e2 with ⟨as, bs, rfl, rfl, rfl⟩ | ⟨as, bs, rfl, rfl, rfl⟩
  · refine ⟨M, ς, _, _, S, e1, fun vs H1 M1 n1 r1 fc => ?_⟩
    simp only [RepL, Rep] at r1
    obtain ⟨v, r, rfl, ⟨l, us, rfl, h1, h2⟩, v2, r2, rfl, ⟨l2, us2, rfl, h3, h4⟩, rfl⟩ := r1
    refine ⟨l, l2, us, us2, rfl, .inl ⟨h1.sq, h3.sq, k _ _ M1 _ n1 wk_zipL ⟨us, us2, h1, h3, h2, h4⟩ ?_⟩⟩
    rw [zipD_len, h2.length]
    have := fc.1 l us h1.sq
    omega
  · refine ⟨M, ς, _, _, S, e1, fun vs H1 M1 n1 r1 fc => ?_⟩
    simp only [RepL, Rep] at r1
    obtain ⟨v, r, rfl, ⟨l, us, rfl, h1, h2⟩, v2, r2, rfl, ⟨l2, us2, rfl, h3, h4⟩, rfl⟩ := r1
    refine ⟨l, l2, us, us2, rfl, .inr ⟨h1.sq, h3.sq, k _ _ M1 _ n1 wk_zipT ⟨us, us2, h1, h3, h2, h4⟩ ?_⟩⟩
    rw [zipD_len, h2.length]
    have := fc.2 l us h1.sq
    omega
end
end Iq
set_option Elab.async false
set_option linter.all false
set_option maxRecDepth 100000
set_option maxHeartbeats 2000000
namespace Iq
open PySem L2

section
variable {Z : Zt} {F : Fm} {M M' : Mu} {σ : L2.St} {ς ς' ς1 : List Sl} {H H' : Hp} {d : D} {v : V} {vs : List Nat}
theorem wipe_get (i : Nat) : ∀ (vs : List Nat), (wipe σ vs)[i]? = if i ∈ vs then (if i < σ.length then some none else none) else σ[i]?
  | [] => by simp [wipe]
  | v :: vs => by
    unfold wipe
    by_cases e : v = i
    · subst e
      simp only [List.mem_cons, true_or, if_true]
      by_cases l : v < σ.length
      · rw [List.getElem?_set_self (by rw [wipe_length]; exact l), if_pos l]
      · rw [List.getElem?_eq_none (by rw [List.length_set, wipe_length]; omega), if_neg l]
    · rw [List.getElem?_set_ne e, wipe_get i vs]
      have : ¬ i = v := fun z => e z.symm
      simp [this]
theorem wipeS_len : ∀ (vs : List Nat), (wipeS ς vs).length = ς.length
  | [] => rfl
  | v :: vs => by unfold wipeS; rw [List.length_set, wipeS_len vs]
theorem wipeS_get (i : Nat) : ∀ (vs : List Nat), (wipeS ς vs)[i]? = if i ∈ vs then (if i < ς.length then some .no else none) else ς[i]?
  | [] => by simp [wipeS]
  | v :: vs => by
    unfold wipeS
    by_cases e : v = i
    · subst e
      simp only [List.mem_cons, true_or, if_true]
      by_cases l : v < ς.length
      · rw [List.getElem?_set_self (by rw [wipeS_len]; exact l), if_pos l]
      · rw [List.getElem?_eq_none (by rw [List.length_set, wipeS_len]; omega), if_neg l]
    · rw [List.getElem?_set_ne e, wipeS_get i vs]
      have : ¬ i = v := fun z => e z.symm
      simp [this]
theorem wipe_wipe : wipe (wipe σ vs) vs = wipe σ vs := by
  apply List.ext_getElem?
  intro i
  rw [wipe_get i vs, wipe_get i vs, wipe_length]
  by_cases e : i ∈ vs
  · simp [e]
  · simp [e]
theorem wipeS_own {i : Nat} {b : Bool} {d : D} (h : (wipeS ς vs)[i]? = some (.own b d)) : i ∉ vs ∧ ς[i]? = some (.own b d) := by
  rw [wipeS_get] at h
  by_cases e : i ∈ vs
  · rw [if_pos e] at h
    split at h <;> cases h
  · rw [if_neg e] at h; exact ⟨e, h⟩
theorem wipe_ne {i : Nat} (h : i ∉ vs) : (wipe σ vs)[i]? = σ[i]? := by rw [wipe_get, if_neg h]
theorem wipeS_ne {i : Nat} (h : i ∉ vs) : (wipeS ς vs)[i]? = ς[i]? := by rw [wipeS_get, if_neg h]
theorem Sim.wiped (S : Sim Z F M σ ς H) (vs : List Nat) : Sim Z F M (wipe σ vs) (wipeS ς vs) H := by
  refine ⟨by rw [wipe_length, wipeS_len]; exact S.len, fun i d h => ?_, fun i b d h => ?_, fun i j b d b' d' a ij h1 h2 h3 => ?_, S.old, S.dom, S.sup, S.wm, S.dm0, S.tab⟩
  · rw [wipeS_get] at h
    by_cases e : i ∈ vs
    · rw [if_pos e] at h
      split at h <;> cases h
    · rw [if_neg e] at h
      rw [wipe_ne e]
      exact S.shr i d h
  · obtain ⟨e, h⟩ := wipeS_own h
    obtain ⟨a, h1, h2, h3, h4⟩ := S.own i b d h
    refine ⟨a, by rw [wipe_ne e]; exact h1, h2, ?_, h4⟩
    cases b with
    | true => exact ⟨h3.1, by rw [wipe_ne e]; exact h3.2⟩
    | false => exact h3
  · obtain ⟨e1, h1⟩ := wipeS_own h1
    obtain ⟨e2, h2⟩ := wipeS_own h2
    rw [wipe_ne e1] at h3
    rw [wipe_ne e2]
    exact S.sep i j _ _ _ _ a ij h1 h2 h3
theorem own_wipe : ∀ a, OwnS (wipe σ vs) (wipeS ς vs) a → OwnS σ ς a := fun a ⟨i, b, d, h1, h2⟩ => by
  obtain ⟨e, h1⟩ := wipeS_own h1
  rw [wipe_ne e] at h2
  exact ⟨i, b, d, h1, h2⟩
theorem backS_len : ∀ (vs : List Nat) (ς : List Sl), (backS ς1 vs ς).length = ς.length
  | [], _ => rfl
  | v :: vs, ς => by unfold backS; rw [backS_len vs, List.length_set]
theorem backS_get (i : Nat) : ∀ (vs : List Nat) (ς : List Sl), (backS ς1 vs ς)[i]? = if i ∈ vs then (if i < ς.length then some (ς1.getD i .no) else none) else ς[i]?
  | [], ς => by simp [backS]
  | v :: vs, ς => by
    unfold backS
    rw [backS_get i vs, List.length_set]
    by_cases e : v = i
    · subst e
      simp only [List.mem_cons, true_or, if_true]
      by_cases m : v ∈ vs
      · rw [if_pos m]
      · rw [if_neg m]
        by_cases l : v < ς.length
        · rw [List.getElem?_set_self l, if_pos l]
        · rw [List.getElem?_eq_none (by rw [List.length_set]; omega), if_neg l]
    · have : ¬ i = v := fun z => e z.symm
      rw [List.getElem?_set_ne e]
      simp [this]
theorem Sim.back (S : Sim Z F M (wipe σ vs) (wipeS ς vs) H) (hl : ς1.length = σ.length) (ho : ∀ i ∈ vs, isOwn ς1 i = false) (hs : ∀ (i : Nat) d, ς1[i]? = some (.shr d) → ∃ v, σ[i]? = some (some v) ∧ Rep Z M H d v) :
    Sim Z F M σ (backS ς1 vs ς) H ∧ ∀ a, OwnS σ (backS ς1 vs ς) a → OwnS (wipe σ vs) (wipeS ς vs) a := by
  have hl2 : ς.length = σ.length := by
    have := S.len
    rw [wipe_length, wipeS_len] at this
    exact this.symm
  have sl : ∀ i, i ∈ vs → i < ς.length → (backS ς1 vs ς)[i]? = ς1[i]? := fun i e l => by
    rw [backS_get, if_pos e, if_pos l, List.getD_eq_getElem?_getD]
    have : i < ς1.length := by rw [hl, ← hl2]; exact l
    rw [List.getElem?_eq_getElem this]; rfl
  have ow : ∀ (i : Nat) b d, (backS ς1 vs ς)[i]? = some (.own b d) → i ∉ vs ∧ ς[i]? = some (.own b d) := fun i b d h => by
    by_cases e : i ∈ vs
    · by_cases l : i < ς.length
      · rw [sl i e l] at h
        have := ho i e
        unfold isOwn at this
        rw [h] at this; cases this
      · rw [backS_get, if_pos e, if_neg l] at h; cases h
    · rw [backS_get, if_neg e] at h; exact ⟨e, h⟩
  refine ⟨⟨by rw [backS_len]; exact hl2.symm, fun i d h => ?_, fun i b d h => ?_, fun i j b d b' d' a ij h1 h2 h3 => ?_, S.old, S.dom, S.sup, S.wm, S.dm0, S.tab⟩, fun a ⟨i, b, d, h1, h2⟩ => ?_⟩
  · by_cases e : i ∈ vs
    · by_cases l : i < ς.length
      · rw [sl i e l] at h; exact hs i d h
      · rw [backS_get, if_pos e, if_neg l] at h; cases h
    · rw [backS_get, if_neg e] at h
      have := S.shr i d (by rw [wipeS_ne e]; exact h)
      rw [wipe_ne e] at this; exact this
  · obtain ⟨e, h⟩ := ow i b d h
    obtain ⟨a, h1, h2, h3, h4⟩ := S.own i b d (by rw [wipeS_ne e]; exact h)
    rw [wipe_ne e] at h1
    refine ⟨a, h1, h2, ?_, h4⟩
    cases b with
    | true => exact ⟨h3.1, by have := h3.2; rw [wipe_ne e] at this; exact this⟩
    | false => exact h3
  · obtain ⟨e1, h1⟩ := ow i _ _ h1
    obtain ⟨e2, h2⟩ := ow j _ _ h2
    have := S.sep i j _ _ _ _ a ij (by rw [wipeS_ne e1]; exact h1) (by rw [wipeS_ne e2]; exact h2) (by rw [wipe_ne e1]; exact h3)
    rw [wipe_ne e2] at this; exact this
  · obtain ⟨e, h1⟩ := ow i b d h1
    exact ⟨i, b, d, by rw [wipeS_ne e]; exact h1, by rw [wipe_ne e]; exact h2⟩
theorem upd_back {p : Addr} {o : HO} (ho : ∀ ps, o ≠ .tbl ps) : ∀ q, Nf (upd H p o) q → Nf H q := fun q z u e => by
  by_cases h : q = p
  · subst h; exact (z.no upd_same ho).elim
  · exact z u (by rw [upd_ne h]; exact e)
/-- a yielded item -/
theorem Mk.item (k : Mk Z M H d false v H') (S : Sim Z F M σ ς H) : Sim Z F M σ ς H' ∧ Rep Z M H' d v ∧ (∀ a o, H a = some o → H' a = some o) ∧ (∀ p, Nf H' p → Nf H p) ∧ Carry Z M H M H' := by
  cases k with
  | same r => exact ⟨S, r, fun _ _ h => h, fun _ h => h, .evo (.refl _ _)⟩
  | @tup p ds vs h r =>
    refine ⟨S.new h, ?_, up_new h, upd_free h, .evo (.new h)⟩
    simp only [Rep]
    exact ⟨p, vs, rfl, .new upd_same (S.nM (.of h)), RepL.carry (.evo (.new h)) _ _ r⟩
  | @lst p ds vs _ h r =>
    refine ⟨S.new h, ?_, up_new h, upd_free h, .evo (.new h)⟩
    simp only [Rep]
    exact ⟨p, vs, rfl, .new upd_same (S.nM (.of h)), RepL.carry (.evo (.new h)) _ _ r⟩
  | @dic p ds vs _ h r =>
    refine ⟨S.new h, ?_, up_new h, upd_free h, .evo (.new h)⟩
    simp only [Rep]
    exact ⟨p, vs, rfl, .inl ⟨.inl upd_same, S.nM (.of h)⟩, RepK.carry (.evo (.new h)) _ _ r⟩

/-- the state between two turns of a comprehension whose list is at L -/
structure Cst (Z : Zt) (F : Fm) (M1 : Mu) (σ : L2.St) (ς1 : List Sl) (H1 : Hp) (vs : List Nat) (L : Addr) (Sr : Mu → Hp → Prop) (go : List D → List Sl → R (List D × List Sl)) (xs total : List D) (ςf : List Sl) (i : Nat) (H : Hp) (Mi : Mu) (ςi : List Sl) (accD : List D) (accV : List V) (rest : List D) : Prop where
  S : Sim Z F Mi (wipe σ vs) (wipeS ςi vs) H
  sr : Sr Mi H
  run : go (xs.drop i) ςi = .ok (rest, ςf)
  at_ : H L = some (.lst accV)
  rep : RepL Z Mi H accD accV
  tot : accD ++ rest = total
  len : accV.length ≤ i
  ml : Mi L
  l : ∀ a, Mi a → M1 a ∨ a = L
  k : ∀ a, M1 a → ¬ OwnS σ ς1 a → Mi a
  o : ∀ a, OwnS (wipe σ vs) (wipeS ςi vs) a → OwnS σ ς1 a
  e : Evo (fun a => OwnS σ ς1 a ∨ a = L) H1 H
  f : ∀ p, Nf H p → Nf H1 p
  c : Carry Z M1 H1 Mi H
theorem tYes_of {t : TT} : True := trivial
/-- the reading of a comprehension -/
theorem lc_go {P : Pr} {e : Ex} {t : Tg} {k : Ik} {ss : List Ex} {c : Option Tx} {Q : VK} (h : rdE Z F (evE P (.comp e t k ss c)) σ H Q) :
    tLc (rdI Z F (evI P k ss)) (gOf Z.K t) (rdT Z F (evQ P c)) (rdE Z F (evE P e)) (tgS t) σ H Q := by
  obtain ⟨M, ς, d, fr, ς', S, ee, q⟩ := h
  simp only [evE] at ee
  obtain ⟨⟨ds, ς1⟩, e1, ee⟩ := R.bind_is ee
  obtain ⟨xs, e2, ee⟩ := R.bind_is ee
  simp only [] at e2 ee
  cases hO : (tgS t).any (isOwn ς1) with
  | true => rw [hO] at ee; cases ee
  | false =>
  rw [hO] at ee
  simp only [cond_false] at ee
  obtain ⟨⟨total, ςf⟩, e3, ee⟩ := R.bind_is ee
  cases ee
  have hO' : ∀ i ∈ tgS t, isOwn ς1 i = false := fun i hi => by
    rw [List.any_eq_false] at hO
    simpa using hO i hi
  refine ⟨M, ς, xs, ς1, S, by unfold evI; rw [e1]; simp only [R.bind_ok]; rw [e2]; rfl, fun J H1 M1 Sr n1 wk sr hz => fun L hL => ?_⟩
  have S1 := n1.S
  have hLO : ¬ OwnS σ ς1 L := fun z => S1.nM (.of hL) (S1.owns L z)
  have h0L : Nf F.H0 L := S1.n0 (.of hL)
  refine ⟨fun i m H => m = xs.length - i ∧ i ≤ xs.length ∧ ∃ Mi ςi accD accV rest, Cst Z F M1 σ ς1 H1 (tgS t) L Sr (lcGo (evQ P c) (evE P e) t) xs total ςf i H Mi ςi accD accV rest, ⟨xs.length, by simp, Nat.zero_le _, ins M1 L, ς1, [], [], total, ?_⟩, ?_⟩
  · have c0 : Carry Z M1 H1 (ins M1 L) (upd H1 L (.lst [])) := .trans (.ins (.of hL)) (.evo (.new hL))
    exact ⟨(S1.newM hL).wiped _, wk.stay _ _ _ _ sr c0, by simpa using e3, upd_same, by simp only [RepL], rfl, Nat.le_refl _, .inr rfl, fun a h => h, fun a h _ => .inl h, own_wipe,
      .of fun a o na h => by rw [upd_ne (fun z => na (.inr z))]; exact h, upd_free hL, c0⟩
  rintro i m H2 ⟨rfl, hi, Mi, ςi, accD, accV, rest, C⟩
  by_cases hlt : i < xs.length
  case neg =>
    left
    have hi' : xs.length ≤ i := by omega
    refine ⟨wk.stop i Mi H2 C.sr (by omega), ?_⟩
    have hr := C.run
    rw [List.drop_eq_nil_of_le hi'] at hr
    simp only [lcGo] at hr
    cases hr
    have ht := C.tot
    rw [List.append_nil] at ht
    subst ht
    have hb := C.S.back (ς1 := ς1) S1.len.symm hO' fun j d hj => let ⟨v, h1, h2⟩ := S1.shr j d hj; ⟨v, h1, Rep.carry C.c _ _ h2⟩
    have hLb : ¬ OwnS σ (backS ς1 (tgS t) ςf) L := fun z => hLO (C.o L (hb.2 L z))
    have n2 : Nxt Z F M1 σ ς1 H1 (fun a => Mi a ∧ a ≠ L) (backS ς1 (tgS t) ςf) H2 :=
      ⟨fun a h => (C.l a h.1).elim id fun z => absurd z h.2, fun a h na => ⟨C.k a h na, fun z => S1.nM (.of hL) (by rw [← z]; exact h)⟩, fun a h => C.o a (hb.2 a h), S1.owns,
        fun a o na h t => C.e a o (fun z => z.elim na fun z => by rw [z, hL] at h; cases h) h t, C.f, hb.1.drop hLb h0L⟩
    have cd : Carry Z Mi H2 (fun a => Mi a ∧ a ≠ L) H2 := .less fun a h => h.1
    refine q _ _ ⟨_, n1.trans n2, ?_, fun _ => ⟨L, rfl, n1.f L (.of hL), by rw [ins_drop C.ml]; exact hb.1, by rw [ins_drop C.ml]; exact ⟨accV, C.at_, C.rep⟩⟩⟩
    simp only [Rep]
    exact ⟨L, accV, rfl, .new C.at_ (fun z => z.2 rfl), RepL.carry cd _ _ C.rep⟩
  case pos =>
    right
    refine ⟨wk.go i Mi H2 C.sr hlt, fun H' => i + 1 ≤ xs.length ∧ ∃ Mi ςi accD accV rest, Cst Z F M1 σ ς1 H1 (tgS t) L Sr (lcGo (evQ P c) (evE P e) t) xs total ςf (i + 1) H' Mi ςi accD accV rest,
      fun H' h => ⟨xs.length - (i + 1), by omega, rfl, h.1, h.2⟩, fun x H' hy => ?_⟩
    obtain ⟨dx, hdx, mk⟩ := wk.yld i Mi H2 x H' C.sr hlt hy
    have hr := C.run
    have hdrop : xs.drop i = dx :: xs.drop (i + 1) := by
      rw [List.drop_eq_getElem_cons hlt]
      have := List.getElem?_eq_some_iff.mp hdx
      rw [this.2]
    rw [hdrop] at hr
    simp only [lcGo] at hr
    obtain ⟨ςa, ea, hr⟩ := R.bind_is hr
    obtain ⟨⟨b, ςb⟩, eb, hr⟩ := R.bind_is hr
    obtain ⟨Sx, rx, kx, fx, cx⟩ := mk.item C.S
    refine bind_go Sx rx ea fun σ2 S2 o2 w2 => ⟨(w2 (tgS t) fun _ h => h).trans wipe_wipe, ?_⟩
    have hw : wipe σ2 (tgS t) = wipe σ (tgS t) := (w2 (tgS t) fun _ h => h).trans wipe_wipe
    have o2' : ∀ a, OwnS σ2 ςa a → OwnS σ ς1 a := fun a h => C.o a (o2 a h)
    have hL2 : ¬ OwnS σ2 ςa L := fun z => hLO (o2' L z)
    refine ⟨Mi, ςa, b, ςb, S2, eb, fun H3 M3 n3 => ?_⟩
    have hxl : xs.length ≤ sizeLine := hz
    cases b with
    | false =>
      refine iteF ?_
      simp only [cond_false] at hr
      refine ⟨hlt, M3, ςb, accD, accV, rest, ?_⟩
      have cc : Carry Z Mi H2 M3 H3 := .trans cx n3.carry
      have ob : ∀ a, OwnS (wipe σ (tgS t)) (wipeS ςb (tgS t)) a → OwnS σ ς1 a := fun a h => o2' a (n3.o a (own_wipe a (by rw [hw]; exact h)))
      exact ⟨by rw [← hw]; exact n3.S.wiped _, wk.stay _ _ _ _ C.sr cc, hr, n3.e.at hL2 (kx L _ C.at_), RepL.carry cc _ _ C.rep, C.tot, Nat.le_succ_of_le C.len, n3.k L C.ml hL2, fun a h => C.l a (n3.l a h),
        fun a h na => n3.k a (C.k a h na) fun z => na (o2' a z), ob, fun a o na h t => n3.e a o (fun z => na (.inl (o2' a z))) (kx a o (C.e a o na h t)) t, fun p h => C.f p (fx p (n3.f p h)), .trans C.c cc⟩
    | true =>
      refine iteT ?_
      simp only [cond_true] at hr
      obtain ⟨⟨y, fy, ςc⟩, ec, hr⟩ := R.bind_is hr
      obtain ⟨⟨rest2, ςd⟩, ed, hr⟩ := R.bind_is hr
      cases hr
      refine ⟨M3, ςb, y, fy, ςc, n3.S, ec, fun v H4 ⟨M4, n4, r4, _⟩ => ?_⟩
      have n34 := n3.trans n4
      have cc : Carry Z Mi H2 M4 H4 := .trans cx n34.carry
      have hL4 : H4 L = some (.lst accV) := n34.e.at hL2 (kx L _ C.at_)
      have mL : M4 L := n34.k L C.ml hL2
      have ob : ∀ a, OwnS (wipe σ (tgS t)) (wipeS ςc (tgS t)) a → OwnS σ ς1 a := fun a h => o2' a (n34.o a (own_wipe a (by rw [hw]; exact h)))
      have hLc : ¬ OwnS (wipe σ (tgS t)) (wipeS ςc (tgS t)) L := fun z => hLO (ob L z)
      have cp : Carry Z M4 H4 M4 (upd H4 L (.lst (accV ++ [v]))) := .evo <| .of fun a u na h => by rw [upd_ne (fun z => na (by rw [z]; exact mL))]; exact h
      refine ⟨accV, hL4, ?_, hlt, M4, ςc, accD ++ [y], accV ++ [v], rest2, ?_⟩
      · have := C.len; omega
      have cc' := Carry.trans cc cp
      refine ⟨Sim.poke (by rw [← hw]; exact n4.S.wiped _) mL hLc h0L hL4 trivial trivial, wk.stay _ _ _ _ C.sr cc', ed, upd_same, RepL.append (RepL.carry cc' _ _ C.rep) (RepL.one (Rep.carry cp _ _ r4)), ?_, ?_, mL, fun a h => C.l a (n34.l a h),
        fun a h na => n34.k a (C.k a h na) fun z => na (o2' a z), ob, fun a o na h t => ?_, fun p h => C.f p (fx p (n34.f p (upd_back (by intro _ h; cases h) p h))), .trans C.c cc'⟩
      · have := C.tot
        simpa using this
      · rw [List.length_append, List.length_singleton]
        have := C.len; omega
      · rw [upd_ne (fun z => na (.inr z))]
        exact n34.e a o (fun z => na (.inl (o2' a z))) (kx a o (C.e a o na h t)) t
end
end Iq
set_option Elab.async false
set_option linter.all false
set_option maxRecDepth 100000
set_option maxHeartbeats 2000000
namespace Iq
open PySem L2

section
variable {Z : Zt} {F : Fm} {M M' : Mu} {σ : L2.St} {ς ς' : List Sl} {H H' : Hp} {d : D} {v : V}
theorem argV_shrs : ∀ {ds : List D} {vs : List V}, RepL Z M H ds vs → ArgV Z M H (ds.map .shr) vs []
  | [], _, h => by simp only [RepL] at h; exact ⟨h, rfl⟩
  | d :: ds, _, h => by
    simp only [RepL] at h
    obtain ⟨v, r, e, h1, h2⟩ := h
    exact ⟨v, r, e, h1, argV_shrs h2⟩
theorem nil_evo {os : List Addr} (h : os = []) (e : Evo (· ∈ os) H H') : Evo (fun _ => False) H H' := e.less fun a q => by subst h; cases q
/-- a state goes on behind a call that owns nothing -/
theorem Nxt.over (S : Sim Z F M σ ς H) (e : Evo (fun _ => False) H H') (f : ∀ p, Nf H' p → Nf H p) (t : TbOk Z H') : Nxt Z F M σ ς H M ς H' := by
  have cr : Carry Z M H M H' := .evo (e.less fun _ q => q.elim)
  refine ⟨fun _ h => h, fun _ h _ => h, fun _ h => h, S.owns, e.less fun _ q => q.elim, f, ?_⟩
  refine ⟨S.len, fun i d h => let ⟨v, h1, h2⟩ := S.shr i d h; ⟨v, h1, Rep.carry cr _ _ h2⟩, fun i b d h => ?_, S.sep, fun a o h w t => e a o (fun q => q) (S.old a o h w t) t, fun a h z => S.dom a h (f a z), S.sup, S.wm, S.dm0, t⟩
  obtain ⟨a, h1, h2, h3, h4⟩ := S.own i b d h
  obtain ⟨u, e7, e8⟩ := h4.plain
  exact ⟨a, h1, h2, h3, h4.carry cr ((e a u (fun q => q) e7 e8.t).trans e7.symm)⟩
theorem called_aft {M0 : Mu} {ς0 : List Sl} {H0 : Hp} {fr : Bool} {outs : List D} (n : Nxt Z F M0 σ ς0 H0 M ς H) (c : Called Z M H [] d fr outs v H') : Aft Z F M0 σ ς0 ς H0 H' d fr v := by
  have S := n.S
  have e : Evo (fun _ => False) H H' := nil_evo rfl c.e
  have n2 := Nxt.over S e c.f c.t
  refine ⟨M, n.trans n2, c.r, fun hf => ?_⟩
  obtain ⟨p, hv, hp, o1, _⟩ := c.n hf
  have cr : Carry Z M H' (ins M p) H' → True := fun _ => trivial
  have cr2 : Carry Z M H (ins M p) H' := .trans (.ins hp) (.evo (e.less fun _ q => q.elim))
  refine ⟨p, hv, n.f p hp, ?_, o1⟩
  refine ⟨S.len, fun i d h => let ⟨v, h1, h2⟩ := S.shr i d h; ⟨v, h1, Rep.carry cr2 _ _ h2⟩, fun i b d h => ?_, S.sep, n2.S.old, fun a h => h.elim (n2.S.dom a) fun z => ?_, fun a h => .inl (S.sup a h), S.wm, S.dm0, c.t⟩
  · obtain ⟨a, h1, h2, h3, h4⟩ := S.own i b d h
    obtain ⟨u, e7, e8⟩ := h4.plain
    exact ⟨a, h1, .inl h2, h3, h4.carry cr2 ((e a u (fun q => q) e7 e8.t).trans e7.symm)⟩
  · rw [z]
    obtain ⟨u, e7, e8⟩ := o1.plain
    exact nf_not e7 e8.t
theorem shr_go {M0 : Mu} {ς0 : List Sl} {H0 : Hp} {fr : Bool} {outs : List D} {fn : List Sl → R (D × Bool × List D)} {fx : List Sl → R (Nat × List (Str × D))} {ds : List D} {vs : List V} {Q : VK} {E : XK} (n : Nxt Z F M0 σ ς0 H0 M ς H) (r : RepL Z M H ds vs) (e : fn (ds.map .shr) = .ok (d, fr, outs))
    (q : ∀ v H', Aft Z F M0 σ ς0 ς H0 H' d fr v → Q v H') : spF Z fn fx vs H Q E :=
  ⟨M, _, [], argV_shrs r, List.nodup_nil, n.S.dom, n.S.tab, .inl ⟨d, fr, outs, e, fun v H' c => q v H' (called_aft n c)⟩⟩
theorem shr_raise {M0 : Mu} {ς0 : List Sl} {H0 : Hp} {c : Nat} {fs : List (Str × D)} {fn : List Sl → R (D × Bool × List D)} {fx : List Sl → R (Nat × List (Str × D))} {ds : List D} {vs : List V} {Q : VK} {E : XK} (n : Nxt Z F M0 σ ς0 H0 M ς H) (r : RepL Z M H ds vs) (e : fx (ds.map .shr) = .ok (c, fs))
    (q : ∀ dd H', Nxt Z F M0 σ ς0 H0 M ς H' → XdOk Z M H' fs dd → E (.ref (Z.cl c)) (some dd) H') : spF Z fn fx vs H Q E :=
  ⟨M, _, [], argV_shrs r, List.nodup_nil, n.S.dom, n.S.tab, .inr ⟨c, fs, e, rfl, fun dd H' rs => q dd H' (n.trans (Nxt.over n.S rs.e rs.f rs.t)) rs.r⟩⟩
end

section
variable {X : Cx} {fa : Fa} {Γ : Gt} {P : Pr} {n : Nat} {F : Fm} {e x y z : Expr} {pos : Pos}
theorem k_rows {Z : Zt} : ∀ {zs : List Ex} {kws : List Keyword}, SEs X Z F P zs (kws.map (·.value)) → PK X kws (rdL Z F (evL P zs))
  | [], [], _ => ⟨fun pos pins s σ H Q I ⟨M, ς, ds, ς', S, e, k⟩ => by
    simp only [evL] at e; cases e
    exact pk_nil.run pos pins s σ H Q I (k [] H M (.refl S) (by simp only [RepL]))⟩
  | a :: as, ⟨nm, e, kp⟩ :: kws, h => by
    cases h with
    | cons h1 _ hn t =>
      refine ⟨fun pos pins s σ H Q I ⟨M, ς, ds, ς', S, ee, k⟩ => ?_⟩
      simp only [evL] at ee
      obtain ⟨⟨d, fr, ς1⟩, e1, ee⟩ := R.bind_is ee
      obtain ⟨⟨ds2, ς2⟩, e2, ee⟩ := R.bind_is ee
      cases ee
      refine (pk_cons h1 (k_rows t)).run pos pins s σ H Q I ⟨M, ς, d, fr, ς1, S, e1, fun v H1 ⟨M1, n1, r1, _⟩ => ⟨M1, ς1, ds2, _, n1.S, e2, fun vs H2 M2 n2 r2 => k _ H2 M2 (n1.trans n2) ?_⟩⟩
      simp only [RepL]
      exact ⟨v, vs, rfl, n2.rep r1, r2⟩
  | [], _ :: _, h => by cases h
  | _ :: _, [], h => by cases h
theorem kw_side {env : Env} : ∀ {kws : List Keyword} {ks : List Str}, kws.map (·.arg) = ks.map some → (backToKw pos (keywordEach kws env)).all (·.1.isSome) = true ∧ (backToKw pos (keywordEach kws env)).filterMap (·.1) = ks ∧ (backToKw pos (keywordEach kws env)).any (·.1.isNone) = false
  | [], [], _ => ⟨rfl, rfl, rfl⟩
  | ⟨nm, e, kp⟩ :: kws, k :: ks, h => by
    simp only [List.map_cons, List.cons.injEq] at h
    obtain ⟨h1, h2⟩ := h
    subst h1
    obtain ⟨a, b, c⟩ := kw_side (env := env) h2
    refine ⟨?_, ?_, ?_⟩
    · show (true && (backToKw pos (keywordEach kws env)).all (·.1.isSome)) = true
      rw [a]; rfl
    · show k :: (backToKw pos (keywordEach kws env)).filterMap (·.1) = _
      rw [b]
    · show (false || (backToKw pos (keywordEach kws env)).any (·.1.isNone)) = false
      rw [c]; rfl
  | [], _ :: _, h => by cases h
  | _ :: _, [], h => by cases h
theorem frm_is {q : Nat} {f : Str} {m : Nat} {ks : List (Option Str)} (h : frm Γ q f m ks = true) : ∃ l, Γ.kw[q]? = some (f, m, l) ∧ ks = l.map some := by
  unfold frm at h
  split at h
  · rename_i t ht
    simp only [Bool.and_eq_true, decide_eq_true_eq] at h
    obtain ⟨⟨h1, h2⟩, h3⟩ := h
    obtain ⟨a, b, c⟩ := t
    simp only [] at h1 h2 h3
    subst h1 h2
    exact ⟨c, ht, h3⟩
  · cases h
theorem kwG_is {q : Nat} {f g : List Sl → R (List D × List Sl)} {ς : List Sl} {r : Nat × List D × List Sl} (h : kwG P q f g ς = .ok r) : ∃ sel a z, P.kw[q]? = some (r.1, sel) ∧ f ς = .ok a ∧ g a.2 = .ok z ∧ selL (a.1 ++ z.1) sel = .ok r.2.1 ∧ r.2.2 = z.2 := by
  unfold kwG at h
  split at h
  · rename_i p hp
    cases hio : (P.io p.1).isEmpty with
    | false => rw [hio] at h; cases h
    | true =>
      rw [hio] at h
      simp only [cond_true] at h
      obtain ⟨a, e1, h⟩ := R.bind_is h
      obtain ⟨z, e2, h⟩ := R.bind_is h
      obtain ⟨ds, e3, h⟩ := R.bind_is h
      cases h
      exact ⟨p.2, a, z, hp, e1, e2, e3, rfl⟩
  · cases h
/-- f(e, .., k = v, ..) of a form -/
theorem pe_kwx {rp : Bool} {E : XK} {f : Str} {m : Nat} {ks prs : List Str} {l : Nat} {fad : Addr} {fd : FuncData} {g : List Value → List Value → List Value} {gV : List V → List V → List V} {sp : Sp} {as zs : List Ex} {es : List Expr} {kws : List Keyword} {p : Pos} {Z : Zt} (hm : X.mg f = some (.ref fad)) (hk : PySem.W.keepIn X.K (.ref fad) = true) (hb : KBn X.K fd prs m ks g gV) (hF : FnB rp X.prog X.w X.K X.mg X.base (L2.CX X.prog X.w) l fad fd prs sp) (hz : Gz rp X.A) (hr : Room l X.A) (hg : Gl X f) (hdb : (f == ("__debug__" : Str)) = false)
    (hx : Passes (L2.CX X.prog X.w) X E) (hks : kws.map (·.arg) = ks.map some) (ps : SEs X Z F P as es) (pz : SEs X Z F P zs (kws.map (·.value))) :
    PE X (.Call (.Name f p) es kws pos) (tCallN m ks.length sp gV E (rdL Z F (evL P as)) (rdL Z F (evL P zs))) := by
  obtain ⟨s1, s2, s3⟩ := kw_side (env := X.env) (pos := pos) hks
  cases es with
  | nil =>
    cases ps
    refine ⟨fun pins s σ H Q I ⟨M, ς, ds, ς', S, e1, h⟩ => ?_⟩
    simp only [evL] at e1; cases e1
    have h := h [] H M (.refl S) (by simp only [RepL])
    refine wpAny_Call_Name_kw (ld_glob I hg hm ?_ hdb)
    refine PySem.W.callWith_KW0 (h₀ := X.base) I.ok.mod.kin hk s1 (thn ((k_rows pz).run pos pins s σ H _ I h) fun ws s2' ⟨zs', H2, I2, rz, l1, l2, q2⟩ => ⟨I2.kIn, ?_⟩) (by rw [s3]; rfl)
    rw [s2]
    exact named hF hz hr hb hx I2 .nil rz l1 l2 q2
  | cons e es =>
    have hn := ps.nst
    have hn1 := hn
    simp only [List.all_cons, Bool.and_eq_true] at hn
    exact pl_kw hF hz hr hg hm hk hb hx ps.rows (k_rows pz) s1 s2 hdb (star_cons hn.1) (by rw [star_any hn1, s3]; rfl)
/-- the arguments' values come to the parameters -/
theorem kw_args {as zs : List Ex} {m : Nat} {ks : List Str} {sel : List (Sum Nat D)} {σ : L2.St} {H : Hp} {ς : List Sl} {M : Mu} {a z : List D × List Sl} {o : List D} {gV : List V → List V → List V} {Q : V → Hp → Prop} {sp : Sp} {E : XK} {Z : Zt} (S : Sim Z F M σ ς H) (e1 : evL P as ς = .ok a) (e2 : evL P zs a.2 = .ok z) (e3 : selL (a.1 ++ z.1) sel = .ok o) (hm : as.length = m) (hz : zs.length = ks.length)
    (hs : ∀ M H ds es vs zs o, RepL Z M H ds vs → RepL Z M H es zs → ds.length = m → es.length = ks.length → selL (ds ++ es) sel = .ok o → RepL Z M H o (gV vs zs))
    (k : ∀ vs H' M', Nxt Z F M σ ς H M' z.2 H' → RepL Z M' H' o vs → sp vs H' Q E) : tCallN m ks.length sp gV E (rdL Z F (evL P as)) (rdL Z F (evL P zs)) σ H Q := by
  refine ⟨M, ς, a.1, a.2, S, e1, fun vs H1 M1 n1 r1 => ⟨M1, a.2, z.1, z.2, n1.S, e2, fun ws H2 M2 n2 r2 => ?_⟩⟩
  have la := evL_len e1
  have lz := evL_len e2
  have r1' := n2.repL r1
  exact ⟨by rw [← r1.length, la, hm], by rw [← r2.length, lz, hz], k _ H2 M2 (n1.trans n2) (hs M2 H2 _ _ _ _ _ r1' r2 (la.trans hm) (lz.trans hz) e3)⟩
theorem s_kwc (G : Gd X fa Γ P n) {sc : Scope} {q : Nat} {as zs : List Ex} {es : List Expr} {kws : List Keyword} {f : Str} {p : Pos} (hs : X.env.scope = sc) (h : isG sc f = true) (hf : frm Γ q f es.length (kws.map (·.arg)) = true) (ps : SEs X (zt X fa) F P as es) (pz : SEs X (zt X fa) F P zs (kws.map (·.value))) :
    PE X (.Call (.Name f p) es kws pos) (rdE (zt X fa) F (evE P (.kwc q as zs))) := by
  obtain ⟨hg, hd⟩ := isG_gl hs h
  obtain ⟨ks, hq, hks⟩ := frm_is hf
  have lz : zs.length = ks.length := by
    have := congrArg List.length hks
    have l2 := pz.len
    simp only [List.length_map] at this l2
    omega
  cases hk : P.kw[q]? with
  | none => exact ⟨fun pins s σ H Q I ⟨M, ς, d, fr, ς', S, e, k⟩ => by simp only [evE, kwG, hk, R.bind_bad] at e; cases e⟩
  | some ksel =>
    obtain ⟨k, sel⟩ := ksel
    obtain ⟨hm, hkp, fd, prs, g, gV, hb, hsel, hF⟩ := G.kws q f _ ks k sel hq hk
    refine pimp (pe_kwx (pos := pos) (p := p) hm hkp hb hF G.gz G.room hg hd passX hks ps pz) fun σ H Q ⟨M, ς, d, fr, ς', S, e, kk⟩ => ?_
    simp only [evE] at e
    obtain ⟨r, e0, e⟩ := R.bind_is e
    obtain ⟨o, e4, e⟩ := R.bind_is e
    cases e
    obtain ⟨sel', a, z, h1, e1, e2, e3, e5⟩ := kwG_is e0
    rw [hk] at h1; cases h1
    refine kw_args S e1 e2 e3 ps.len lz hsel fun vs H' M' n' r' => ?_
    obtain ⟨d1, fr1, outs⟩ := o
    exact shr_go n' r' e4 (by rw [← e5]; exact kk)
/-! ### starred parts -/
inductive SEb (X : Cx) (Z : Zt) (F : Fm) (P : Pr) : List Bool → List Ex → List Expr → Prop
  | nil : SEb X Z F P [] [] []
  | cons {a : Ex} {bs : List Bool} {as : List Ex} {e : Expr} {es : List Expr} : PE X e (rdE Z F (evE P a)) → nst e = true → SEb X Z F P bs as es → SEb X Z F P (false :: bs) (a :: as) (e :: es)
  | star {a : Ex} {bs : List Bool} {as : List Ex} {e : Expr} {p : Pos} {es : List Expr} : PE X e (rdE Z F (evE P a)) → SEb X Z F P bs as es → SEb X Z F P (true :: bs) (a :: as) (.Starred e p :: es)
/-- a row of values with starred parts laid out -/
def evSp (P : Pr) (bs : List Bool) (as : List Ex) (ς : List Sl) : R (List D × List Sl) := (evL P as ς).bind fun r => (spl bs r.1).bind fun xs => .ok (xs, r.2)
theorem SEb.rows : ∀ {bs : List Bool} {as : List Ex} {es : List Expr}, SEb X (zt X fa) F P bs as es → PA X es (rdL (zt X fa) F (evSp P bs as))
  | _, _, _, .nil => ⟨fun pos pins s σ H Q I ⟨M, ς, ds, ς', S, e, k⟩ => by
    simp only [evSp, evL, R.bind_ok, spl] at e; cases e
    exact pa_nil.run pos pins s σ H Q I (k [] H M (.refl S) (by simp only [RepL]))⟩
  | false :: bs, a :: as, e :: es, .cons h hn t => ⟨fun pos pins s σ H Q I ⟨M, ς, ds, ς', S, ee, k⟩ => by
    simp only [evSp, evL] at ee
    obtain ⟨⟨ds1, ς1⟩, e0, ee⟩ := R.bind_is ee
    obtain ⟨⟨d, fr, ςa⟩, e1, e0⟩ := R.bind_is e0
    obtain ⟨⟨ds2, ς2⟩, e2, e0⟩ := R.bind_is e0
    cases e0
    obtain ⟨xs, e3, ee⟩ := R.bind_is ee
    cases ee
    simp only [spl] at e3
    obtain ⟨ys, e4, e3⟩ := R.bind_is e3
    cases e3
    refine (pa_cons h t.rows (star_cons hn)).run pos pins s σ H Q I ⟨M, ς, d, fr, ςa, S, e1, fun v H1 ⟨M1, n1, r1, _⟩ => ⟨M1, ςa, ys, _, n1.S, by unfold evSp; rw [e2]; simp only [R.bind_ok]; rw [e4]; rfl, fun vs H2 M2 n2 r2 => k _ H2 M2 (n1.trans n2) ?_⟩⟩
    simp only [RepL]
    exact ⟨v, vs, rfl, n2.rep r1, r2⟩⟩
  | true :: bs, a :: as, .Starred e p :: es, .star h t => ⟨fun pos pins s σ H Q I ⟨M, ς, ds, ς', S, ee, k⟩ => by
    simp only [evSp, evL] at ee
    obtain ⟨⟨ds1, ς1⟩, e0, ee⟩ := R.bind_is ee
    obtain ⟨⟨d, fr, ςa⟩, e1, e0⟩ := R.bind_is e0
    obtain ⟨⟨ds2, ς2⟩, e2, e0⟩ := R.bind_is e0
    cases e0
    obtain ⟨xs, e3, ee⟩ := R.bind_is ee
    cases ee
    refine (StX.pa_star h t.rows).run pos pins s σ H Q I ⟨M, ς, d, fr, ςa, S, e1, fun v H1 ⟨M1, n1, r1, _⟩ => ?_⟩
    cases d <;> simp only [spl] at e3 <;> try (cases e3; done)
    · obtain ⟨ys, e4, e3⟩ := R.bind_is e3
      cases e3
      simp only [Rep] at r1
      obtain ⟨b, us, rfl, hb, ru⟩ := r1
      exact ⟨b, us, rfl, .inl hb.sq, M1, ςa, ys, _, n1.S, by unfold evSp; rw [e2]; simp only [R.bind_ok]; rw [e4]; rfl, fun vs H2 M2 n2 r2 => k _ H2 M2 (n1.trans n2) ((n2.repL ru).append r2)⟩
    · obtain ⟨ys, e4, e3⟩ := R.bind_is e3
      cases e3
      simp only [Rep] at r1
      obtain ⟨b, us, rfl, hb, ru⟩ := r1
      exact ⟨b, us, rfl, .inr hb.sq, M1, ςa, ys, _, n1.S, by unfold evSp; rw [e2]; simp only [R.bind_ok]; rw [e4]; rfl, fun vs H2 M2 n2 r2 => k _ H2 M2 (n1.trans n2) ((n2.repL ru).append r2)⟩⟩
theorem s_tus {bs : List Bool} {as : List Ex} {es : List Expr} {k1 : Nat} (ps : SEb X (zt X fa) F P bs as es) : PE X (.Tuple es k1 pos) (rdE (zt X fa) F (evE P (.tus bs as))) :=
  pimp (pe_tup ps.rows) fun σ H Q ⟨M, ς, d, fr, ς', S, e, k⟩ => by
    simp only [evE] at e
    obtain ⟨⟨ds, ς1⟩, e1, e⟩ := R.bind_is e
    obtain ⟨xs, e2, e⟩ := R.bind_is e
    obtain ⟨t, e3, e⟩ := R.bind_is e
    cases e
    unfold tupO at e3
    split at e3
    · rename_i hz
      cases e3
      refine ⟨M, ς, xs, ς1, S, by unfold evSp; rw [e1]; simp only [R.bind_ok]; rw [e2]; rfl, fun vs H1 M1 n1 r1 => ⟨by rw [← r1.length]; exact hz, fun p hp => k _ _ (Mk.aft (.tup hp r1) n1)⟩⟩
    · cases e3
/-! ### a list display, so many times -/
theorem repL_rep {Z : Zt} {M : Mu} {H : Hp} {ds : List D} {vs : List V} (r : RepL Z M H ds vs) : ∀ n : Nat, RepL Z M H (List.replicate n ds).flatten (List.replicate n vs).flatten
  | 0 => by simp [RepL]
  | n + 1 => by
    rw [List.replicate_succ, List.replicate_succ, List.flatten_cons, List.flatten_cons]
    exact r.append (repL_rep r n)
theorem s_rep {as : List Ex} {b : Ex} {es : List Expr} {p : Pos} (h : PA X es (rdL (zt X fa) F (evL P as))) (hl : as.length ≤ 1000) (hb : PE X y (rdH (zt X fa) F (hd b (evE P b)))) : PE X (.BinOp (.List es p) .Mult y pos) (rdE (zt X fa) F (evE P (.rep as b))) :=
  pimp (pe_op op_rep (pe_lst h) hb) fun σ H Q ⟨M, ς, d, fr, ς', S, e, k⟩ => by
    simp only [evE] at e
    obtain ⟨⟨ds, ς1⟩, e1, e⟩ := R.bind_is e
    obtain ⟨g, e2, e⟩ := R.bind_is e
    obtain ⟨yd, e3, e⟩ := R.bind_is e
    obtain ⟨j, e4, e⟩ := R.bind_is e
    obtain ⟨o, e5, e⟩ := R.bind_is e
    cases e
    refine ⟨M, ς, ds, ς1, S, e1, fun vs H1 M1 n1 r1 => ⟨?_, fun q hq => ?_⟩⟩
    · rw [← r1.length, evL_len e1]; exact Nat.le_trans hl (by decide)
    · refine ⟨ins M1 q, ς1, g.1, g.2, n1.S.newM hq, e2, fun v H2 M2 n2 r2 => ?_⟩
      obtain ⟨at2, md⟩ := made (o2 := .lst vs) n1.S hq n2
      have same : upd H2 q (.lst vs) = H2 := by
        funext a
        by_cases z : a = q
        · rw [z, upd_same, at2]
        · rw [upd_ne z]
      have mn := md.n
      have mc := md.c
      rw [same] at mn mc
      have pk := deref_pk n2.S r2 e3
      cases yd <;> simp only [intOf] at e4 <;> try (cases e4; done)
      cases e4
      unfold repD at e5
      split at e5
      · rename_i hz
        cases e5
        have rl : RepL (zt X fa) (fun a => M2 a ∧ a ≠ q) H2 ds vs := by
          have := RepL.carry (.trans (.trans (.ins (.of hq)) (.evo (.new hq))) n2.carry) _ _ r1
          exact RepL.carry mc _ _ this
        refine ⟨q, _, vs, rfl, pk.int, at2, by omega, by omega, ?_, fun p hp => k _ _ (Mk.aft (.lst hp (repL_rep rl _)) (n1.trans mn))⟩
        rw [← r1.length]
        have h7 : ds.length * j.toNat ≤ 1000 * 1000 := Nat.mul_le_mul hz.2.2 (by omega)
        have h8 : sizeLine = 16777216 := sizeLine_eq
        omega
      · cases e5
end
end Iq
set_option Elab.async false
set_option linter.all false
set_option maxRecDepth 100000
set_option maxHeartbeats 2000000
namespace Iq
open PySem L2
section
variable {fa : Fa} {Γ : Gt} {P : Pr} {n : Nat} {F : Fm}
/-- names and constants, in any context -/
theorem sim_ses {Y : Cx} : ∀ {as : List Ex} {es : List Expr}, as.all simE = true → agL Γ Y.N Y.env.scope as es = true → SEs Y (zt Y fa) F P as es
  | [], [], _, _ => .nil
  | a :: as, e :: es, h, k => by
    simp only [List.all_cons, Bool.and_eq_true] at h
    simp only [agL, Bool.and_eq_true] at k
    have t := sim_ses (Y := Y) h.2 k.2
    have k1 := k.1.1
    cases a with
    | var i =>
      cases e <;> simp only [agE] at k1 <;> try (cases k1; done)
      exact .cons (pimp (s_var rfl k1) fun σ H Q q => rd_varE q) (pimp (s_var rfl k1) fun σ H Q q => rd_varH q) k.1.2 t
    | con d =>
      simp only [agE] at k1
      exact .cons (s_con k1) (pimp (s_con (P := P) k1) fun σ H Q q => rdH_of q) k.1.2 t
    | _ => simp only [simE] at h; exact absurd h.1 Bool.false_ne_true
  | [], _ :: _, _, k => by simp only [agL] at k; cases k
  | _ :: _, [], _, k => by simp only [agL] at k; cases k
theorem noPar_is {a : Arguments} (h : noPar a = true) : a = ⟨[], [], none, [], [], none, []⟩ := by
  obtain ⟨a1, a2, a3, a4, a5, a6, a7⟩ := a
  simp only [noPar, Bool.and_eq_true, List.isEmpty_iff, Option.isNone_iff_eq_none] at h
  obtain ⟨⟨⟨⟨⟨⟨rfl, rfl⟩, rfl⟩, rfl⟩, rfl⟩, rfl⟩, rfl⟩ := h
  rfl
theorem repF_get {Z : Zt} {M : Mu} {H : Hp} {x : Str} {d : D} : ∀ {fs : List (Str × D)} {vs : List (Str × V)}, RepF Z M H fs vs → fs.lookup x = some d → ∃ v, vs.lookup x = some v ∧ Rep Z M H d v
  | [], _, _, e => by cases e
  | (y, d0) :: fs, _, ⟨v, q, e0, h1, h2⟩, e => by
    subst e0
    rw [List.lookup_cons] at e ⊢
    cases z : x == y with
    | true =>
      rw [z] at e; cases e
      exact ⟨v, rfl, h1⟩
    | false =>
      rw [z] at e
      exact repF_get h2 e
theorem s_hrd {X : Cx} (G : Gd X fa Γ P n) {q : Nat} {as zs : List Ex} {es : List Expr} {kws : List Keyword} {h f : Str} {params : Arguments} {sco : Scope} {p p2 p3 lp pos : Pos} (hl : Γ.lam = true) (hG : isG X.env.scope h = true) (hh : h = Γ.hn) (hp : noPar params = true) (hL : LamX.lamSB X.env.scope sco = true) (hgf : isG sco f = true)
    (hf : frm Γ q f es.length (kws.map (·.arg)) = true) (s1 : as.all simE = true) (s2 : zs.all simE = true) (a1 : agL Γ X.N sco as es = true) (a2 : agL Γ X.N sco zs (kws.map (·.value)) = true) :
    PE X (.Call (.Name h p) [.Lambda params (.Call (.Name f p2) es kws p3) sco lp] [] pos) (rdE (zt X fa) F (evE P (.hrd q as zs))) := by
  subst hh
  obtain ⟨hg, hdb⟩ := isG_gl rfl hG
  obtain ⟨⟨⟨c, T, TB, hcode, hmT, hu⟩⟩, ⟨⟨g, cF, cP, cN, pg, a, sg, ps, fd, FD, hmg, Sg, hbd, ⟨l1, l2, l3, l4, l5, l6⟩, hd0, hd1, hd2, Cl, tell⟩⟩⟩ := G.lam hl
  obtain ⟨ks, hq, hks⟩ := frm_is hf
  have la : as.length = es.length := (sim_ses (fa := fa) (F := F) (P := P) (Γ := Γ) (Y := { X with env := { X.env with scope := sco } }) s1 a1).len
  have lz : zs.length = ks.length := by
    have := congrArg List.length hks
    have l2 := (sim_ses (fa := fa) (F := F) (P := P) (Γ := Γ) (Y := { X with env := { X.env with scope := sco } }) s2 a2).len
    simp only [List.length_map] at this l2
    omega
  have bad : (P.kw[q]? = none ∨ ∀ k as, P.fl k as = .bad ∧ P.xl k as = .bad) → PE X (.Call (.Name Γ.hn p) [.Lambda params (.Call (.Name f p2) es kws p3) sco lp] [] pos) (rdE (zt X fa) F (evE P (.hrd q as zs))) := fun hb => ⟨fun pins s σ H Q I ⟨M, ς, d, fr, ς', S, e, k⟩ => by
    exfalso
    simp only [evE] at e
    obtain ⟨r, e0, e⟩ := R.bind_is e
    obtain ⟨o, e4, e⟩ := R.bind_is e
    rcases hb with hb | hb
    · unfold kwG at e0; rw [hb] at e0; cases e0
    · unfold hear at e4; rw [(hb _ _).1, (hb _ _).2] at e4; cases e4⟩
  cases hk : P.kw[q]? with
  | none => exact bad (.inl hk)
  | some ksel =>
  obtain ⟨k, sel⟩ := ksel
  rcases G.low with low | ⟨l, rfl, low⟩
  · exact bad (.inr low)
  obtain ⟨hm, hkp, fd2, prs, g2, gV, hb, hsel, hF⟩ := low q f _ ks k sel hq hk
  obtain ⟨oc, od, dV, kV, doc, pm, an, cdv, ct, osl, rfl, lk, hcg, hD, hK⟩ := FD.ex
  have L : LamX.LamS X.env.scope sco := LamX.lamS_by hL
  have hpe := noPar_is hp
  subst hpe
  refine pimp (LamX.pe_lamcall (k := l) (T := fa.tb) (TT := Hx.TH X.K cF cP cN) (t := fun E => tCallN es.length ks.length (spF (zt X fa) (P.fl k) (P.xl k)) gV E (rdL (zt X fa) F (evL P as)) (rdL (zt X fa) F (evL P zs)))
    hg hmg FD.kp lk hcg hbd Sg rfl (.inl l1) (Hx.heard_gives Cl rfl Sg.nd l1 l2 l3 l4 l5 l6) TB hcode hmT hu G.room L rfl (fun _ _ _ _ _ => rfl) (fun A outer s H E f' c' hr => ?_) hdb hd1 hd2) fun σ H Q ⟨M, ς, d, fr, ς', S, e, kk⟩ => ?_
  · obtain ⟨hg2, hdb2⟩ := isG_gl (X := LamX.lamCx X A outer s H E sco f' c') rfl hgf
    have tk : Takes (LamX.lamCx X A outer s H E sco f' c') (fun cls d _ H => E cls d H) := takes_of rfl rfl rfl rfl
    exact pe_kwx (X := LamX.lamCx X A outer s H E sco f' c') (Z := zt X fa) hm hkp hb hF Gz.low hr hg2 hdb2 (passes_call tk fun _ _ _ _ z => z) hks (sim_ses (fa := fa) (Γ := Γ) s1 a1) (sim_ses (fa := fa) (Γ := Γ) s2 a2)
  · simp only [evE] at e
    obtain ⟨r, e0, e⟩ := R.bind_is e
    obtain ⟨o, e4, e⟩ := R.bind_is e
    cases e
    obtain ⟨sel', ra, rz, h1, e1, e2, e3, e5⟩ := kwG_is e0
    rw [hk] at h1; cases h1
    refine ⟨S.tab.tabs, fun H1 eN T1 => ?_⟩
    have n0 : Nxt (zt X fa) F M σ ς H M ς H1 := Nxt.over S (fun a o _ q t => eN a o q t) (fun p z u q => Classical.byContradiction fun t => z.no (eN p u q fun ps e => t ⟨ps, e⟩) fun ps e => t ⟨ps, e⟩) ⟨T1⟩
    unfold hear at e4
    cases hfl : P.fl r.1 (r.2.1.map .shr) with
    | ok ov =>
      rw [hfl] at e4
      cases e4
      obtain ⟨d1, fr1, outs⟩ := ov
      refine kw_args n0.S e1 e2 e3 la lz hsel fun vs H' M' n' r' => shr_go n' r' hfl fun v H2 ⟨M2, n2, r2, _⟩ => ⟨by show 2 ≤ sizeLine; rw [sizeLine_eq]; omega, fun p hp => kk _ _ ?_⟩
      rw [e5]
      refine Mk.aft (.tup hp ?_) (n0.trans n2)
      simp only [RepL]
      exact ⟨_, _, rfl, rep_str, v, [], rfl, r2, rfl⟩
    | bad =>
      rw [hfl] at e4
      simp only [] at e4
      obtain ⟨⟨cc, fs⟩, ex, e4⟩ := R.bind_is e4
      simp only [] at e4
      obtain ⟨bp, bn, w, t, of, hw, ht, rfl⟩ := tell cc fs _ e4
      refine kw_args n0.S e1 e2 e3 la lz hsel fun vs H' M' n' r' => shr_raise n' r' ex fun dd H2 n2 xd => ?_
      obtain ⟨fv, hx, rf⟩ := xd
      obtain ⟨wv, hw2, rw2⟩ := repF_get rf hw
      obtain ⟨tv, ht2, rt2⟩ := repF_get rf ht
      refine ⟨fa.cl cc, dd, fv, wv, tv, bp, bn, rfl, rfl, of, hx, hw2, ht2, fun p hp => kk _ _ ?_⟩
      rw [e5]
      have nn := n0.trans n2
      cases bp with
      | true =>
        refine Mk.aft (.tup hp ?_) nn
        simp only [cond_true, RepL]
        exact ⟨_, _, rfl, rep_str, _, _, rfl, rw2, _, _, rfl, rt2, rfl⟩
      | false =>
        cases bn with
        | true =>
          refine Mk.aft (.tup hp ?_) nn
          simp only [cond_true, cond_false, RepL]
          exact ⟨_, _, rfl, rep_str, _, _, rfl, rw2, _, _, rfl, rt2, rfl⟩
        | false =>
          refine Mk.aft (.tup hp ?_) nn
          simp only [cond_false, RepL]
          exact ⟨_, _, rfl, rep_str, rfl⟩
end
end Iq
set_option Elab.async false
set_option linter.all false
set_option maxRecDepth 100000
set_option maxHeartbeats 1000000
namespace Iq
open PySem L2
section
variable {X : Cx} {fa : Fa} {Γ : Gt} {P : Pr} {n : Nat} {F : Fm} {e x y z : Expr} {pos : Pos} {M : Mu} {H : Hp}

/-! ### repr, sorted(set(..)), .index(..), a list display with stars -/
theorem seq_pk {d : D} {v : V} {xs : List D} (h : Pk (zt X fa) M H d v) (e : seqOf d = some xs) : ∃ a vs, v = .ref a ∧ Ss.SqX X.K H a vs ∧ RepL (zt X fa) M H xs vs := by
  cases d <;> simp only [seqOf] at e <;> try (cases e; done)
  · cases e
    obtain ⟨a, vs, rfl, t, r⟩ := h.tup
    exact ⟨a, vs, rfl, .inr t.sq, r⟩
  · cases e
    obtain ⟨a, vs, rfl, t, r⟩ := h.lst
    exact ⟨a, vs, rfl, .inl (.inl t), r⟩
theorem intL_rep {Z : Zt} : ∀ {ds : List D} {vs : List V} {bs : List Int}, RepL Z M H ds vs → intL ds = some bs → vs = bs.map V.int
  | [], _, _, h, e => by simp only [RepL] at h; simp only [intL] at e; cases e; exact h
  | d :: ds, vs, bs, h, e => by
    cases d <;> simp only [intL] at e <;> try (cases e; done)
    simp only [RepL, Rep] at h
    obtain ⟨v, r, rfl, rfl, h2⟩ := h
    simp only [Option.map_eq_some_iff] at e
    obtain ⟨bs', e, rfl⟩ := e
    rw [intL_rep h2 e]; rfl
theorem ints_repL {Z : Zt} : ∀ ns : List Int, RepL Z M H (ns.map D.int) (ns.map V.int)
  | [] => by simp only [List.map_nil, RepL]
  | n :: ns => by simp only [List.map_cons, RepL, Rep]; exact ⟨_, _, rfl, rfl, ints_repL ns⟩
theorem strs_repL {Z : Zt} : ∀ ns : List Str, RepL Z M H (ns.map D.str) (ns.map V.str)
  | [] => by simp only [List.map_nil, RepL]
  | n :: ns => by simp only [List.map_cons, RepL, Rep]; exact ⟨_, _, rfl, rfl, strs_repL ns⟩
theorem intL_len : ∀ {ds : List D} {ns : List Int}, intL ds = some ns → ns.length = ds.length
  | [], _, e => by simp only [intL] at e; cases e; rfl
  | d :: ds, ns, e => by
    cases d <;> simp only [intL] at e <;> try (cases e; done)
    simp only [Option.map_eq_some_iff] at e
    obtain ⟨bs', e, rfl⟩ := e
    simp [intL_len e]
theorem strL_len : ∀ {ds : List D} {ns : List Str}, strL ds = some ns → ns.length = ds.length
  | [], _, e => by simp only [strL] at e; cases e; rfl
  | d :: ds, ns, e => by
    cases d <;> simp only [strL] at e <;> try (cases e; done)
    simp only [Option.map_eq_some_iff] at e
    obtain ⟨bs', e, rfl⟩ := e
    simp [strL_len e]
theorem bn_repr : ("repr" : Str) ∈ bnames := mem_bn (by decide +kernel)
theorem bn_sorted : ("sorted" : Str) ∈ bnames := mem_bn (by decide +kernel)
theorem bn_set : ("set" : Str) ∈ bnames := mem_bn (by decide +kernel)

theorem s_srs (G : Gd X fa Γ P n) {a : Ex} {p p2 q2 : Pos} (h1 : isG X.env.scope "sorted" = true) (h2 : isG X.env.scope "set" = true) (ha : PE X y (rdH (zt X fa) F (hd a (evE P a)))) (hn : nst y = true) :
    PE X (.Call (.Name "sorted" p) [.Call (.Name "set" p2) [y] [] q2] [] pos) (rdE (zt X fa) F (evE P (.srs a))) := by
  obtain ⟨g1, d1⟩ := isG_gl rfl h1
  obtain ⟨g2, d2⟩ := isG_gl rfl h2
  have pa : PA X [y] (tCons (rdH (zt X fa) F (Iq.hd a (evE P a))) tNil) := pa_cons ha pa_nil (star_cons hn)
  have inner : PE X (.Call (.Name "set" p2) [y] [] q2) _ := pe_callTy (T := "set") (Ss.cr_set G.calm) g2 (G.free _ bn_set) (by decide +kernel) pa (by decide +kernel) d2 (star_cons hn) rfl
  have pb := pa_cons inner pa_nil (star_cons rfl)
  refine pimp (pe_callB (id := "sorted") (Ss.cr_srt G.calm) g1 (G.free _ bn_sorted) (by decide +kernel) pb (by decide +kernel) d1 (star_cons rfl) rfl) fun σ H Q ⟨M, ς, d, fr, ς', S, e, k⟩ => ?_
  simp only [evE] at e
  obtain ⟨h, e1, e⟩ := R.bind_is e
  obtain ⟨d1, e2, e⟩ := R.bind_is e
  obtain ⟨o, e3, e⟩ := R.bind_is e
  cases e
  refine ⟨M, ς, h.1, h.2, S, e1, fun v H1 M1 n1 r1 => ?_⟩
  unfold srsD at e3
  split at e3
  · rename_i xs hx
    split at e3
    · rename_i few
      obtain ⟨a0, vs, rfl, sq, r⟩ := seq_pk (deref_pk n1.S r1 e2) hx
      split at e3
      · rename_i ns hi
        cases e3
        obtain rfl := intL_rep r hi
        refine ⟨a0, rfl, .inl ⟨ns, sq, by rw [intL_len hi]; exact few, fun p c hp _ => ⟨p, rfl, .inl ⟨ns, c, upd_same, fun p' hp' => k _ _ ?_⟩⟩⟩⟩
        exact (Mk.lst (fr := true) hp' (ints_repL _)).aft (n1.new hp)
      · rename_i ts _ hi
        cases e3
        obtain rfl := strL_rep r hi
        refine ⟨a0, rfl, .inr ⟨ts, sq, by rw [strL_len hi]; exact few, fun p l hp hm hl => ⟨p, rfl, .inr ⟨l, upd_same, by have := strL_len hi; omega, fun p' hp' => k _ _ ?_⟩⟩⟩⟩
        have : Ss.srtS l = Ss.srtS ts := Ss.up_one Ss.ordS (Ss.srt_up Ss.ordS l) (Ss.srt_up Ss.ordS ts) fun x => by
          show x ∈ Ss.srt Ss.ltS l ↔ x ∈ Ss.srt Ss.ltS ts
          rw [Ss.mem_srt, Ss.mem_srt, hm x]
        rw [this]
        exact (Mk.lst (fr := true) hp' (strs_repL _)).aft (n1.new hp)
      · cases e3
    · cases e3
  · cases e3
theorem s_rpr (G : Gd X fa Γ P n) {a : Ex} {p : Pos} (h1 : isG X.env.scope "repr" = true) (ha : PE X y (rdH (zt X fa) F (hd a (evE P a)))) (hn : nst y = true) :
    PE X (.Call (.Name "repr" p) [y] [] pos) (rdE (zt X fa) F (evE P (.rpr a))) := by
  obtain ⟨g1, d1⟩ := isG_gl rfl h1
  have pa : PA X [y] (tCons (rdH (zt X fa) F (Iq.hd a (evE P a))) tNil) := pa_cons ha pa_nil (star_cons hn)
  cases hrp : P.rp with
  | false =>
    refine pimp (pe_callB (id := "repr") (r := fun _ _ _ => False) (fun _ _ _ _ _ _ _ _ _ z => z.elim) g1 (G.free _ bn_repr) (by decide +kernel) pa (by decide +kernel) d1 (star_cons hn) rfl) fun σ H Q ⟨M, ς, d, fr, ς', S, e, k⟩ => ?_
    simp only [evE, hrp, cond_false] at e
    obtain ⟨h, e1, e⟩ := R.bind_is e
    obtain ⟨d1, e2, e⟩ := R.bind_is e
    cases e
  | true =>
    refine pimp (pe_callB (id := "repr") (Ss.cr_rpr (G.gz hrp) G.room.units) g1 (G.free _ bn_repr) (by decide +kernel) pa (by decide +kernel) d1 (star_cons hn) rfl) fun σ H Q ⟨M, ς, d, fr, ς', S, e, k⟩ => ?_
    simp only [evE, hrp, cond_true] at e
    obtain ⟨h, e1, e⟩ := R.bind_is e
    obtain ⟨d1, e2, e⟩ := R.bind_is e
    obtain ⟨o, e3, e⟩ := R.bind_is e
    cases e
    refine ⟨M, ς, h.1, h.2, S, e1, fun v H1 M1 n1 r1 => ?_⟩
    unfold rprD at e3
    split at e3
    · rename_i xs pd hx hp
      split at e3
      · rename_i hz
        cases e3
        have pk := deref_pk n1.S r1 e2
        obtain ⟨a0, vs, rfl, _, _⟩ := seq_pk pk hx
        exact ⟨a0, pd, rfl, dp_pk pk hp, hz.1, hz.2.1, hz.2.2.1, hz.2.2.2, k _ _ (Mk.aft (.same rep_str) n1)⟩
      · cases e3
    · cases e3
theorem s_lss {bs : List Bool} {as : List Ex} {es : List Expr} (ps : SEb X (zt X fa) F P bs as es) : PE X (.List es pos) (rdE (zt X fa) F (evE P (.lss bs as))) :=
  pimp (pe_lst ps.rows) fun σ H Q ⟨M, ς, d, fr, ς', S, e, k⟩ => by
    simp only [evE] at e
    obtain ⟨⟨ds, ς1⟩, e1, e⟩ := R.bind_is e
    obtain ⟨xs, e2, e⟩ := R.bind_is e
    obtain ⟨t, e3, e⟩ := R.bind_is e
    cases e
    unfold lstO at e3
    split at e3
    · rename_i hz
      cases e3
      refine ⟨M, ς, xs, ς1, S, by unfold evSp; rw [e1]; simp only [R.bind_ok]; rw [e2]; rfl, fun vs H1 M1 n1 r1 => ⟨by rw [← r1.length]; exact hz, fun p hp => k _ _ (Mk.aft (.lst hp r1) n1)⟩⟩
    · cases e3

/-! ### .index(..) -/
theorem ixm_is {x y : D} {d : D} (e : ixmD x y = .ok d) : ∃ xs vs v j, seqOf x = some xs ∧ flats xs = some vs ∧ flat y = some v ∧ vs.findIdx? (fun z => eqV z v) = some j ∧ d = .int (j : Nat) := by
  unfold ixmD at e
  split at e
  · rename_i xs hx
    split at e
    · rename_i vs v h1 h2
      split at e
      · rename_i j hj
        cases e
        exact ⟨xs, vs, v, j, hx, h1, h2, hj, rfl⟩
      · cases e
    · cases e
  · cases e
theorem ty_list : TyOk X "list" fun x H => ∃ a vs, x = .ref a ∧ SqL X.K H a vs := by
  intro pins σ H s x v I r ⟨a, vs, e, sq⟩
  subst e
  cases r
  obtain ⟨its, _, pl, _⟩ := I.list sq
  refine ⟨pl.isList.typeIs, fun b e => ?_⟩
  cases e
  obtain ⟨o, n, e, c, hd, _⟩ := pl
  exact ⟨o, e, hd⟩
theorem s_ixm {o : Expr} {a b : Ex} {ap : Pos} (ha : PE X o (rdH (zt X fa) F (hd a (evE P a)))) (hb : PE X y (rdH (zt X fa) F (hd b (evE P b)))) (ho : basB o = true) (hn : nst y = true) (hl : (ap.endLine == pos.line) = true) :
    PE X (.Call (.Attribute o "index" ap) [y] [] pos) (rdE (zt X fa) F (evE P (.ixm a b))) := by
  have pa : PA X [y] (tCons (rdH (zt X fa) F (Iq.hd b (evE P b))) tNil) := pa_cons hb pa_nil (star_cons hn)
  have base : attributeBase o "index" X.env (eval o X.env) = eval o X.env := by
    cases o <;> first | rfl | cases ho
  refine pimp (pe_mG (T := "list") ty_list PySem.F.plainAttrs_list PySem.F.slot_list_index PySem.F.type_list_index mt_index ha pa base (by rw [star_cons hn]; rfl) hl (star_cons hn) rfl) fun σ H Q ⟨M, ς, d, fr, ς', S, e, k⟩ => ?_
  simp only [evE] at e
  obtain ⟨h, e1, e⟩ := R.bind_is e
  obtain ⟨x0, e0, e⟩ := R.bind_is e
  cases l0 : (seqOf (lstD x0)).isNone with
  | true => rw [l0] at e; cases e
  | false =>
    rw [l0, cond_false] at e
    obtain ⟨g, e2, e⟩ := R.bind_is e
    obtain ⟨x, e3, e⟩ := R.bind_is e
    obtain ⟨y, e4, e⟩ := R.bind_is e
    obtain ⟨o, e5, e⟩ := R.bind_is e
    cases e
    obtain ⟨xs, vs, v, j, hx, h1, h2, hj, rfl⟩ := ixm_is e5
    refine ⟨M, ς, h.1, h.2, S, e1, fun u H1 M1 n1 r1 => ⟨?_, M1, h.2, g.1, g.2, n1.S, e2, fun z H2 M2 n2 r2 => ?_⟩⟩
    · cases x0 <;> simp only [lstD, seqOf, Option.isNone] at l0 <;> try (cases l0; done)
      obtain ⟨a, vs, rfl, t, _⟩ := (deref_pk n1.S r1 e0).lst
      exact ⟨a, vs, rfl, .inl t⟩
    · cases x <;> simp only [lstD, seqOf] at hx <;> try (cases hx; done)
      cases hx
      obtain ⟨a, ws, rfl, t, rl⟩ := (deref_pk n2.S (n2.hdv r1) e3).lst
      obtain ⟨rfl, f1⟩ := flat_pk (deref_pk n2.S r2 e4) h2
      obtain ⟨rfl, f2⟩ := flats_of rl h1
      obtain ⟨lt, is, no⟩ := List.findIdx?_eq_some_iff_getElem.mp hj
      refine ⟨a, _, _, j, _, rfl, rfl, .inl t, f1, f2, List.getElem?_eq_getElem lt, is, fun m z' hm hz => ?_, k _ _ (Mk.aft (.same rep_int) (n1.trans n2))⟩
      obtain ⟨lt2, e⟩ := List.getElem?_eq_some_iff.mp hz
      rw [← e]
      exact Bool.eq_false_iff.mpr (no m hm)
theorem s_ixg (G : Gd X fa Γ P n) {j : Nat} {b : Ex} {x : Str} {p ap : Pos} (hx : Γ.cn[j]? = some x) (h1 : isG X.env.scope x = true) (hb : PE X y (rdH (zt X fa) F (hd b (evE P b)))) (hn : nst y = true) (hl : (ap.endLine == pos.line) = true) :
    PE X (.Call (.Attribute (.Name x p) "index" ap) [y] [] pos) (rdE (zt X fa) F (evE P (.ixg j b))) := by
  obtain ⟨hg, hd⟩ := isG_gl rfl h1
  have pa : PA X [y] (tCons (rdH (zt X fa) F (Iq.hd b (evE P b))) tNil) := pa_cons hb pa_nil (star_cons hn)
  cases hd' : P.cs[j]? with
  | none => exact ⟨fun pins s σ H Q I ⟨M, ς, g, fr, ς', S, e, k⟩ => by simp only [evE, hd'] at e; cases e⟩
  | some d =>
    obtain ⟨u, v, q1, q2, q3⟩ := G.con j x d hx hd'
    by_cases isT : ∃ ds, d = .tup ds
    · obtain ⟨ds, rfl⟩ := isT
      have q0 := q3 (fun _ => False) (fun _ => none)
      simp only [Rep] at q0
      obtain ⟨a, vs, rfl, tu, _⟩ := q0
      have tw : Tw (zt X fa) a vs := by
        rcases tu with ⟨z | ⟨o, z⟩, _⟩ | z
        · cases z
        · cases z
        · exact z
      have ty : TyOk X "tuple" fun x H => x = .ref a := by
        intro pins σ H s x v I r e
        subst e
        cases r
        obtain ⟨o, its, n, hk, hc, _, _, _, dd⟩ := tw
        exact ⟨⟨o, I.kIn a o hk, hc⟩, fun b e => by cases e; exact ⟨o, I.kIn _ o hk, dd⟩⟩
      refine pimp (pe_mG (T := "tuple") ty PySem.F.plainAttrs_tuple PySem.F.slot_tuple_index PySem.F.type_tuple_index Ss.mt_tix (pe_glob hg q1 q2 hd) pa rfl (by rw [star_cons hn]; rfl) hl (star_cons hn) rfl) fun σ H Q ⟨M, ς, d, fr, ς', S, e, k⟩ => ?_
      simp only [evE, hd'] at e
      obtain ⟨g, e2, e⟩ := R.bind_is e
      obtain ⟨y, e4, e⟩ := R.bind_is e
      obtain ⟨o, e5, e⟩ := R.bind_is e
      cases e
      obtain ⟨xs, ws, w, i, hx, h1, h2, hj, rfl⟩ := ixm_is e5
      cases hx
      refine ⟨rfl, M, ς, g.1, g.2, S, e2, fun z H2 M2 n2 r2 => ?_⟩
      obtain ⟨rfl, f1⟩ := flat_pk (deref_pk n2.S r2 e4) h2
      have q4 := q3 M2 H2
      simp only [Rep] at q4
      obtain ⟨a', vs', ea, tu', rl⟩ := q4
      cases ea
      obtain ⟨rfl, f2⟩ := flats_of rl h1
      exact ⟨a, vs', z, rfl, rfl, tu'.sq, f1, f2, i, hj, k _ _ (Mk.aft (.same rep_int) n2)⟩
    · exact ⟨fun pins s σ H Q I ⟨M, ς, g, fr, ς', S, e, k⟩ => by
        simp only [evE, hd'] at e
        obtain ⟨g, e2, e⟩ := R.bind_is e
        obtain ⟨y, e4, e⟩ := R.bind_is e
        obtain ⟨o, e5, e⟩ := R.bind_is e
        obtain ⟨xs, ws, w, i, hx, h1, h2, hj, rfl⟩ := ixm_is e5
        have q0 := q3 (fun _ => False) (fun _ => none)
        cases d <;> simp only [seqOf] at hx <;> try (cases hx; done)
        · exact absurd ⟨_, rfl⟩ isT
        · simp only [Rep] at q0
          obtain ⟨a, vs, rfl, ⟨z | ⟨o, z⟩, _⟩, _⟩ := q0 <;> cases z⟩
end
end Iq
set_option Elab.async false
set_option linter.all false
set_option maxRecDepth 100000
set_option maxHeartbeats 4000000
namespace Iq
open PySem L2

theorem ownOf_map {N : List Str} : ∀ {is : List Nat}, inN N is = true → (ownOf N is).map (·.2) = is
  | [], _ => rfl
  | i :: is, h => by
    simp only [inN, List.all_cons, Bool.and_eq_true, decide_eq_true_eq] at h
    unfold ownOf
    rw [List.getElem?_eq_getElem h.1]
    simp only [List.map_cons]
    rw [ownOf_map (by simpa [inN] using h.2)]
section
variable {fa : Fa} {Γ : Gt} {P : Pr} {n : Nat} {F : Fm}
/-- both readings of an expression -/
def Snd (X : Cx) (fa : Fa) (F : Fm) (P : Pr) (a : Ex) (e : Expr) : Prop := PE X e (rdE (zt X fa) F (evE P a)) ∧ PE X e (rdH (zt X fa) F (hd a (evE P a)))
theorem snd_of {X : Cx} {a : Ex} {e : Expr} (h : PE X e (rdE (zt X fa) F (evE P a))) (hv : ∀ ς, hd a (evE P a) ς = (evE P a ς).bind fun r => .ok (.val r.1, r.2.2)) : Snd X fa F P a e :=
  ⟨h, pimp h fun σ H Q q => rdH_of (by rw [← funext hv]; exact q)⟩
theorem s_comp {X : Cx} (G : Gd X fa Γ P n) {e : Ex} {t : Tg} {k : Ik} {ss : List Ex} {c : Option Tx} {el tg it : Expr} {ifs : List Expr} {sco : Scope} {pos : Pos} (hi : PI X tg it (rdI (zt X fa) F (evI P k ss))) (hf : nst it = true)
    (hb : blkC X.N X.env.scope sco (ownOf X.N (tgS t)) = true) (hN : inN X.N (tgS t) = true) (hg : agTg X.N (relS sco X.env.scope) (fun x => sco.names.lookup x == some .cell) t tg = true)
    (ht : ∀ (s : Shared) (H : Hp) (C : Addr) (cl : List (Str × Addr)) (fp : List Addr), PTs (X.blk s H sco (compEnvC sco cl C X.env) fp) ifs (rdT (zt X fa) F (evQ P c)))
    (he : ∀ (s : Shared) (H : Hp) (C : Addr) (cl : List (Str × Addr)) (fp : List Addr), PE (X.blk s H sco (compEnvC sco cl C X.env) fp) el (rdE (zt X fa) F (evE P e))) :
    PE X (.ListComp el [⟨tg, it, ifs, 0⟩] sco pos) (rdE (zt X fa) F (evE P (.comp e t k ss c))) := by
  have h := pe_lc (g := gOf X.K t) (pos := pos) G.calm G.nd hi (blkOk_by hb) (fun s H C cl fp => g_tg (X := X.blk s H sco (compEnvC sco cl C X.env) fp) (sc := relS sco X.env.scope) (fnc := fun x => sco.names.lookup x == some .cell) G.calm rfl G.nd (fun x hx => hx) hg) ht he (no_fold hf)
  rw [ownOf_map hN] at h
  exact pimp h fun σ H Q q => lc_go q
theorem qimp {X : Cx} {ifs : List Expr} {t t' : TT} (h : PTs X ifs t) (i : ∀ σ H Q, t' σ H Q → t σ H Q) : PTs X ifs t' := ⟨fun pins s σ H Q I q => h.run pins s σ H Q I (i σ H Q q)⟩
mutual
theorem sE : ∀ (a : Ex) {X : Cx} (G : Gd X fa Γ P n) {e : Expr}, agE Γ X.N X.env.scope a e = true → Snd X fa F P a e
  | .var i, X, G, e, h => by
    cases e <;> simp only [agE] at h <;> try (cases h; done)
    exact ⟨pimp (s_var rfl h) fun σ H Q q => rd_varE q, pimp (s_var rfl h) fun σ H Q q => rd_varH q⟩
  | .con d, X, G, e, h => by
    simp only [agE] at h
    exact snd_of (s_con h) fun ς => rfl
  | .glo j, X, G, e, h => by
    cases e <;> simp only [agE] at h <;> try (cases h; done)
    simp only [Bool.and_eq_true, decide_eq_true_eq] at h
    exact snd_of (s_glo G rfl h.1 h.2) fun ς => rfl
  | .fnv k, X, G, e, h => by
    cases e <;> simp only [agE] at h <;> try (cases h; done)
    simp only [Bool.and_eq_true, decide_eq_true_eq] at h
    exact snd_of (s_fnv G rfl h.1 h.2.1 h.2.2) fun ς => rfl
  | .tup as, X, G, e, h => by
    cases e <;> simp only [agE] at h <;> try (cases h; done)
    simp only [Bool.and_eq_true, decide_eq_true_eq] at h
    have ps := sL as G h.1
    exact snd_of (s_tup ps.rows (by rw [ps.len]; exact h.2)) fun ς => rfl
  | .lst as, X, G, e, h => by
    cases e <;> simp only [agE] at h <;> try (cases h; done)
    simp only [Bool.and_eq_true, decide_eq_true_eq] at h
    have ps := sL as G h.1
    exact snd_of (s_lst ps.rows (by rw [ps.len]; exact h.2)) fun ς => rfl
  | .dct ks as, X, G, e, h => by
    cases e <;> simp only [agE] at h <;> try (cases h; done)
    simp only [Bool.and_eq_true, decide_eq_true_eq] at h
    obtain ⟨⟨⟨⟨⟨h1, h2⟩, h3⟩, h4⟩, h5⟩, h6⟩ := h
    have ps := sL as G h2
    exact snd_of (s_dct h1 h3 h4 h5 h6 (h6.trans ps.len) ps.pes) fun ς => rfl
  | .neg a, X, G, e, h => by
    cases e <;> try (simp only [agE] at h; cases h; done)
    case UnaryOp op x p =>
      cases op <;> simp only [agE] at h <;> try (cases h; done)
      exact snd_of (s_neg (sE a G h).2) fun ς => rfl
  | .nt a, X, G, e, h => by
    cases e <;> try (simp only [agE] at h; cases h; done)
    case UnaryOp op x p =>
      cases op <;> simp only [agE] at h <;> try (cases h; done)
      exact snd_of (s_nt (sE a G h).2) fun ς => rfl
  | .and a b, X, G, e, h => by
    cases e <;> try (simp only [agE] at h; cases h; done)
    case BoolOp op es p =>
      cases op with
      | Or => simp only [agE] at h; cases h
      | And =>
        match es, h with
        | [], h => simp only [agE] at h; cases h
        | [_], h => simp only [agE] at h; cases h
        | [x, y], h =>
          simp only [agE, Bool.and_eq_true] at h
          exact snd_of (s_and (sE a G h.1).1 (pe_one (sE b G h.2).1)) fun ς => rfl
        | x :: y :: z :: r, h =>
          simp only [agE, Bool.and_eq_true] at h
          exact snd_of (s_and (sE a G h.1).1 (sE b G h.2).1) fun ς => rfl
  | .or a b, X, G, e, h => by
    cases e <;> try (simp only [agE] at h; cases h; done)
    case BoolOp op es p =>
      cases op with
      | And => simp only [agE] at h; cases h
      | Or =>
        match es, h with
        | [], h => simp only [agE] at h; cases h
        | [_], h => simp only [agE] at h; cases h
        | [x, y], h =>
          simp only [agE, Bool.and_eq_true] at h
          exact snd_of (s_or (sE a G h.1).1 (pe_one (sE b G h.2).1)) fun ς => rfl
        | x :: y :: z :: r, h =>
          simp only [agE, Bool.and_eq_true] at h
          exact snd_of (s_or (sE a G h.1).1 (sE b G h.2).1) fun ς => rfl
  | .ite c a b, X, G, e, h => by
    cases e <;> simp only [agE] at h <;> try (cases h; done)
    simp only [Bool.and_eq_true] at h
    exact snd_of (s_ite (sT c G h.1.1).1 (sE a G h.1.2).1 (sE b G h.2).1) fun ς => rfl
  | .bin op a b, X, G, e, h => by
    cases e <;> simp only [agE] at h <;> try (cases h; done)
    simp only [Bool.and_eq_true, decide_eq_true_eq] at h
    obtain ⟨⟨rfl, h1⟩, h2⟩ := h
    exact snd_of (s_bin (sE a G h1).2 (sE b G h2).2) fun ς => rfl
  | .cmp op a b, X, G, e, h => by
    cases e <;> try (simp only [agE] at h; cases h; done)
    case Compare x ops ys p =>
      match ops, ys, h with
      | [o], [y], h =>
        simp only [agE, Bool.and_eq_true, decide_eq_true_eq] at h
        obtain ⟨⟨⟨rfl, h1⟩, h2⟩, h3⟩ := h
        exact snd_of (s_cmp G (sE a G h1).2 (sE b G h2).2 h3) fun ς => rfl
      | [], _, h => simp only [agE] at h; cases h
      | [_], [], h => simp only [agE] at h; cases h
      | [_], _ :: _ :: _, h => simp only [agE] at h; cases h
      | _ :: _ :: _, _, h => simp only [agE] at h; cases h
  | .chn o1 o2 a b c, X, G, e, h => by
    cases e <;> try (simp only [agE] at h; cases h; done)
    case Compare x ops ys p =>
      match ops, ys, h with
      | [p1, p2], [y, z], h =>
        simp only [agE, Bool.and_eq_true, decide_eq_true_eq] at h
        obtain ⟨⟨⟨⟨⟨rfl, rfl⟩, h1⟩, h2⟩, h3⟩, h4⟩ := h
        exact snd_of (s_chn G (sE a G h1).2 (sE b G h2).2 (sE c G h3).2 h4) fun ς => rfl
      | [], _, h => simp only [agE] at h; cases h
      | [_], _, h => simp only [agE] at h; cases h
      | [_, _], [], h => simp only [agE] at h; cases h
      | [_, _], [_], h => simp only [agE] at h; cases h
      | [_, _], _ :: _ :: _ :: _, h => simp only [agE] at h; cases h
      | _ :: _ :: _ :: _, _, h => simp only [agE] at h; cases h
  | .idx a b, X, G, e, h => by
    cases e <;> simp only [agE] at h <;> try (cases h; done)
    simp only [Bool.and_eq_true] at h
    exact snd_of (s_idx G (sE a G h.1.1).2 (sE b G h.1.2).2 h.2) fun ς => rfl
  | .sli a lo hi, X, G, e, h => by
    cases e <;> try (simp only [agE] at h; cases h; done)
    case Subscript x sl p =>
      cases sl <;> try (simp only [agE] at h; cases h; done)
      case Slice l u st p2 =>
        cases st with
        | some _ => simp only [agE] at h; cases h
        | none =>
          simp only [agE, Bool.and_eq_true] at h
          exact snd_of (s_sli (sE a G h.1.1).2 (sO lo G h.1.2) (sO hi G h.2)) fun ς => rfl
  | .call k as, X, G, e, h => by
    cases e <;> try (simp only [agE] at h; cases h; done)
    case Call f es ks p =>
      cases f <;> try (simp only [agE] at h; cases h; done)
      case Name f p2 =>
        cases ks with
        | cons _ _ => simp only [agE] at h; cases h
        | nil =>
          simp only [agE, Bool.and_eq_true, decide_eq_true_eq] at h
          exact snd_of (s_call G rfl h.1.1 h.1.2.1 h.1.2.2 (sL as G h.2)) fun ς => rfl
  | .calv i as, X, G, e, h => by
    cases e <;> try (simp only [agE] at h; cases h; done)
    case Call f es ks p =>
      cases f <;> try (simp only [agE] at h; cases h; done)
      case Name f p2 =>
        cases ks with
        | cons _ _ => simp only [agE] at h; cases h
        | nil =>
          simp only [agE, Bool.and_eq_true, decide_eq_true_eq] at h
          exact snd_of (s_calv G rfl h.1.1 h.2 (sL as G h.1.2)) fun ς => rfl
  | .bi f a, X, G, e, h => by
    cases e <;> try (simp only [agE] at h; cases h; done)
    case Call f' es ks p =>
      cases f' <;> try (simp only [agE] at h; cases h; done)
      case Name x p2 =>
        match es, ks, h with
        | [y], [], h =>
          simp only [agE, Bool.and_eq_true, decide_eq_true_eq] at h
          exact snd_of (s_bi G rfl h.1.1.1 h.1.1.2 (sE a G h.1.2).2 h.2) fun ς => rfl
        | [], _, h => simp only [agE] at h; cases h
        | [_], _ :: _, h => simp only [agE] at h; cases h
        | _ :: _ :: _, _, h => simp only [agE] at h; cases h
  | .isi a ts, X, G, e, h => by
    cases e <;> try (simp only [agE] at h; cases h; done)
    case Call f' es ks p =>
      cases f' <;> try (simp only [agE] at h; cases h; done)
      case Name x p2 =>
        match es, ks, h with
        | [y, z], [], h =>
          simp only [agE, Bool.and_eq_true, decide_eq_true_eq] at h
          obtain ⟨⟨⟨⟨⟨h1, h2⟩, h3⟩, h4⟩, h5⟩, h6⟩ := h
          have h0 : ts ≠ [] := fun q => by rw [q] at h5; cases h5
          simp only [Bool.or_eq_true] at h6
          rcases h6 with q | q
          · match ts, q with
            | [t], q => exact snd_of (s_isi1 G rfl h1 h2 (sE a G h3).2 h4 q) fun ς => rfl
            | [], q => cases q
            | _ :: _ :: _, q => cases q
          · cases z <;> try (cases q; done)
            simp only [agTup, Bool.and_eq_true, decide_eq_true_eq] at q
            exact snd_of (s_isiN G rfl h1 h2 (sE a G h3).2 h4 q.1 h0 q.2) fun ς => rfl
        | [], _, h => simp only [agE] at h; cases h
        | [_], _, h => simp only [agE] at h; cases h
        | [_, _], _ :: _, h => simp only [agE] at h; cases h
        | _ :: _ :: _ :: _, _, h => simp only [agE] at h; cases h
  | .join s b, X, G, e, h => by
    unfold agE at h
    split at h <;> try (first | (rename_i q _; cases q; done) | (rename_i q; cases q; done) | (cases h; done))
    all_goals (rename_i q; cases q)
    simp only [Bool.and_eq_true, decide_eq_true_eq] at h
    obtain ⟨⟨⟨⟨rfl, rfl⟩, h1⟩, h2⟩, h3⟩ := h
    exact snd_of (s_join (sE b G h1).2 h2 h3) fun ς => rfl
  | .comp e t k ss c, X, G, ex, h => by
    cases ex <;> try (simp only [agE] at h; cases h; done)
    case ListComp el gs sco p =>
      match gs, h with
      | [⟨tg, it, ifs, asy⟩], h =>
        simp only [agE, Bool.and_eq_true, decide_eq_true_eq] at h
        obtain ⟨⟨⟨⟨⟨⟨⟨rfl, h1⟩, h2⟩, h3⟩, h4⟩, h5⟩, h6⟩, h7⟩ := h
        obtain ⟨hi, hn⟩ := sI k ss G h1
        exact snd_of (s_comp G hi hn h3 h4 h2 (fun s H C cl fp => sQ c (G.blk s H sco (compEnvC sco cl C X.env) fp) h6) (fun s H C cl fp => (sE e (G.blk s H sco (compEnvC sco cl C X.env) fp) h7).1)) fun ς => rfl
      | [], h => simp only [agE] at h; cases h
      | _ :: _ :: _, h => simp only [agE] at h; cases h
  | .kwc q as zs, X, G, e, h => by
    cases e <;> try (simp only [agE] at h; cases h; done)
    case Call f es ks p =>
      cases f <;> try (simp only [agE] at h; cases h; done)
      simp only [agE, Bool.and_eq_true] at h
      exact snd_of (s_kwc G rfl h.1.1.1 h.1.1.2 (sL as G h.1.2) (sL zs G h.2)) fun ς => rfl
  | .tus bs as, X, G, e, h => by
    cases e <;> simp only [agE] at h <;> try (cases h; done)
    simp only [Bool.and_eq_true] at h
    exact snd_of (s_tus (sSb bs as G h.1)) fun ς => rfl
  | .rep as b, X, G, e, h => by
    cases e <;> try (simp only [agE] at h; cases h; done)
    case BinOp x op y p =>
      cases x <;> try (simp only [agE] at h; cases h; done)
      simp only [agE, Bool.and_eq_true, decide_eq_true_eq] at h
      obtain ⟨⟨⟨rfl, h1⟩, h2⟩, h3⟩ := h
      have ps := sL as G h1
      exact snd_of (s_rep ps.rows (by rw [ps.len]; exact h2) (sE b G h3).2) fun ς => rfl
  | .hrd q as zs, X, G, e, h => by
    unfold agE at h
    split at h <;> try (first | (rename_i q _; cases q; done) | (rename_i q; cases q; done) | (cases h; done))
    all_goals (rename_i q; cases q)
    simp only [Bool.and_eq_true, decide_eq_true_eq] at h
    obtain ⟨⟨⟨⟨⟨⟨⟨⟨⟨⟨h0, h1⟩, h2⟩, h3⟩, h4⟩, h5⟩, h6⟩, h7⟩, h8⟩, h9⟩, h10⟩ := h
    exact snd_of (s_hrd G h0 h1 h2 h3 h4 h5 h6 h7 h8 h9 h10) fun ς => rfl
  | .rpr a, X, G, e, h => by
    unfold agE at h
    split at h <;> try (first | (rename_i q _; cases q; done) | (rename_i q; cases q; done) | (cases h; done))
    all_goals (rename_i q; cases q)
    simp only [Bool.and_eq_true, decide_eq_true_eq] at h
    obtain ⟨⟨⟨h1, rfl⟩, h2⟩, h3⟩ := h
    exact snd_of (s_rpr G h1 (sE a G h2).2 h3) fun ς => rfl
  | .srs a, X, G, e, h => by
    unfold agE at h
    split at h <;> try (first | (rename_i q _; cases q; done) | (rename_i q; cases q; done) | (cases h; done))
    all_goals (rename_i q; cases q)
    simp only [Bool.and_eq_true, decide_eq_true_eq] at h
    obtain ⟨⟨⟨⟨⟨h1, rfl⟩, h2⟩, rfl⟩, h3⟩, h4⟩ := h
    exact snd_of (s_srs G h1 h2 (sE a G h3).2 h4) fun ς => rfl
  | .ixm a b, X, G, e, h => by
    unfold agE at h
    split at h <;> try (first | (rename_i q _; cases q; done) | (rename_i q; cases q; done) | (cases h; done))
    all_goals (rename_i q; cases q)
    simp only [Bool.and_eq_true, decide_eq_true_eq] at h
    obtain ⟨⟨⟨⟨⟨rfl, h1⟩, h2⟩, h3⟩, h4⟩, h5⟩ := h
    exact snd_of (s_ixm (sE a G h1).2 (sE b G h3).2 h2 h4 h5) fun ς => rfl
  | .ixg j b, X, G, e, h => by
    unfold agE at h
    split at h <;> try (first | (rename_i q _; cases q; done) | (rename_i q; cases q; done) | (cases h; done))
    all_goals (rename_i q; cases q)
    simp only [Bool.and_eq_true, decide_eq_true_eq] at h
    obtain ⟨⟨⟨⟨⟨rfl, h1⟩, h2⟩, h3⟩, h4⟩, h5⟩ := h
    exact snd_of (s_ixg G h2 h1 (sE b G h3).2 h4 h5) fun ς => by
      simp only [hd, evE]
  | .lss bs as, X, G, e, h => by
    cases e <;> simp only [agE] at h <;> try (cases h; done)
    simp only [Bool.and_eq_true] at h
    exact snd_of (s_lss (sSb bs as G h.1)) fun ς => rfl
theorem sSb : ∀ (bs : List Bool) (as : List Ex) {X : Cx} (G : Gd X fa Γ P n) {es : List Expr}, agS' Γ X.N X.env.scope bs as es = true → SEb X (zt X fa) F P bs as es
  | [], [], X, G, [], h => .nil
  | false :: bs, a :: as, X, G, e :: es, h => by
    simp only [agS', Bool.and_eq_true] at h
    exact .cons (sE a G h.1.1).1 h.1.2 (sSb bs as G h.2)
  | true :: bs, a :: as, X, G, e :: es, h => by
    cases e <;> try (simp only [agS'] at h; cases h; done)
    simp only [agS', Bool.and_eq_true] at h
    exact .star (sE a G h.1).1 (sSb bs as G h.2)
  | [], [], X, G, _ :: _, h => by simp only [agS'] at h; cases h
  | [], _ :: _, X, G, _, h => by simp only [agS'] at h; cases h
  | false :: _, [], X, G, _, h => by simp only [agS'] at h; cases h
  | true :: _, [], X, G, _, h => by simp only [agS'] at h; cases h
  | false :: _, _ :: _, X, G, [], h => by simp only [agS'] at h; cases h
  | true :: _, _ :: _, X, G, [], h => by simp only [agS'] at h; cases h
theorem sL : ∀ (as : List Ex) {X : Cx} (G : Gd X fa Γ P n) {es : List Expr}, agL Γ X.N X.env.scope as es = true → SEs X (zt X fa) F P as es
  | [], X, G, [], h => .nil
  | a :: as, X, G, e :: es, h => by
    simp only [agL, Bool.and_eq_true] at h
    exact .cons (sE a G h.1.1).1 (sE a G h.1.1).2 h.1.2 (sL as G h.2)
  | [], X, G, _ :: _, h => by simp only [agL] at h; cases h
  | _ :: _, X, G, [], h => by simp only [agL] at h; cases h
theorem sO : ∀ (a : Option Ex) {X : Cx} (G : Gd X fa Γ P n) {e : Option Expr}, agO Γ X.N X.env.scope a e = true → PO X e (rdO (zt X fa) F (evO P a))
  | none, X, G, none, h => o_none
  | some a, X, G, some e, h => by
    simp only [agO] at h
    exact o_some (sE a G h).2
  | none, X, G, some _, h => by simp only [agO] at h; cases h
  | some _, X, G, none, h => by simp only [agO] at h; cases h
theorem sQ : ∀ (c : Option Tx) {X : Cx} (G : Gd X fa Γ P n) {es : List Expr}, agQ Γ X.N X.env.scope c es = true → PTs X es (rdT (zt X fa) F (evQ P c))
  | none, X, G, [], h => qimp pts_nil fun σ H Q ⟨M, ς, b, ς', S, e, k⟩ => by
    simp only [evQ] at e; cases e
    exact k H M (.refl S)
  | some c, X, G, [e], h => by
    simp only [agQ] at h
    exact qimp (pts_one (sT c G h).1) fun σ H Q ⟨M, ς, b, ς', S, e, k⟩ => ⟨M, ς, b, ς', S, by simpa only [evQ] using e, k⟩
  | none, X, G, _ :: _, h => by simp only [agQ] at h; cases h
  | some _, X, G, [], h => by simp only [agQ] at h; cases h
  | some _, X, G, _ :: _ :: _, h => by simp only [agQ] at h; cases h
theorem sT : ∀ (c : Tx) {X : Cx} (G : Gd X fa Γ P n) {e : Expr}, agT Γ X.N X.env.scope c e = true → PT X e (rdT (zt X fa) F (evT P c)) ∧ ∀ op es p, e = .BoolOp op es p → PW X e (rdT (zt X fa) F (evT P c))
  | .nt a, X, G, e, h => by
    cases e <;> try (simp only [agT] at h; cases h; done)
    case UnaryOp op x p =>
      cases op <;> simp only [agT] at h <;> try (cases h; done)
      exact ⟨t_nt (sT a G h).1, fun _ _ _ q => by cases q⟩
  | .and a b, X, G, e, h => by
    cases e <;> try (simp only [agT] at h; cases h; done)
    case BoolOp op es p =>
      cases op with
      | Or => simp only [agT] at h; cases h
      | And =>
        match es, h with
        | [], h => simp only [agT] at h; cases h
        | [_], h => simp only [agT] at h; cases h
        | [x, y], h =>
          simp only [agT, Bool.and_eq_true] at h
          have w : PW X (.BoolOp .And [x, y] p) (rdT (zt X fa) F (evT P (.and a b))) := wimp (pw_and (sT a G h.1).1 (pw_and1 (sT b G h.2).1)) fun σ H Q q => go_and q
          exact ⟨w.pt, fun _ _ _ _ => w⟩
        | x :: y :: z :: r, h =>
          simp only [agT, Bool.and_eq_true] at h
          have w : PW X (.BoolOp .And (x :: y :: z :: r) p) (rdT (zt X fa) F (evT P (.and a b))) := wimp (pw_and (sT a G h.1).1 ((sT b G h.2).2 _ _ _ rfl)) fun σ H Q q => go_and q
          exact ⟨w.pt, fun _ _ _ _ => w⟩
  | .or a b, X, G, e, h => by
    cases e <;> try (simp only [agT] at h; cases h; done)
    case BoolOp op es p =>
      cases op with
      | And => simp only [agT] at h; cases h
      | Or =>
        match es, h with
        | [], h => simp only [agT] at h; cases h
        | [_], h => simp only [agT] at h; cases h
        | [x, y], h =>
          simp only [agT, Bool.and_eq_true] at h
          have w : PW X (.BoolOp .Or [x, y] p) (rdT (zt X fa) F (evT P (.or a b))) := wimp (pw_or (sT a G h.1).1 (pw_or1 (sT b G h.2).1)) fun σ H Q q => go_or q
          exact ⟨w.pt, fun _ _ _ _ => w⟩
        | x :: y :: z :: r, h =>
          simp only [agT, Bool.and_eq_true] at h
          have w : PW X (.BoolOp .Or (x :: y :: z :: r) p) (rdT (zt X fa) F (evT P (.or a b))) := wimp (pw_or (sT a G h.1).1 ((sT b G h.2).2 _ _ _ rfl)) fun σ H Q q => go_or q
          exact ⟨w.pt, fun _ _ _ _ => w⟩
  | .at a, X, G, e, h => by
    have gen : ∀ (a : Ex), Snd X fa F P a e → plainT e = true → PT X e (rdT (zt X fa) F (evT P (.at a))) ∧ ∀ op es p, e = .BoolOp op es p → PW X e (rdT (zt X fa) F (evT P (.at a))) := fun a h1 h2 =>
      ⟨t_at h1.2 h2, fun _ _ _ q => by rw [q] at h2; cases h2⟩
    cases a with
    | cmp op a b =>
      cases e <;> try (simp only [agT] at h; cases h; done)
      case Compare x ops ys p =>
        match ops, ys, h with
        | [o], [y], h =>
          simp only [agT, Bool.and_eq_true, decide_eq_true_eq] at h
          obtain ⟨⟨⟨rfl, h1⟩, h2⟩, h3⟩ := h
          exact ⟨t_cmp G (sE a G h1).2 (sE b G h2).2 h3, fun _ _ _ q => by cases q⟩
        | [], _, h => simp only [agT] at h; cases h
        | [_], [], h => simp only [agT] at h; cases h
        | [_], _ :: _ :: _, h => simp only [agT] at h; cases h
        | _ :: _ :: _, _, h => simp only [agT] at h; cases h
    | chn o1 o2 a b c =>
      cases e <;> try (simp only [agT] at h; cases h; done)
      case Compare x ops ys p =>
        match ops, ys, h with
        | [p1, p2], [y, z], h =>
          simp only [agT, Bool.and_eq_true, decide_eq_true_eq] at h
          obtain ⟨⟨⟨⟨⟨rfl, rfl⟩, h1⟩, h2⟩, h3⟩, h4⟩ := h
          exact ⟨t_chn G (sE a G h1).2 (sE b G h2).2 (sE c G h3).2 h4, fun _ _ _ q => by cases q⟩
        | [], _, h => simp only [agT] at h; cases h
        | [_], _, h => simp only [agT] at h; cases h
        | [_, _], [], h => simp only [agT] at h; cases h
        | [_, _], [_], h => simp only [agT] at h; cases h
        | [_, _], _ :: _ :: _ :: _, h => simp only [agT] at h; cases h
        | _ :: _ :: _ :: _, _, h => simp only [agT] at h; cases h
    | _ =>
      simp only [agT, Bool.and_eq_true] at h
      exact gen _ (sE _ G h.1) h.2
theorem sI : ∀ (k : Ik) (ss : List Ex) {X : Cx} (G : Gd X fa Γ P n) {tg it : Expr}, agI Γ X.N X.env.scope k ss tg it = true → PI X tg it (rdI (zt X fa) F (evI P k ss)) ∧ nst it = true
  | .seq, [a], X, G, tg, it, h => by
    simp only [agI, Bool.and_eq_true] at h
    exact ⟨i_seq (sE a G h.1).1, h.2⟩
  | .rng, [a], X, G, tg, it, h => by
    unfold agI at h
    split at h <;> try (first | (rename_i q _; cases q; done) | (rename_i q; cases q; done) | (cases h; done))
    all_goals (rename_i q; cases q)
    simp only [Bool.and_eq_true, decide_eq_true_eq] at h
    exact ⟨i_rng G rfl h.1.1.1 h.1.1.2 (.cons (sE a G h.1.2).1 (sE a G h.1.2).2 h.2 .nil), rfl⟩
  | .rng2, [a, b], X, G, tg, it, h => by
    unfold agI at h
    split at h <;> try (first | (rename_i q _; cases q; done) | (rename_i q; cases q; done) | (cases h; done))
    all_goals (rename_i q; cases q)
    simp only [Bool.and_eq_true, decide_eq_true_eq] at h
    obtain ⟨⟨⟨⟨⟨h1, h2⟩, h3⟩, h4⟩, h5⟩, h6⟩ := h
    exact ⟨i_rng2 G rfl h1 h2 (.cons (sE a G h3).1 (sE a G h3).2 h4 (.cons (sE b G h5).1 (sE b G h5).2 h6 .nil)), rfl⟩
  | .zip, [a, b], X, G, tg, it, h => by
    unfold agI at h
    split at h <;> try (first | (rename_i q _; cases q; done) | (rename_i q; cases q; done) | (cases h; done))
    all_goals (rename_i q; cases q)
    simp only [Bool.and_eq_true, decide_eq_true_eq] at h
    obtain ⟨⟨⟨⟨⟨⟨h0, h1⟩, h2⟩, h3⟩, h4⟩, h5⟩, h6⟩ := h
    exact ⟨i_zip G rfl h1 h2 h0 (.cons (sE a G h3).1 (sE a G h3).2 h4 (.cons (sE b G h5).1 (sE b G h5).2 h6 .nil)), rfl⟩
  | .enu, [a], X, G, tg, it, h => by
    unfold agI at h
    split at h <;> try (first | (rename_i q _; cases q; done) | (rename_i q; cases q; done) | (cases h; done))
    all_goals (rename_i q; cases q)
    simp only [Bool.and_eq_true, decide_eq_true_eq] at h
    obtain ⟨⟨⟨⟨h0, h1⟩, h2⟩, h3⟩, h4⟩ := h
    exact ⟨i_enu G rfl h1 h2 h0 (.cons (sE a G h3).1 (sE a G h3).2 h4 .nil), rfl⟩
  | .seq, [], X, G, tg, it, h => by simp only [agI] at h; cases h
  | .seq, _ :: _ :: _, X, G, tg, it, h => by simp only [agI] at h; cases h
  | .rng, [], X, G, tg, it, h => by simp only [agI] at h; cases h
  | .rng, _ :: _ :: _, X, G, tg, it, h => by simp only [agI] at h; cases h
  | .enu, [], X, G, tg, it, h => by simp only [agI] at h; cases h
  | .enu, _ :: _ :: _, X, G, tg, it, h => by simp only [agI] at h; cases h
  | .rng2, [], X, G, tg, it, h => by simp only [agI] at h; cases h
  | .rng2, [_], X, G, tg, it, h => by simp only [agI] at h; cases h
  | .rng2, _ :: _ :: _ :: _, X, G, tg, it, h => by simp only [agI] at h; cases h
  | .zip, [], X, G, tg, it, h => by simp only [agI] at h; cases h
  | .zip, [_], X, G, tg, it, h => by simp only [agI] at h; cases h
  | .zip, _ :: _ :: _ :: _, X, G, tg, it, h => by simp only [agI] at h; cases h
end
end
end Iq
set_option Elab.async false
set_option linter.all false
set_option maxRecDepth 100000
set_option maxHeartbeats 4000000
namespace Iq
open PySem L2

section
variable {X : Cx} {st : Stmt} {sts : List Stmt}
theorem simp_ {t t' : TS} (h : PS X st t) (i : ∀ D σ H, t' D σ H → t D σ H) : PS X st t' := ⟨fun pins s σ H D I q => h.run pins s σ H D I (i D σ H q)⟩
theorem bimp {t t' : TS} (h : PSs X sts t) (i : ∀ D σ H, t' D σ H → t D σ H) : PSs X sts t' := ⟨fun pins s σ H D I q => h.run pins s σ H D I (i D σ H q)⟩
theorem sor {t u : TS} (h : PS X st t) (k : PS X st u) : PS X st (fun D σ H => t D σ H ∨ u D σ H) := ⟨fun pins s σ H D I q => q.elim (h.run pins s σ H D I) (k.run pins s σ H D I)⟩
end

/-! ### what a statement leaves -/
def RetV (Z : Zt) (F : Fm) (M : Mu) (H : Hp) (d : D) (v : V) : Bool → Prop
  | false => Rep Z M H d v
  | true => ∃ p, v = .ref p ∧ Nf F.H0 p ∧ M p ∧ Own Z M H p d
def EndS (Z : Zt) (F : Fm) (M : Mu) (H : Hp) (ς' : List Sl) (E : Ends) (W : XK) : Fl → Prop
  | .nx => ∀ M' σ' H', Sim Z F M' σ' ς' H' → Carry Z M H M' H' → E.nx σ' H'
  | .bk => ∀ M' σ' H', Sim Z F M' σ' ς' H' → Carry Z M H M' H' → E.bk σ' H'
  | .ct => ∀ M' σ' H', Sim Z F M' σ' ς' H' → Carry Z M H M' H' → E.ct σ' H'
  | .rt d fr => ∀ v M' σ' H', Sim Z F M' σ' ς' H' → RetV Z F M' H' d v fr → E.rt v H'
  | .ex c fs => ∀ dd M' σ' H', Sim Z F M' σ' ς' H' → XdOk Z M' H' fs dd → W (.ref (Z.cl c)) (some dd) H'
def rdS (Z : Zt) (F : Fm) (W : XK) (f : List Sl → R (Fl × List Sl)) : TS := fun E σ H =>
  ∃ (M : Mu) (ς : List Sl) (fl : Fl) (ς' : List Sl), Sim Z F M σ ς H ∧ f ς = .ok (fl, ς') ∧ EndS Z F M H ς' E W fl

section
variable {Z : Zt} {F : Fm} {M M' : Mu} {σ : L2.St} {ς ς' : List Sl} {H H' : Hp} {d : D} {v : V}
/-- a new object is given to a slot -/
theorem Sim.setOwn {i p : Nat} (S : Sim Z F (ins M p) σ ς H) (hm : ¬ M p) (h0 : Nf F.H0 p) (o : Own Z (ins M p) H p d) (hO : ¬ OwnS σ ς p) : Sim Z F (ins M p) (σ.set i (some (.ref p))) (ς.set i (.own false d)) H := by
  have ne : ∀ (j : Nat) b e, (ς.set i (.own false d))[j]? = some (.own b e) → i ≠ j → ς[j]? = some (.own b e) := fun j b e q ij => by
    rw [List.getElem?_set_ne ij] at q; exact q
  have at_ : ∀ b e, (ς.set i (.own false d))[i]? = some (.own b e) → i < ς.length ∧ b = false ∧ e = d := fun b e q => by
    by_cases hi : i < ς.length
    · rw [List.getElem?_set_self hi] at q; cases q; exact ⟨hi, rfl, rfl⟩
    · rw [List.getElem?_eq_none (by simp; omega)] at q; cases q
  refine ⟨by simp [S.len], fun j e q => ?_, fun j b e q => ?_, fun j k b e b' e' x jk q1 q2 q3 => ?_, S.old, S.dom, S.sup, S.wm, S.dm0, S.tab⟩
  · by_cases ij : i = j
    · subst ij
      by_cases hi : i < ς.length
      · rw [List.getElem?_set_self hi] at q; cases q
      · rw [List.getElem?_eq_none (by simp; omega)] at q; cases q
    · rw [List.getElem?_set_ne ij] at q
      rw [List.getElem?_set_ne ij]
      exact S.shr j e q
  · by_cases ij : i = j
    · subst ij
      obtain ⟨hi, rfl, rfl⟩ := at_ b e q
      exact ⟨p, by rw [List.getElem?_set_self (by rw [S.len]; exact hi)], .inr rfl, h0, o⟩
    · have q' := ne j b e q ij
      obtain ⟨a, q1, q2, q3, q4⟩ := S.own j b e q'
      refine ⟨a, by rw [List.getElem?_set_ne ij]; exact q1, q2, ?_, q4⟩
      cases b with
      | true => exact ⟨q3.1, by rw [List.getElem?_set_ne ij]; exact q3.2⟩
      | false => exact q3
  · by_cases ij : i = j
    · subst ij
      obtain ⟨hi, _, _⟩ := at_ b e q1
      rw [List.getElem?_set_self (by rw [S.len]; exact hi)] at q3
      cases q3
      rw [List.getElem?_set_ne jk]
      exact fun z => hO ⟨k, b', e', ne k b' e' q2 jk, z⟩
    · by_cases ik : i = k
      · subst ik
        obtain ⟨hi, _, _⟩ := at_ b' e' q2
        rw [List.getElem?_set_self (by rw [S.len]; exact hi)]
        rw [List.getElem?_set_ne ij] at q3
        intro z
        cases z
        exact hO ⟨j, b, e, ne j b e q1 ij, q3⟩
      · rw [List.getElem?_set_ne ij] at q3
        rw [List.getElem?_set_ne ik]
        exact S.sep j k _ _ _ _ x jk (ne j b e q1 ij) (ne k b' e' q2 ik) q3
/-- what a value is stored as -/
theorem Aft.store {fr : Bool} {i : Nat} (S : Sim Z F M σ ς H) (a : Aft Z F M σ ς ς' H H' d fr v) : ∃ M2, Sim Z F M2 (σ.set i (some v)) (ς'.set i (bif fr then .own false d else .shr d)) H' ∧ Carry Z M H M2 H' := by
  obtain ⟨M', n, r, q⟩ := a
  cases fr with
  | false => exact ⟨M', n.S.setShr r, n.carry⟩
  | true =>
    obtain ⟨p, rfl, hp, S2, o⟩ := q rfl
    have nm : ¬ M' p := fun z => S.nM hp (n.l p z)
    have nO : ¬ OwnS σ ς' p := fun z => nm (n.S.owns p z)
    refine ⟨ins M' p, S2.setOwn nm (S.n0 hp) o nO, ?_⟩
    exact .trans (.trans (.ins hp) (.evo (n.e.less fun a h => .inl (S.owns a h)))) (.less fun a h => h.elim (fun h => .inl (n.l a h)) .inr)
/-- an owned object changes -/
theorem Sim.turn {i : Nat} {a : Addr} {b : Bool} {d d' : D} {o : HO} (S : Sim Z F M σ ς H) (h : ς[i]? = some (.own b d)) (ha : σ[i]? = some (some (.ref a))) (ho : Own Z M (upd H a o) a d') : Sim Z F M σ (ς.set i (.own b d')) (upd H a o) ∧ Carry Z M H M (upd H a o) := by
  have hi : i < ς.length := (List.getElem?_eq_some_iff.mp h).1
  obtain ⟨a', h1, h2, h3, h4⟩ := S.own i b d h
  rw [ha] at h1; cases h1
  have cr : Carry Z M H M (upd H a o) := .evo <| .of fun x u na q => by rw [upd_ne (fun z => na (by rw [z]; exact h2))]; exact q
  have back : ∀ (j : Nat) c e, (ς.set i (.own b d'))[j]? = some (.own c e) → ∃ e', ς[j]? = some (.own c e') ∧ (i ≠ j → e' = e) := fun j c e q => by
    by_cases ij : i = j
    · subst ij
      rw [List.getElem?_set_self hi] at q; cases q
      exact ⟨d, h, fun z => absurd rfl z⟩
    · rw [List.getElem?_set_ne ij] at q; exact ⟨e, q, fun _ => rfl⟩
  refine ⟨⟨by simp [S.len], fun j e q => ?_, fun j c e q => ?_, fun j k c e c' e' x jk q1 q2 q3 => ?_, fun x u q w t => ?_, fun x q => ?_, S.sup, S.wm, S.dm0, ?_⟩, cr⟩
  · by_cases ij : i = j
    · subst ij
      rw [List.getElem?_set_self hi] at q; cases q
    · rw [List.getElem?_set_ne ij] at q
      obtain ⟨w, q1, q2⟩ := S.shr j e q
      exact ⟨w, q1, Rep.carry cr _ _ q2⟩
  · by_cases ij : i = j
    · subst ij
      rw [List.getElem?_set_self hi] at q; cases q
      exact ⟨a, ha, h2, h3, ho⟩
    · rw [List.getElem?_set_ne ij] at q
      obtain ⟨x, q1, q2, q3, q4⟩ := S.own j c e q
      refine ⟨x, q1, q2, q3, q4.carry cr (upd_ne fun z => ?_)⟩
      subst z
      exact S.sep i j _ _ _ _ x ij h q ha q1
  · obtain ⟨e1, r1, _⟩ := back j c e q1
    obtain ⟨e2, r2, _⟩ := back k c' e' q2
    exact S.sep j k _ _ _ _ x jk r1 r2 q3
  · rw [upd_ne fun z => ?_]
    · exact S.old x u q w t
    · subst z
      cases b with
      | true => exact w h3.1
      | false => exact Nf.no h3 q t
  · by_cases z : x = a
    · rw [z]
      obtain ⟨u, e7, e8⟩ := ho.plain
      exact nf_not e7 e8.t
    · exact fun y => S.dom x q fun v e => y v (by rw [upd_ne z]; exact e)
  · obtain ⟨u, e7, e8⟩ := h4.plain
    exact S.tab.put e7 e8.t e8.e
end

section
variable {X : Cx} {fa : Fa} {Γ : Gt} {P : Pr} {n : Nat} {F : Fm} {W : XK} {e x y z : Expr} {pos : Pos}
/-! ### plain statements -/
theorem noComp {env : Env} {t : Option Expr} {l : Nat} (h : (match e with | .ListComp _ _ _ _ => false | .SetComp _ _ _ _ => false | .DictComp _ _ _ _ _ => false | _ => true) = true) : swapsWith e t l env = pure false := by
  cases e <;> first | rfl | cases h
def isComp : Expr → Bool
  | .ListComp _ _ _ _ => true
  | .SetComp _ _ _ _ => true
  | .DictComp _ _ _ _ _ => true
  | _ => false
theorem nc {env : Env} {t : Option Expr} {l : Nat} (h : isComp e = false) : swapsWith e t l env = pure false := by
  cases e <;> first | rfl | cases h
theorem x_exp {a : Ex} (ha : PE X e (rdE (zt X fa) F (evE P a))) (hc : isComp e = false) : PS X (.Expr e pos) (rdS (zt X fa) F W (evS P (.exp a))) :=
  simp_ (ps_expr ha (nc hc)) fun D σ H ⟨M, ς, fl, ς', S, ee, k⟩ => by
    simp only [evS] at ee
    obtain ⟨⟨d, fr, ς1⟩, e1, ee⟩ := R.bind_is ee
    cases ee
    exact ⟨M, ς, d, fr, ς1, S, e1, fun v H1 ⟨M1, n1, _⟩ => k M1 σ H1 n1.S n1.carry⟩
theorem asg_go {i : Nat} {a : Ex} {D : Ends} {σ : L2.St} {H : Hp} (h : rdS (zt X fa) F W (evS P (.asg i a)) D σ H) : tAsg (rdE (zt X fa) F (evE P a)) (gName i) D σ H := by
  obtain ⟨M, ς, fl, ς', S, ee, k⟩ := h
  simp only [evS] at ee
  obtain ⟨⟨d, fr, ς1⟩, e1, ee⟩ := R.bind_is ee
  cases ee
  exact ⟨M, ς, d, fr, ς1, S, e1, fun v H1 af => let ⟨M2, S2, c2⟩ := af.store (i := i) S; k M2 _ H1 S2 c2⟩
theorem x_asg {i : Nat} {a : Ex} {x : Str} {p : Pos} (ha : PE X e (rdE (zt X fa) F (evE P a))) (hg : PG X (.Name x p) (gName i)) (hs : swapsWith e (some (.Name x p)) pos.line X.env = pure false) : PS X (.Assign [.Name x p] e pos) (rdS (zt X fa) F W (evS P (.asg i a))) :=
  simp_ (ps_asg ha hg hs (by cases e <;> rfl) rfl) fun D σ H h => asg_go h
theorem x_ret {a : Ex} (ha : Snd X fa F P a e) : PS X (.Return (some e) pos) (rdS (zt X fa) F W (evS P (.ret a))) := by
  by_cases hv : ∃ i, a = .var i
  · obtain ⟨i, rfl⟩ := hv
    -- the name's slot
    have hp : PE X e (fun σ H Q => rdH (zt X fa) F (hd (.var i) (evE P (.var i))) σ H Q) := ha.2
    refine simp_ (ps_ret hp) fun D σ H ⟨M, ς, fl, ς', S, ee, k⟩ => ?_
    simp only [evS] at ee
    split at ee
    · rename_i d hd
      cases ee
      refine ⟨M, ς, .val d, ς, S, by simp only [Iq.hd, hd], fun v H1 M1 n1 r1 => k v M1 σ H1 n1.S r1⟩
    · rename_i d hd
      cases ee
      refine ⟨M, ς, .sl i, ς, S, by simp only [Iq.hd, hd], fun v H1 M1 n1 r1 => ?_⟩
      obtain ⟨a, h1, h2, h3, h4⟩ := n1.S.own i _ _ hd
      have r1 : σ[i]? = some (some v) := r1
      rw [h1] at r1; cases r1
      exact k _ M1 σ H1 n1.S ⟨a, rfl, h3, h2, h4⟩
    · cases ee
  · refine simp_ (ps_ret ha.1) fun D σ H ⟨M, ς, fl, ς', S, ee, k⟩ => ?_
    have e0 : evS P (.ret a) ς = (evE P a ς).bind fun r => .ok (.rt r.1 r.2.1, r.2.2) := by
      cases a <;> first | (simp only [evS]; done) | exact absurd ⟨_, rfl⟩ hv
    rw [e0] at ee
    obtain ⟨⟨d, fr, ς1⟩, e1, ee⟩ := R.bind_is ee
    cases ee
    refine ⟨M, ς, d, fr, ς1, S, e1, fun v H1 ⟨M1, n1, r1, q1⟩ => ?_⟩
    cases fr with
    | false => exact k v M1 σ H1 n1.S r1
    | true =>
      obtain ⟨p, rfl, hp, S2, o⟩ := q1 rfl
      exact k _ (ins M1 p) σ H1 S2 ⟨p, rfl, S.n0 hp, .inr rfl, o⟩
theorem x_retN : PS X (.Return none pos) (rdS (zt X fa) F W (evS P .retN)) := simp_ ps_retN fun D σ H ⟨M, ς, fl, ς', S, ee, k⟩ => by
  simp only [evS] at ee; cases ee
  exact k .non M σ H S (show Rep (zt X fa) M H .non .non from rep_non)
theorem x_pass : PS X (.Pass pos) (rdS (zt X fa) F W (evS P .pas)) := simp_ ps_pass fun D σ H ⟨M, ς, fl, ς', S, ee, k⟩ => by
  simp only [evS] at ee; cases ee
  exact k M σ H S (.evo (.refl _ _))
theorem x_brk : PS X (.Break pos) (rdS (zt X fa) F W (evS P .brk)) := simp_ ps_break fun D σ H ⟨M, ς, fl, ς', S, ee, k⟩ => by
  simp only [evS] at ee; cases ee
  exact k M σ H S (.evo (.refl _ _))
theorem x_cnt : PS X (.Continue pos) (rdS (zt X fa) F W (evS P .cnt)) := simp_ ps_continue fun D σ H ⟨M, ς, fl, ς', S, ee, k⟩ => by
  simp only [evS] at ee; cases ee
  exact k M σ H S (.evo (.refl _ _))
theorem x_nev {st : Stmt} : PS X st (rdS (zt X fa) F W (evS P .nev)) := ⟨fun pins s σ H D I ⟨M, ς, fl, ς', S, ee, k⟩ => by simp only [evS] at ee; cases ee⟩

/-! ### blocks -/
theorem EndS.imp {Z : Zt} {F : Fm} {W : XK} {M M1 : Mu} {H H1 : Hp} {ς' : List Sl} {E : Ends} {fl : Fl} (h : EndS Z F M H ς' E W fl) (c : Carry Z M H M1 H1) : EndS Z F M1 H1 ς' E W fl := by
  cases fl with
  | nx => exact fun M' σ' H' S' c' => h M' σ' H' S' (.trans c c')
  | bk => exact fun M' σ' H' S' c' => h M' σ' H' S' (.trans c c')
  | ct => exact fun M' σ' H' S' c' => h M' σ' H' S' (.trans c c')
  | rt d fr => exact fun v M' σ' H' S' r' => h v M' σ' H' S' r'
  | ex c fs => exact fun dd M' σ' H' S' r' => h dd M' σ' H' S' r'
theorem b_nil : PSs X [] (rdS (zt X fa) F W (evB P [])) := bimp pss_nil fun D σ H ⟨M, ς, fl, ς', S, ee, k⟩ => by
  simp only [evB] at ee; cases ee
  exact k M σ H S (.evo (.refl _ _))
theorem b_cons {s : Sm} {ss : List Sm} {st : Stmt} {sts : List Stmt} (h1 : PS X st (rdS (zt X fa) F W (evS P s))) (h2 : PSs X sts (rdS (zt X fa) F W (evB P ss))) : PSs X (st :: sts) (rdS (zt X fa) F W (evB P (s :: ss))) :=
  bimp (pss_cons h1 h2) fun D σ H ⟨M, ς, fl, ς', S, ee, k⟩ => by
    simp only [evB] at ee
    obtain ⟨⟨f1, ς1⟩, e1, ee⟩ := R.bind_is ee
    refine ⟨M, ς, f1, ς1, S, e1, ?_⟩
    cases f1 with
    | nx => exact fun M' σ' H' S' c' => ⟨M', ς1, fl, ς', S', ee, k.imp c'⟩
    | bk => cases ee; exact k
    | ct => cases ee; exact k
    | rt d fr => cases ee; exact k
    | ex c fs => cases ee; exact k
theorem x_if {c : Tx} {p q : List Sm} {ce : Expr} {ps qs : List Stmt} (hc : PT X ce (rdT (zt X fa) F (evT P c))) (hp : PSs X ps (rdS (zt X fa) F W (evB P p))) (hq : PSs X qs (rdS (zt X fa) F W (evB P q))) : PS X (.If ce ps qs pos) (rdS (zt X fa) F W (evS P (.ife c p q))) :=
  simp_ (ps_if hc hp hq) fun D σ H ⟨M, ς, fl, ς', S, ee, k⟩ => by
    simp only [evS] at ee
    obtain ⟨⟨t, ς1⟩, e1, ee⟩ := R.bind_is ee
    refine ⟨M, ς, t, ς1, S, e1, fun H1 M1 n1 => ?_⟩
    cases t with
    | true => exact iteT ⟨M1, ς1, fl, ς', n1.S, ee, k.imp n1.carry⟩
    | false => exact iteF ⟨M1, ς1, fl, ς', n1.S, ee, k.imp n1.carry⟩

/-! ### loops -/
theorem x_for (G : Gd X fa Γ P n) (hp : PassesOwn (model X.prog X.w) X.A X.env X.xe) {t : Tg} {k : Ik} {ss : List Ex} {p : List Sm} {tg it : Expr} {ps : List Stmt} (hi : PI X tg it (rdI (zt X fa) F (evI P k ss))) (hn : nst it = true) (hg : PG X tg (gOf X.K t)) (hb : PSs X ps (rdS (zt X fa) F W (evB P p))) :
    PS X (.For tg it ps [] pos) (rdS (zt X fa) F W (evS P (.loop t k ss p))) :=
  simp_ (ps_for hp G.calm hi hg hb (no_fold hn)) fun D σ H ⟨M, ς, fl, ς', S, ee, kk⟩ => by
    simp only [evS] at ee
    obtain ⟨⟨ds, ς1⟩, e1, ee⟩ := R.bind_is ee
    obtain ⟨xs, e2, ee⟩ := R.bind_is ee
    refine ⟨M, ς, xs, ς1, S, by unfold evI; rw [e1]; simp only [R.bind_ok]; rw [e2]; rfl, fun J H1 M1 Sr n1 wk sr hz => ?_⟩
    have k1 := kk.imp n1.carry
    refine ⟨fun i m σ H => m = xs.length - i ∧ i ≤ xs.length ∧ ∃ Mi ςi, Sim (zt X fa) F Mi σ ςi H ∧ Sr Mi H ∧ Carry (zt X fa) M1 H1 Mi H ∧ forGo t (evB P p) (xs.drop i) ςi = .ok (fl, ς'),
      ⟨xs.length, by simp, Nat.zero_le _, M1, ς1, n1.S, sr, .evo (.refl _ _), by simpa using ee⟩, ?_⟩
    rintro i m σ2 H2 ⟨rfl, hi, Mi, ςi, Si, sri, ci, run⟩
    by_cases hlt : i < xs.length
    · right
      refine ⟨wk.go i Mi H2 sri hlt, fun σ' H' => i + 1 ≤ xs.length ∧ ∃ Mi ςi, Sim (zt X fa) F Mi σ' ςi H' ∧ Sr Mi H' ∧ Carry (zt X fa) M1 H1 Mi H' ∧ forGo t (evB P p) (xs.drop (i + 1)) ςi = .ok (fl, ς'),
        fun σ' H' h => ⟨xs.length - (i + 1), by omega, rfl, h.1, h.2⟩, fun x H' hy => ?_⟩
      obtain ⟨dx, hdx, mk⟩ := wk.yld i Mi H2 x H' sri hlt hy
      have hdrop : xs.drop i = dx :: xs.drop (i + 1) := by
        rw [List.drop_eq_getElem_cons hlt]
        have := List.getElem?_eq_some_iff.mp hdx
        rw [this.2]
      rw [hdrop] at run
      simp only [forGo] at run
      obtain ⟨ςa, ea, run⟩ := R.bind_is run
      obtain ⟨⟨f1, ςb⟩, eb, run⟩ := R.bind_is run
      obtain ⟨Sx, rx, kx, fx, cx⟩ := mk.item Si
      refine bind_go Sx rx ea fun σ3 S3 _ _ => ⟨Mi, ςa, f1, ςb, S3, eb, ?_⟩
      have c3 : Carry (zt X fa) M1 H1 Mi H' := .trans ci cx
      cases f1 with
      | nx => exact fun M' σ' H4 S' c' => ⟨hlt, M', ςb, S', wk.stay _ _ _ _ sri (.trans cx c'), .trans c3 c', run⟩
      | ct => exact fun M' σ' H4 S' c' => ⟨hlt, M', ςb, S', wk.stay _ _ _ _ sri (.trans cx c'), .trans c3 c', run⟩
      | bk =>
        cases run
        exact fun M' σ' H4 S' c' => k1 M' σ' H4 S' (.trans c3 c')
      | rt d fr =>
        cases run
        exact fun v M' σ' H4 S' r' => k1 v M' σ' H4 S' r'
      | ex c fs =>
        cases run
        exact fun dd M' σ' H4 S' r' => k1 dd M' σ' H4 S' r'
    · left
      have hi' : xs.length ≤ i := by omega
      rw [List.drop_eq_nil_of_le hi'] at run
      simp only [forGo] at run
      cases run
      exact ⟨wk.stop i Mi H2 sri (by omega), k1 Mi σ2 H2 Si ci⟩
end
end Iq
set_option Elab.async false
set_option linter.all false
set_option maxRecDepth 100000
set_option maxHeartbeats 4000000
namespace Iq
open PySem L2

section
variable {X : Cx} {fa : Fa} {Γ : Gt} {P : Pr} {n : Nat} {F : Fm} {W : XK} {e x y z : Expr} {pos : Pos}

/-! ### name = [..] -/
theorem x_setLc (G : Gd X fa Γ P n) {i : Nat} {nm : Str} {py spos : Pos} {e : Ex} {t : Tg} {k : Ik} {ss : List Ex} {c : Option Tx} {el tg it : Expr} {ifs : List Expr} {sco : Scope} (hy : X.N[i]? = some nm) (hl : X.env.scope.names.lookup nm = some .local) (hk : X.env.scope.kind = .function)
    (hln : (py.line == pos.line) = true) (hany : (sco.names.any fun (n, k) => n == nm && (k == .local || k == .cell)) = false) (hi : PI X tg it (rdI (zt X fa) F (evI P k ss))) (hf : nst it = true)
    (hb : blkC X.N X.env.scope sco (ownOf X.N (tgS t)) = true) (hN : inN X.N (tgS t) = true) (hg : agTg X.N (relS sco X.env.scope) (fun x => sco.names.lookup x == some .cell) t tg = true)
    (ht : ∀ (s : Shared) (H : Hp) (C : Addr) (cl : List (Str × Addr)) (fp : List Addr), PTs (X.blk s H sco (compEnvC sco cl C X.env) fp) ifs (rdT (zt X fa) F (evQ P c)))
    (he : ∀ (s : Shared) (H : Hp) (C : Addr) (cl : List (Str × Addr)) (fp : List Addr), PE (X.blk s H sco (compEnvC sco cl C X.env) fp) el (rdE (zt X fa) F (evE P e))) :
    PS X (.Assign [.Name nm py] (.ListComp el [⟨tg, it, ifs, 0⟩] sco pos) spos) (rdS (zt X fa) F W (evS P (.asg i (.comp e t k ss c)))) := by
  have h := ps_setLc (i := i) (g := gOf X.K t) (py := py) (pos := pos) (spos := spos) G.calm G.nd hy hl (sw_true hk hl hln hany) hi (blkOk_by hb)
    (fun s H C cl fp => g_tg (X := X.blk s H sco (compEnvC sco cl C X.env) fp) (sc := relS sco X.env.scope) (fnc := fun x => sco.names.lookup x == some .cell) G.calm rfl G.nd (fun x hx => hx) hg) ht he (no_fold hf)
  rw [ownOf_map hN] at h
  exact simp_ h fun D σ H q => lc_go (asg_go q)

/-! ### a, b = e -/
def lineOf (ts : List Expr) : Nat := (ts.head?.map (·.pos.line)).getD 0
def swNames (sc : Scope) (ts : List Expr) : List Str := ts.filterMap fun
  | .Name id pos => if sc.names.lookup id == some .local && pos.line == lineOf ts then some id else none
  | _ => none
def swOff (sc : Scope) (ts vs : List Expr) : Bool := !(ts.length == 2 || ts.length == 3) || vs.length != ts.length || (swNames sc ts).length != ts.length
theorem sw_off {env : Env} {ts vs : List Expr} {k1 : Nat} {k2 : Nat} {p1 p2 : Pos} (h : swOff env.scope ts vs = true) : swappedStores [.Tuple ts k1 p1] (.Tuple vs k2 p2) env = pure none := by
  unfold swappedStores
  simp only []
  split
  · rfl
  · rename_i h1
    split
    · rfl
    · split
      · rfl
      · rename_i h3
        exfalso
        simp only [Bool.or_eq_true, not_or] at h1 h3
        simp only [swOff, Bool.or_eq_true] at h
        rcases h with (h | h) | h
        · exact h1.1.1 h
        · exact h1.1.2 h
        · exact h3.1 h
theorem sw_no {env : Env} {tg : Expr} (h : isTup e = false) : swappedStores [tg] e env = pure none := by
  unfold swappedStores
  cases e <;> first | (cases h; done) | (cases tg <;> rfl)
theorem sw_sub {env : Env} {o i : Expr} {p : Pos} : swappedStores [.Subscript o i p] e env = pure none := by
  unfold swappedStores
  cases e <;> rfl
theorem x_asgT {is : List Nat} {a : Ex} {ts : List Expr} {k1 : Nat} {p1 : Pos} (ha : PE X e (rdE (zt X fa) F (evE P a))) (hg : PG X (.Tuple ts k1 p1) (gOf X.K (.tp is))) (hc : isComp e = false) (hw : swappedStores [.Tuple ts k1 p1] e X.env = pure none) :
    PS X (.Assign [.Tuple ts k1 p1] e pos) (rdS (zt X fa) F W (evS P (.asgT is a))) :=
  simp_ (ps_asg ha hg (show swapsWith e (some (.Tuple ts k1 p1)) pos.line X.env = pure false from nc hc) hw rfl) fun D σ H ⟨M, ς, fl, ς', S, ee, k⟩ => by
    simp only [evS] at ee
    obtain ⟨⟨d, fr, ς1⟩, e1, ee⟩ := R.bind_is ee
    obtain ⟨ς2, e2, ee⟩ := R.bind_is ee
    cases ee
    exact ⟨M, ς, d, fr, ς1, S, e1, fun v H1 ⟨M1, n1, r1, _⟩ => bind_go n1.S r1 e2 fun σ' S' _ _ => k M1 σ' H1 S' n1.carry⟩
def swTwo (sc : Scope) (x y : Str) (px py : Pos) (a b : Expr) : Bool := decide (sc.names.lookup x = some .local) && decide (sc.names.lookup y = some .local) && (px.line == py.line) && !(x == y) && nst a && nst b &&
  !([a, b].all (foldedForSure 8)) && !([a, b].all (constantsAlone 8))
theorem sw_two {env : Env} {x y : Str} {px py pt pt2 : Pos} {a b : Expr} {kt k2 : Nat} (hk : env.blockKind = .function) (h : swTwo env.scope x y px py a b = true) : swappedStores [.Tuple [.Name x px, .Name y py] kt pt] (.Tuple [a, b] k2 pt2) env = pure (some [x, y]) := by
  simp only [swTwo, Bool.and_eq_true, decide_eq_true_eq, Bool.not_eq_true', beq_iff_eq, beq_eq_false_iff_ne] at h
  obtain ⟨⟨⟨⟨⟨⟨⟨h1, h2⟩, h3⟩, h4⟩, h5⟩, h6⟩, h7⟩, h8⟩ := h
  have kx : env.kindOf x = some .local := h1
  have ky : env.kindOf y = some .local := h2
  have st : ∀ e, nst e = true → (match e with | .Starred .. => true | _ => false) = false := fun e q => by
    cases e <;> first | rfl | cases q
  have he : ([x, y] : List Str).eraseDups = [x, y] := by
    rw [List.eraseDups_cons]
    simp [List.filter_cons, show (y == x) = false from beq_eq_false_iff_ne.mpr (Ne.symm h4), List.eraseDups_cons]
  have ll : (Expr.Name x px).pos.line = px.line := rfl
  unfold swappedStores
  simp only []
  split
  · rename_i q; exfalso; rw [hk] at q; simp at q
  · split
    · rename_i q
      exfalso
      simp only [List.any_cons, List.any_nil, Bool.or_false, Bool.or_eq_true] at q
      rcases q with q | q
      · exact Bool.noConfusion ((st a h5).symm.trans q)
      · exact Bool.noConfusion ((st b h6).symm.trans q)
    · split
      · rename_i q
        exfalso
        simp [kx, ky, h3, he, ll] at q
      · split
        · rename_i q; exfalso; rw [h7] at q; cases q
        · split
          · rename_i q; exfalso; rw [h8] at q; cases q
          · simp [kx, ky, h3, ll]
theorem x_par (G : Gd X fa Γ P n) {i j : Nat} {a b : Ex} {nx ny : Str} {px py pt pt2 : Pos} {kt k2 : Nat} (hi : X.N[i]? = some nx) (hj : X.N[j]? = some ny) (hk : X.env.scope.kind = .function) (hw : swTwo X.env.scope nx ny px py x y = true) (ps : SEs X (zt X fa) F P [a, b] [x, y]) :
    PS X (.Assign [.Tuple [.Name nx px, .Name ny py] kt pt] (.Tuple [x, y] k2 pt2) pos) (rdS (zt X fa) F W (evS P (.par i j a b))) := by
  have hw' := hw
  simp only [swTwo, Bool.and_eq_true, decide_eq_true_eq, Bool.not_eq_true', beq_iff_eq, beq_eq_false_iff_ne] at hw'
  obtain ⟨⟨⟨⟨⟨⟨⟨h1, h2⟩, h3⟩, h4⟩, h5⟩, h6⟩, h7⟩, h8⟩ := hw'
  have hij : i ≠ j := fun z => h4 (by rw [z, hj] at hi; exact (Option.some.inj hi).symm)
  have hbk : X.env.blockKind = .function := by unfold Env.blockKind; rw [hk]; rfl
  refine simp_ (ps_par G.calm G.nd hi hj hij h1 h2 ps.rows (sw_two hbk hw) rfl) fun D σ H ⟨M, ς, fl, ς', S, ee, k⟩ => ?_
  simp only [evS] at ee
  obtain ⟨⟨ds, ς1⟩, e1, ee⟩ := R.bind_is ee
  obtain ⟨ς2, e2, ee⟩ := R.bind_is ee
  cases ee
  obtain ⟨c, d, hd⟩ := ev2 e1
  simp only [] at hd
  subst hd
  refine ⟨M, ς, [c, d], ς1, S, e1, fun vs H1 M1 n1 r1 => ?_⟩
  simp only [RepL] at r1
  obtain ⟨v, r, rfl, q1, w, r2, rfl, q2, rfl⟩ := r1
  simp only [setAll] at e2
  cases e2
  exact ⟨v, w, rfl, k M1 _ H1 ((n1.S.setShr q1).setShr q2) n1.carry⟩

/-! ### stores into owned objects -/
theorem sl_own {Z : Zt} {M : Mu} {σ : L2.St} {ς : List Sl} {H : Hp} {i : Nat} {f : D → R D} {ς' : List Sl} (S : Sim Z F M σ ς H) (h : setSl ς i f = .ok ς') : ∃ b d d' a, ς[i]? = some (.own b d) ∧ f d = .ok d' ∧ ς' = ς.set i (.own b d') ∧ σ[i]? = some (some (.ref a)) ∧ M a ∧ Own Z M H a d := by
  unfold setSl at h
  split at h
  · rename_i b d hb
    obtain ⟨d', e1, h⟩ := R.bind_is h
    cases h
    obtain ⟨a, h1, h2, _, h4⟩ := S.own i b d hb
    exact ⟨b, d, d', a, hb, e1, rfl, h1, h2, h4⟩
  · cases h
theorem putK_rep {Z : Zt} {M : Mu} {H : Hp} {k : Key} {d : D} {v : V} (hd : Rep Z M H d v) {kv : List (Key × D)} {kvs : List (Key × V)} (h : RepK Z M H kv kvs) : RepK Z M H (valPut kv k d) (putK kvs k v) := by
  unfold valPut putK
  rw [valV_any, repK_some h]
  by_cases e : (valD kv k).isSome = true
  · rw [if_pos e, if_pos e]
    clear e
    induction kv generalizing kvs with
    | nil => simp only [RepK] at h; subst h; simp [RepK]
    | cons p kv ih =>
      obtain ⟨k0, d0⟩ := p
      simp only [RepK] at h
      obtain ⟨v0, r, rfl, h1, h2⟩ := h
      simp only [List.map_cons]
      by_cases e : k0 = k
      · simp only [e, if_true, RepK]
        exact ⟨v, _, rfl, hd, ih h2⟩
      · simp only [e, if_false, RepK]
        exact ⟨v0, _, rfl, h1, ih h2⟩
  · rw [if_neg e, if_neg e]
    clear e
    induction kv generalizing kvs with
    | nil => simp only [RepK] at h; subst h; simp only [List.nil_append, RepK]; exact ⟨v, [], rfl, hd, rfl⟩
    | cons p kv ih =>
      obtain ⟨k0, d0⟩ := p
      simp only [RepK] at h
      obtain ⟨v0, r, rfl, h1, h2⟩ := h
      simp only [List.cons_append, RepK]
      exact ⟨v0, _, rfl, h1, ih h2⟩
theorem repK_len {Z : Zt} {M : Mu} {H : Hp} : ∀ {kv : List (Key × D)} {kvs : List (Key × V)}, RepK Z M H kv kvs → kv.length = kvs.length
  | [], _, h => by simp only [RepK] at h; subst h; rfl
  | (k, d) :: kv, _, h => by
    simp only [RepK] at h
    obtain ⟨v, r, rfl, _, h2⟩ := h
    simp [repK_len h2]
theorem x_set (G : Gd X fa Γ P n) {i : Nat} {a b : Ex} {nm : Str} {p p2 : Pos} (ho : PE X (.Name nm p) (tVar i)) (ha : PE X x (rdH (zt X fa) F (hd a (evE P a)))) (hb : PE X e (rdE (zt X fa) F (evE P b))) (hn : nst x = true) (hc : isComp e = false) :
    PS X (.Assign [.Subscript (.Name nm p) x p2] e pos) (rdS (zt X fa) F W (evS P (.set i a b))) := by
  have hG := G.room.units
  have h1 := ps_asg (pos := pos) hb (pg_sub (pos := p2) ho ha set_list (by cases x <;> first | (intro _; rfl) | cases hn)) (show swapsWith e (some (.Subscript (.Name nm p) x p2)) pos.line X.env = pure false from nc hc) sw_sub rfl
  have h2 := ps_dput (pos := pos) (pos' := p2) (by omega) ho ha hb (nc hc)
  refine simp_ (sor h1 h2) fun D σ H ⟨M, ς, fl, ς', S, ee, k⟩ => ?_
  simp only [evS] at ee
  obtain ⟨⟨d, fr, ς1⟩, e1, ee⟩ := R.bind_is ee
  cases hO : isOwn ς1 i with
  | false => rw [hO] at ee; cases ee
  | true =>
  rw [hO] at ee
  simp only [cond_true] at ee
  obtain ⟨h, e2, ee⟩ := R.bind_is ee
  obtain ⟨kd, e3, ee⟩ := R.bind_is ee
  obtain ⟨ς2, e4, ee⟩ := R.bind_is ee
  cases ee
  have core : ∀ (v : V) (H1 : Hp) (M1 : Mu), Nxt (zt X fa) F M σ ς H M1 ς1 H1 → Rep (zt X fa) M1 H1 d v → ∀ (Q : V → V → Hp → Prop), (∀ w u H2 M2, Nxt (zt X fa) F M σ ς H M2 h.2 H2 → Rep (zt X fa) M2 H2 d v → HdV (zt X fa) M2 σ H2 h.1 u → σ[i]? = some (some w) → Q w u H2) →
      tVar i σ H1 fun w H2 => rdH (zt X fa) F (Iq.hd a (evE P a)) σ H2 fun u H3 => Q w u H3 := fun v H1 M1 n1 r1 Q q => by
    unfold isOwn at hO
    split at hO
    · rename_i b0 d0 hb0
      obtain ⟨w, hw, _⟩ := n1.S.own i _ _ hb0
      exact ⟨_, hw, M1, ς1, h.1, h.2, n1.S, e2, fun u H2 M2 n2 r2 => q _ u H2 M2 (n1.trans n2) (n2.rep r1) r2 hw⟩
    · cases hO
  have fin : ∀ (b0 : Bool) (d0 : Iq.D), h.2[i]? = some (.own b0 d0) → (∃ l, d0 = .lst l) ∨ ∃ l, d0 = .dic l := fun b0 d0 hb => by
    unfold setSl at e4
    rw [hb] at e4
    obtain ⟨d', e5, _⟩ := R.bind_is e4
    cases d0 <;> simp only [setD] at e5 <;> try (cases e5; done)
    · exact .inl ⟨_, rfl⟩
    · exact .inr ⟨_, rfl⟩
  obtain ⟨b0, d0, hb⟩ : ∃ b0 d0, h.2[i]? = some (.own b0 d0) := by
    unfold setSl at e4
    split at e4
    · exact ⟨_, _, by assumption⟩
    · cases e4
  rcases fin b0 d0 hb with ⟨l, rfl⟩ | ⟨kv, rfl⟩
  · refine .inl ⟨M, ς, d, fr, ς1, S, e1, fun v H1 ⟨M1, n1, r1, _⟩ => core v H1 M1 n1 r1 _ fun w u H2 M2 n2 r2 ru hw => ?_⟩
    obtain ⟨b1, d1, d', a1, g1, g2, g3, g4, g5, g6⟩ := sl_own n2.S e4
    rw [hb] at g1; cases g1
    rw [hw] at g4; cases g4
    obtain ⟨vs, ga, gr⟩ := g6
    have pk := deref_pk n2.S ru e3
    simp only [setD] at g2
    split at g2
    · rename_i ii
      split at g2
      · rename_i jj hj
        cases g2
        subst g3
        rw [gr.length] at hj
        have ow : Own (zt X fa) M2 (upd H2 a1 (.lst (vs.set jj v))) a1 (.lst (l.set jj d)) := by
          have cr : Carry (zt X fa) M2 H2 M2 (upd H2 a1 (.lst (vs.set jj v))) := .evo <| .of fun x u na q => by rw [upd_ne (fun z => na (by rw [z]; exact g5))]; exact q
          exact ⟨_, upd_same, RepL.carry cr _ _ (RepL.set r2 jj gr)⟩
        obtain ⟨S3, c3⟩ := n2.S.turn hb hw ow
        exact ⟨a1, vs, ii, jj, rfl, pk.int, ga, hj, k M2 σ _ S3 (.trans n2.carry c3)⟩
      · cases g2
    · cases g2
  · refine .inr ⟨M, ς, d, fr, ς1, S, e1, fun v H1 ⟨M1, n1, r1, _⟩ => core v H1 M1 n1 r1 _ fun w u H2 M2 n2 r2 ru hw => ?_⟩
    obtain ⟨b1, d1, d', a1, g1, g2, g3, g4, g5, g6⟩ := sl_own n2.S e4
    rw [hb] at g1; cases g1
    rw [hw] at g4; cases g4
    obtain ⟨kvs, ga, gr⟩ := g6
    have pk := deref_pk n2.S ru e3
    simp only [setD] at g2
    split at g2
    · rename_i kk hk
      split at g2
      · rename_i hz
        cases g2
        subst g3
        obtain rfl := key_pk pk hk
        have ow : Own (zt X fa) M2 (upd H2 a1 (.dK (putK kvs kk v))) a1 (.dic (valPut kv kk d)) := by
          have cr : Carry (zt X fa) M2 H2 M2 (upd H2 a1 (.dK (putK kvs kk v))) := .evo <| .of fun x u na q => by rw [upd_ne (fun z => na (by rw [z]; exact g5))]; exact q
          exact ⟨_, upd_same, RepK.carry cr _ _ (putK_rep r2 gr)⟩
        obtain ⟨S3, c3⟩ := n2.S.turn hb hw ow
        exact ⟨a1, _, rfl, DPut.k ga (by rw [← repK_len gr]; exact hz), k M2 σ _ S3 (.trans n2.carry c3)⟩
      · cases g2
    · cases g2
theorem x_app (G : Gd X fa Γ P n) {i : Nat} {a : Ex} {nm : Str} {p ap cp : Pos} (ho : PE X (.Name nm p) (tVar i)) (ha : PE X e (rdE (zt X fa) F (evE P a))) (hn : nst e = true) (hl : (ap.endLine == cp.line) = true) :
    PS X (.Expr (.Call (.Attribute (.Name nm p) "append" ap) [e] [] cp) pos) (rdS (zt X fa) F W (evS P (.app i a))) := by
  have pa : PA X [e] (tCons (rdE (zt X fa) F (evE P a)) tNil) := pa_cons ha pa_nil (star_cons hn)
  refine simp_ (ps_expr (pe_bm PySem.F.plainAttrs_list PySem.F.slot_list_append PySem.F.type_list_append mt_append ho pa rfl (by rw [star_cons hn]; rfl) hl (star_cons hn) rfl) rfl) fun D σ H ⟨M, ς, fl, ς', S, ee, k⟩ => ?_
  simp only [evS] at ee
  cases hO : isOwnL ς i with
  | false => rw [hO] at ee; cases ee
  | true =>
  rw [hO] at ee
  simp only [cond_true] at ee
  obtain ⟨⟨d, fr, ς1⟩, e1, ee⟩ := R.bind_is ee
  obtain ⟨ς2, e2, ee⟩ := R.bind_is ee
  cases ee
  obtain ⟨b0, d0, hb0⟩ : ∃ b0 d0, ς[i]? = some (.own b0 (.lst d0)) := by
    unfold isOwnL at hO
    split at hO
    · exact ⟨_, _, by assumption⟩
    · cases hO
  obtain ⟨w, hw, _, _, ow⟩ := S.own i _ _ hb0
  refine ⟨_, hw, ?_, M, ς, d, fr, ς1, S, e1, fun v H1 ⟨M1, n1, r1, _⟩ => ?_⟩
  · obtain ⟨vs, hv, _⟩ := ow
    exact .inl ⟨rfl, vs, .of hv⟩
  · obtain ⟨b1, d1, d', a1, g1, g2, g3, g4, g5, g6⟩ := sl_own n1.S e2
    rw [hw] at g4; cases g4
    cases d1 <;> simp only [addD] at g2 <;> try (cases g2; done)
    rename_i l
    split at g2
    · rename_i hz
      cases g2
      subst g3
      obtain ⟨vs, ga, gr⟩ := g6
      have ow : Own (zt X fa) M1 (upd H1 w (.lst (vs ++ [v]))) w (.lst (l ++ [d])) := by
        have cr : Carry (zt X fa) M1 H1 M1 (upd H1 w (.lst (vs ++ [v]))) := .evo <| .of fun x u na q => by rw [upd_ne (fun z => na (by rw [z]; exact g5))]; exact q
        exact ⟨_, upd_same, RepL.carry cr _ _ (gr.append (RepL.one r1))⟩
      obtain ⟨S3, c3⟩ := n1.S.turn g1 hw ow
      exact ⟨w, vs, v, rfl, rfl, ga, by rw [← gr.length]; exact hz, k M1 σ _ S3 (.trans n1.carry c3)⟩
    · cases g2
theorem x_ext (G : Gd X fa Γ P n) {i : Nat} {a : Ex} {nm : Str} {p ap cp : Pos} (ho : PE X (.Name nm p) (tVar i)) (ha : PE X e (rdE (zt X fa) F (evE P a))) (hn : nst e = true) (hl : (ap.endLine == cp.line) = true) :
    PS X (.Expr (.Call (.Attribute (.Name nm p) "extend" ap) [e] [] cp) pos) (rdS (zt X fa) F W (evS P (.ext i a))) := by
  have pa : PA X [e] (tCons (rdE (zt X fa) F (evE P a)) tNil) := pa_cons ha pa_nil (star_cons hn)
  refine simp_ (ps_expr (pe_bm PySem.F.plainAttrs_list PySem.F.slot_list_extend PySem.F.type_list_extend mt_extend ho pa rfl (by rw [star_cons hn]; rfl) hl (star_cons hn) rfl) rfl) fun D σ H ⟨M, ς, fl, ς', S, ee, k⟩ => ?_
  simp only [evS] at ee
  cases hO : isOwnL ς i with
  | false => rw [hO] at ee; cases ee
  | true =>
  rw [hO] at ee
  simp only [cond_true] at ee
  obtain ⟨⟨d, fr, ς1⟩, e1, ee⟩ := R.bind_is ee
  obtain ⟨ς2, e2, ee⟩ := R.bind_is ee
  cases ee
  obtain ⟨b0, d0, hb0⟩ : ∃ b0 d0, ς[i]? = some (.own b0 (.lst d0)) := by
    unfold isOwnL at hO
    split at hO
    · exact ⟨_, _, by assumption⟩
    · cases hO
  obtain ⟨w, hw, _, _, ow⟩ := S.own i _ _ hb0
  refine ⟨_, hw, ?_, M, ς, d, fr, ς1, S, e1, fun v H1 ⟨M1, n1, r1, q1⟩ => ?_⟩
  · obtain ⟨vs, hv, _⟩ := ow
    exact .inl ⟨rfl, vs, .of hv⟩
  · cases fr with
    | false => cases d <;> (unfold extG at e2; cases e2)
    | true =>
    cases d with
    | lst xs =>
      simp only [extG] at e2
      obtain ⟨b1, d1, d', a1, g1, g2, g3, g4, g5, g6⟩ := sl_own n1.S e2
      rw [hw] at g4; cases g4
      cases d1 <;> simp only [extD] at g2 <;> try (cases g2; done)
      rename_i l
      split at g2
      · rename_i hz
        cases g2
        subst g3
        obtain ⟨vs, ga, gr⟩ := g6
        obtain ⟨pp, rfl, _, _, us, gb, gr2⟩ := q1 rfl
        have gr3 : RepL (zt X fa) M1 H1 xs us := RepL.carry (.less fun a h => .inl h) _ _ gr2
        have ow : Own (zt X fa) M1 (upd H1 w (.lst (vs ++ us))) w (.lst (l ++ xs)) := by
          have cr : Carry (zt X fa) M1 H1 M1 (upd H1 w (.lst (vs ++ us))) := .evo <| .of fun x u na q => by rw [upd_ne (fun z => na (by rw [z]; exact g5))]; exact q
          exact ⟨_, upd_same, RepL.carry cr _ _ (gr.append gr3)⟩
        obtain ⟨S3, c3⟩ := n1.S.turn g1 hw ow
        exact ⟨w, pp, vs, us, rfl, rfl, ga, gb, by rw [← gr.length, ← gr3.length]; exact hz, k M1 σ _ S3 (.trans n1.carry c3)⟩
      · cases g2
    | _ => unfold extG at e2; cases e2

/-! ### while -/
theorem x_whl (hp : PassesOwn (model X.prog X.w) X.A X.env X.xe) {m : Nat} {c : Tx} {p : List Sm} {ce : Expr} {ps : List Stmt} (hc : PT X ce (rdT (zt X fa) F (evT P c))) (hb : PSs X ps (rdS (zt X fa) F W (evB P p))) : PS X (.While ce ps [] pos) (rdS (zt X fa) F W (evS P (.whl m c p))) :=
  simp_ (ps_while hp hc hb) fun D σ H ⟨M, ς, fl, ς', S, ee, kk⟩ => by
    simp only [evS] at ee
    refine ⟨fun m σ H => ∃ Mi ςi, Sim (zt X fa) F Mi σ ςi H ∧ whGo (evT P c) (evB P p) m ςi = .ok (fl, ς') ∧ EndS (zt X fa) F Mi H ς' D W fl, ⟨m, M, ς, S, ee, kk⟩, ?_⟩
    rintro m2 σ2 H2 ⟨Mi, ςi, Si, run, ki⟩
    cases m2 with
    | zero => simp only [whGo] at run; cases run
    | succ m2 =>
      simp only [whGo] at run
      obtain ⟨⟨b, ςb⟩, eb, run⟩ := R.bind_is run
      refine ⟨Mi, ςi, b, ςb, Si, eb, fun H3 M3 n3 => ?_⟩
      have k3 := ki.imp n3.carry
      cases b with
      | false =>
        simp only [cond_false] at run
        cases run
        exact iteF (k3 M3 σ2 H3 n3.S (.evo (.refl _ _)))
      | true =>
        simp only [cond_true] at run
        obtain ⟨⟨f1, ςc⟩, ec, run⟩ := R.bind_is run
        refine iteT ⟨fun σ' H' => ∃ Mi ςi, Sim (zt X fa) F Mi σ' ςi H' ∧ whGo (evT P c) (evB P p) m2 ςi = .ok (fl, ς') ∧ EndS (zt X fa) F Mi H' ς' D W fl, fun σ' H' h => ⟨m2, Nat.lt_succ_self _, h⟩, M3, ςb, f1, ςc, n3.S, ec, ?_⟩
        cases f1 with
        | nx => exact fun M' σ' H' S' c' => ⟨M', ςc, S', run, k3.imp c'⟩
        | ct => exact fun M' σ' H' S' c' => ⟨M', ςc, S', run, k3.imp c'⟩
        | bk => cases run; exact fun M' σ' H' S' c' => k3 M' σ' H' S' c'
        | rt d fr => cases run; exact fun v M' σ' H' S' r' => k3 v M' σ' H' S' r'
        | ex c fs => cases run; exact fun dd M' σ' H' S' r' => k3 dd M' σ' H' S' r'
end
end Iq
set_option Elab.async false
set_option linter.all false
set_option maxRecDepth 100000
set_option maxHeartbeats 4000000
namespace Iq
open PySem L2
section
variable {X : Cx} {fa : Fa} {Γ : Gt} {P : Pr} {n : Nat} {F : Fm} {W : XK} {e x y z : Expr} {pos : Pos}
/-! ### raise -/
theorem x_rai (G : Gd X fa Γ P n) (tk : Takes X (fun cls d _ H => W cls d H)) {c : Nat} {as : List Ex} {e1 e2 : Expr} {nm : Str} {p p2 : Pos} (hg : isG X.env.scope nm = true) (hc : Γ.cls[c]? = some nm) (ps : SEs X (zt X fa) F P as [e1, e2]) :
    PS X (.Raise (some (.Call (.Name nm p) [e1, e2] [] p2)) none pos) (rdS (zt X fa) F W (evS P (.rai c ["word", "at"] as))) := by
  obtain ⟨hgl, hdb⟩ := isG_gl rfl hg
  obtain ⟨fI, T⟩ := G.cls c nm hc
  have hn := ps.nst
  simp only [List.all_cons, Bool.and_eq_true] at hn
  refine simp_ (ps_raise (pos := pos) G.calm tk (Xn.pmk_nu (p := p) (pos := p2) T G.room ps.rows hgl (star_cons hn.1) (star_any (by simp [hn.2.1])) hdb)) fun D σ H ⟨M, ς, fl, ς', S, ee, k⟩ => ?_
  simp only [evS] at ee
  obtain ⟨⟨ds, ς1⟩, h1, ee⟩ := R.bind_is ee
  split at ee
  · cases ee
    have l1 := evL_len h1
    have l2 := ps.len
    simp only [List.length_cons, List.length_nil] at l2
    refine ⟨M, ς, ds, _, S, h1, fun vs H1 M1 n1 r1 => ?_⟩
    match ds, vs, r1, l1 with
    | [d1, d2], vs, r1, _ =>
      simp only [RepL] at r1
      obtain ⟨u, q, rfl, ru, v, q2, rfl, rv, rfl⟩ := r1
      refine ⟨u, v, rfl, fun d hd => k d M1 σ _ (n1.S.new hd) ⟨_, upd_same, ?_⟩⟩
      have cr : Carry (zt X fa) M1 H1 M1 (upd H1 d (.xd (Xn.flds u v))) := .evo (.new hd)
      exact ⟨v, _, rfl, Rep.carry cr _ _ rv, u, _, rfl, Rep.carry cr _ _ ru, rfl⟩
    | [], _, _, h => simp at h; omega
    | [_], _, _, h => simp at h; omega
    | _ :: _ :: _ :: _, _, _, h => simp at h; omega
  · cases ee
/-! ### a call that may raise -/
def rdX (Z : Zt) (F : Fm) (W : XK) (g : List Sl → R Cr) : TE := fun σ H Q => ∃ (M : Mu) (ς : List Sl) (r : Cr), Sim Z F M σ ς H ∧ g ς = .ok r ∧ (∀ q, r = .inl q → ∀ v H', Aft Z F M σ ς q.2.2 H H' q.1 q.2.1 v → Q v H') ∧
  (∀ x, r = .inr x → ∀ dd H' M', Nxt Z F M σ ς H M' x.2.2 H' → XdOk Z M' H' x.2.1 dd → W (.ref (Z.cl x.1)) (some dd) H')
theorem pe_xk (G : Gd X fa Γ P n) (tk : Takes X (fun cls d _ H => W cls d H)) {q : Nat} {as zs : List Ex} {es : List Expr} {kws : List Keyword} {f : Str} {p : Pos} (h : isG X.env.scope f = true) (hf : frm Γ q f es.length (kws.map (·.arg)) = true) (ps : SEs X (zt X fa) F P as es) (pz : SEs X (zt X fa) F P zs (kws.map (·.value))) :
    PE X (.Call (.Name f p) es kws pos) (rdX (zt X fa) F W fun ς => (kwG P q (evL P as) (evL P zs) ς).bind fun r => callK P r.1 r.2.1 r.2.2) := by
  obtain ⟨hg, hd⟩ := isG_gl rfl h
  obtain ⟨ks, hq, hks⟩ := frm_is hf
  have lz : zs.length = ks.length := by
    have := congrArg List.length hks
    have l2 := pz.len
    simp only [List.length_map] at this l2
    omega
  cases hk : P.kw[q]? with
  | none => exact ⟨fun pins s σ H Q I ⟨M, ς, r, S, e, k⟩ => by simp only [kwG, hk, R.bind_bad] at e; cases e⟩
  | some ksel =>
    obtain ⟨k, sel⟩ := ksel
    obtain ⟨hm, hkp, fd, prs, g, gV, hb, hsel, hF⟩ := G.kws q f _ ks k sel hq hk
    refine pimp (pe_kwx (pos := pos) (p := p) (E := W) hm hkp hb hF G.gz G.room hg hd (passes_call tk fun _ _ _ _ z => z) hks ps pz) fun σ H Q ⟨M, ς, c, S, e, k1, k2⟩ => ?_
    obtain ⟨r, e0, e⟩ := R.bind_is e
    obtain ⟨sel', a, z, h1, e1, e2, e3, e5⟩ := kwG_is e0
    rw [hk] at h1; cases h1
    refine kw_args S e1 e2 e3 ps.len lz hsel fun vs H' M' n' r' => ?_
    unfold callK at e
    cases hfn : P.fn r.1 (r.2.1.map .shr) with
    | ok o =>
      rw [hfn] at e
      cases e
      obtain ⟨d1, fr1, outs⟩ := o
      exact shr_go n' r' hfn (by rw [← e5]; exact k1 _ rfl)
    | bad =>
      rw [hfn] at e
      obtain ⟨⟨cc, fs⟩, ex, e⟩ := R.bind_is e
      cases e
      exact shr_raise n' r' ex fun dd H2 n2 xd => k2 _ rfl dd H2 M' (by rw [e5]; exact n2) xd
theorem pe_xc (G : Gd X fa Γ P n) (tk : Takes X (fun cls d _ H => W cls d H)) {k : Nat} {as : List Ex} {es : List Expr} {f : Str} {p : Pos} (h : isG X.env.scope f = true) (hx : Γ.fnm[k]? = some f) (hne : f ≠ "") (ps : SEs X (zt X fa) F P as es) :
    PE X (.Call (.Name f p) es [] pos) (rdX (zt X fa) F W fun ς => (evA P as (P.io k) ς).bind fun r => callX P k r.1 r.2) := by
  obtain ⟨hg, hd⟩ := isG_gl rfl h
  obtain ⟨hm, hk, hF⟩ := G.fns k f hx hne
  have go : ∀ σ H Q, rdX (zt X fa) F W (fun ς => (evA P as (P.io k) ς).bind fun r => callX P k r.1 r.2) σ H Q → tPl (spF (zt X fa) (P.fn k) (P.fx k)) W (rdA (zt X fa) F (evA P as (P.io k))) σ H Q := fun σ H Q ⟨M, ς, c, S, e, k1, k2⟩ => by
    obtain ⟨⟨gs, ς1⟩, e1, e⟩ := R.bind_is e
    refine ⟨M, ς, gs, ς1, S, e1, fun vs H1 M1 n1 r1 => ?_⟩
    simp only [callX] at e
    cases hc : callG P k gs ς1 with
    | ok o =>
      rw [hc] at e
      cases e
      obtain ⟨d1, fr1, ς2⟩ := o
      exact call_go (fn := P.fn k) n1 r1 hc (k1 _ rfl)
    | bad =>
      rw [hc] at e
      simp only [] at e
      split at e
      · rename_i hz
        obtain ⟨as', e2, e⟩ := R.bind_is e
        obtain ⟨⟨cc, fs⟩, ex, e⟩ := R.bind_is e
        cases e
        obtain ⟨os, av, sa⟩ := arg_of n1.S r1 e2
        rw [hz] at sa
        simp only [SlA] at sa
        subst sa
        exact ⟨M1, as', [], av, List.nodup_nil, n1.S.dom, n1.S.tab, .inr ⟨cc, fs, ex, rfl, fun dd H' rs => k2 _ rfl dd H' M1 (n1.trans (Nxt.over n1.S rs.e rs.f rs.t)) rs.r⟩⟩
      · cases e
  have px : Passes (L2.CX X.prog X.w) X W := passes_call tk fun _ _ _ _ z => z
  cases es with
  | nil =>
    cases ps
    exact pimp (pl_none hF G.gz G.room hg hm hk px hd) fun σ H Q q => by
      obtain ⟨M, ς, gs, ς1, S, e1, q1⟩ := go σ H Q q
      simp only [evA] at e1; cases e1
      exact q1 [] H M (.refl S) rfl
  | cons e es =>
    have hn := ps.nst
    simp only [List.all_cons, Bool.and_eq_true] at hn
    exact pimp (pl_more hF G.gz G.room hg hm hk px (ps.args (P.io k)) hd (star_cons hn.1) (star_any hn.2)) go
/-- the call as a statement, returned, given to a slot -/
theorem fin_exp {g : List Sl → R Cr} (hp : PE X e (rdX (zt X fa) F W g)) (hc : isComp e = false) : PS X (.Expr e pos) (rdS (zt X fa) F W fun ς => (g ς).bind fun c => .ok (finX none c)) :=
  simp_ (ps_expr hp (nc hc)) fun D σ H ⟨M, ς, fl, ς', S, ee, k⟩ => by
    obtain ⟨c, e1, ee⟩ := R.bind_is ee
    refine ⟨M, ς, c, S, e1, fun q hq v H' ⟨M1, n1, _⟩ => ?_, fun x hx dd H' M' n' xd => ?_⟩
    · subst hq
      cases ee
      exact k M1 σ H' n1.S n1.carry
    · subst hx
      cases ee
      exact k dd M' σ H' n'.S xd
theorem fin_ret {g : List Sl → R Cr} (hp : PE X e (rdX (zt X fa) F W g)) : PS X (.Return (some e) pos) (rdS (zt X fa) F W fun ς => (g ς).bind fun c => .ok (finX (some none) c)) :=
  simp_ (ps_ret hp) fun D σ H ⟨M, ς, fl, ς', S, ee, k⟩ => by
    obtain ⟨c, e1, ee⟩ := R.bind_is ee
    refine ⟨M, ς, c, S, e1, fun q hq v H' ⟨M1, n1, r1, q1⟩ => ?_, fun x hx dd H' M' n' xd => ?_⟩
    · subst hq
      cases ee
      obtain ⟨d1, fr1, ς2⟩ := q
      cases fr1 with
      | false => exact k v M1 σ H' n1.S r1
      | true =>
        obtain ⟨p, rfl, hp, S2, o⟩ := q1 rfl
        exact k _ (ins M1 p) σ H' S2 ⟨p, rfl, S.n0 hp, .inr rfl, o⟩
    · subst hx
      cases ee
      exact k dd M' σ H' n'.S xd
theorem fin_asg {g : List Sl → R Cr} {i : Nat} {nm : Str} {p : Pos} (hp : PE X e (rdX (zt X fa) F W g)) (hg : PG X (.Name nm p) (gName i)) (hc : isComp e = false) : PS X (.Assign [.Name nm p] e pos) (rdS (zt X fa) F W fun ς => (g ς).bind fun c => .ok (finX (some (some i)) c)) :=
  simp_ (ps_asg hp hg (show swapsWith e (some (.Name nm p)) pos.line X.env = pure false from nc hc) (by cases e <;> rfl) rfl) fun D σ H ⟨M, ς, fl, ς', S, ee, k⟩ => by
    obtain ⟨c, e1, ee⟩ := R.bind_is ee
    refine ⟨M, ς, c, S, e1, fun q hq v H' af => ?_, fun x hx dd H' M' n' xd => ?_⟩
    · subst hq
      cases ee
      obtain ⟨M2, S2, c2⟩ := af.store (i := i) S
      exact k M2 _ H' S2 c2
    · subst hx
      cases ee
      exact k dd M' σ H' n'.S xd
end
end Iq
set_option Elab.async false
set_option linter.all false
set_option maxRecDepth 100000
set_option maxHeartbeats 4000000
namespace Iq
open PySem L2

/-! ### statements agree with the text -/
def fnT : Str → Bool := fun _ => true
/-- e may stand behind name = .. as it is -/
def asgOk (sc : Scope) (x : Str) (p : Pos) : Expr → Bool
  | .ListComp _ _ s pe => !(decide (sc.names.lookup x = some .local) && (p.line == pe.line) && !(s.names.any fun (n, k) => n == x && (k == .local || k == .cell)))
  | e => !(isComp e)
theorem asg_ok {env : Env} {x : Str} {p : Pos} {e : Expr} {l : Nat} (h : asgOk env.scope x p e = true) : swapsWith e (some (.Name x p)) l env = pure false := by
  cases e with
  | ListComp a b s pe =>
    unfold swapsWith
    simp only [asgOk, Bool.not_eq_true'] at h
    simp only []
    have : (env.blockKind == .function && env.kindOf x == some .local && p.line == (Expr.ListComp a b s pe).pos.line && !(s.names.any fun (n, k) => n == x && (k == .local || k == .cell))) = false := by
      have h2 : (env.kindOf x == some .local) = decide (env.scope.names.lookup x = some .local) := by
        unfold Env.kindOf
        rw [Bool.eq_iff_iff]
        simp
      rw [h2]
      show (env.blockKind == .function && decide (env.scope.names.lookup x = some .local) && p.line == pe.line && _) = false
      rw [Bool.and_assoc, Bool.and_assoc, ← Bool.and_assoc (decide _), h, Bool.and_false]
    exact congrArg pure this
  | _ => exact nc (by simpa [asgOk] using h)
def swOk (sc : Scope) (ts : List Expr) : Expr → Bool
  | .Tuple vs _ _ => swOff sc ts vs
  | e => true
theorem sw_ok {env : Env} {ts : List Expr} {k1 : Nat} {p1 : Pos} {e : Expr} (h : swOk env.scope ts e = true) : swappedStores [.Tuple ts k1 p1] e env = pure none := by
  cases e with
  | Tuple vs k p => exact sw_off h
  | _ => exact sw_no rfl
/-- a call as a statement, returned, given to a slot -/
def stX (N : List Str) (sc : Scope) (t : Option (Option Nat)) (st : Stmt) (f : Expr → Bool) : Bool := match t, st with
  | none, .Expr e _ => f e
  | some none, .Return (some e) _ => f e
  | some (some i), .Assign [.Name x _] e _ => isL N sc fnT i x && f e
  | _, _ => false
mutual
def agS (Γ : Gt) (N : List Str) (sc : Scope) : Sm → Stmt → Bool
  | .nev, _ => true
  | .exp a, .Expr e _ => agE Γ N sc a e && !(isComp e)
  | .asg i a, .Assign [.Name x p] e _ => isL N sc fnT i x && ((agE Γ N sc a e && asgOk sc x p e) || (match a, e with
      | .comp el t k ss c, .ListComp ee [⟨tg, it, ifs, asy⟩] sco pe => decide (sc.names.lookup x = some .local) && (p.line == pe.line) && !(sco.names.any fun (n, k) => n == x && (k == .local || k == .cell)) &&
          agE Γ N sc (.comp el t k ss c) (.ListComp ee [⟨tg, it, ifs, asy⟩] sco pe)
      | _, _ => false))
  | .asgT is a, .Assign [.Tuple ts _ _] e _ => agNms N sc fnT is ts && agE Γ N sc a e && !(isComp e) && swOk sc ts e
  | .par i j a b, .Assign [.Tuple [.Name x px, .Name y py] _ _] (.Tuple [e, f] _ _) _ => decide (N[i]? = some x) && decide (N[j]? = some y) && swTwo sc x y px py e f && agL Γ N sc [a, b] [e, f]
  | .set i a b, .Assign [.Subscript (.Name x _) ie _] e _ => isV N sc i x && agE Γ N sc a ie && nst ie && agE Γ N sc b e && !(isComp e)
  | .app i a, .Expr (.Call (.Attribute (.Name x _) m ap) [e] [] cp) _ => decide (m = "append") && isV N sc i x && agE Γ N sc a e && nst e && (ap.endLine == cp.line)
  | .ext i a, .Expr (.Call (.Attribute (.Name x _) m ap) [e] [] cp) _ => decide (m = "extend") && isV N sc i x && agE Γ N sc a e && nst e && (ap.endLine == cp.line)
  | .ife c p q, .If ce ps qs _ => agT Γ N sc c ce && agB Γ N sc p ps && agB Γ N sc q qs
  | .loop t k ss p, .For tg it ps [] _ => agI Γ N sc k ss tg it && agTg N sc fnT t tg && agB Γ N sc p ps
  | .whl _ c p, .While ce ps [] _ => agT Γ N sc c ce && agB Γ N sc p ps
  | .ret a, .Return (some e) _ => agE Γ N sc a e
  | .retN, .Return none _ => true
  | .brk, .Break _ => true
  | .cnt, .Continue _ => true
  | .pas, .Pass _ => true
  | .rai c fs as, .Raise (some (.Call (.Name x _) [e, f] [] _)) none _ => decide (fs = (["word", "at"] : List Str)) && isG sc x && decide (Γ.cls[c]? = some x) && agL Γ N sc as [e, f]
  | .xc t k as, st => stX N sc t st (agE Γ N sc (.call k as))
  | .xk t q as zs, st => stX N sc t st (agE Γ N sc (.kwc q as zs))
  | _, _ => false
def agB (Γ : Gt) (N : List Str) (sc : Scope) : List Sm → List Stmt → Bool
  | [], [] => true
  | s :: ss, t :: ts => agS Γ N sc s t && agB Γ N sc ss ts
  | _, _ => false
end

section
variable {fa : Fa} {Γ : Gt} {P : Pr} {n : Nat} {F : Fm} {W : XK}
theorem x_comp {X : Cx} (G : Gd X fa Γ P n) (hk : X.env.scope.kind = .function) {i : Nat} {nm : Str} {py spos : Pos} {e : Ex} {t : Tg} {k : Ik} {ss : List Ex} {c : Option Tx} {ex : Expr} {gs : List Comprehension} {sco : Scope} {pos : Pos} (hy : isL X.N X.env.scope fnT i nm = true) (hl : X.env.scope.names.lookup nm = some .local)
    (hln : (py.line == pos.line) = true) (hany : (sco.names.any fun (n, k) => n == nm && (k == .local || k == .cell)) = false) (h : agE Γ X.N X.env.scope (.comp e t k ss c) (.ListComp ex gs sco pos) = true) :
    PS X (.Assign [.Name nm py] (.ListComp ex gs sco pos) spos) (rdS (zt X fa) F W (evS P (.asg i (.comp e t k ss c)))) := by
  match gs, h with
  | [⟨tg, it, ifs, asy⟩], h =>
    simp only [agE, Bool.and_eq_true, decide_eq_true_eq] at h
    obtain ⟨⟨⟨⟨⟨⟨⟨rfl, h1⟩, h2⟩, h3⟩, h4⟩, h5⟩, h6⟩, h7⟩ := h
    obtain ⟨hi, hn⟩ := sI k ss G h1
    simp only [isL, Bool.and_eq_true, decide_eq_true_eq] at hy
    exact x_setLc G hy.1 hl hk hln hany hi hn h3 h4 h2 (fun s H C cl fp => sQ c (G.blk s H sco (compEnvC sco cl C X.env) fp) h6) (fun s H C cl fp => (sE e (G.blk s H sco (compEnvC sco cl C X.env) fp) h7).1)
  | [], h => simp only [agE] at h; cases h
  | _ :: _ :: _, h => simp only [agE] at h; cases h
structure Bd (X : Cx) (W : XK) : Prop where
  t : Takes X (fun cls d _ H => W cls d H)
  k : X.env.scope.kind = .function
  p : PassesOwn (model X.prog X.w) X.A X.env X.xe
  f : ∀ x, X.fn x = true
mutual
theorem sS : ∀ (s : Sm) {X : Cx} (G : Gd X fa Γ P n) (B : Bd X W) {st : Stmt}, agS Γ X.N X.env.scope s st = true → PS X st (rdS (zt X fa) F W (evS P s))
  | .nev, X, G, B, st, h => x_nev
  | .exp a, X, G, B, st, h => by
    cases st <;> try (simp only [agS] at h; cases h; done)
    simp only [agS, Bool.and_eq_true, Bool.not_eq_true'] at h
    exact x_exp (sE a G h.1).1 h.2
  | .asg i a, X, G, B, st, h => by
    unfold agS at h
    split at h <;> try (first | (rename_i q _; cases q; done) | (rename_i q; cases q; done) | (cases h; done))
    all_goals (rename_i q; cases q)
    rename_i nm py e pos
    simp only [Bool.and_eq_true, Bool.or_eq_true] at h
    obtain ⟨h1, h2 | h2⟩ := h
    · exact x_asg (sE a G h2.1).1 (g_name rfl G.nd (fun x _ => B.f x) h1) (asg_ok h2.2)
    · split at h2
      · simp only [Bool.and_eq_true, decide_eq_true_eq, Bool.not_eq_true'] at h2
        exact x_comp G B.k h1 h2.1.1.1 h2.1.1.2 h2.1.2 h2.2
      · cases h2
  | .asgT is a, X, G, B, st, h => by
    unfold agS at h
    split at h <;> try (first | (rename_i q _; cases q; done) | (rename_i q; cases q; done) | (cases h; done))
    all_goals (rename_i q; cases q)
    simp only [Bool.and_eq_true, Bool.not_eq_true'] at h
    obtain ⟨⟨⟨h1, h2⟩, h3⟩, h4⟩ := h
    exact x_asgT (sE a G h2).1 (g_tg (t := .tp is) G.calm rfl G.nd (fun x _ => B.f x) (by simpa only [agTg] using h1)) h3 (sw_ok h4)
  | .par i j a b, X, G, B, st, h => by
    unfold agS at h
    split at h <;> try (first | (rename_i q _; cases q; done) | (rename_i q; cases q; done) | (cases h; done))
    all_goals (rename_i q; cases q)
    simp only [Bool.and_eq_true, decide_eq_true_eq] at h
    obtain ⟨⟨⟨h1, h2⟩, h3⟩, h4⟩ := h
    exact x_par G h1 h2 B.k h3 (sL [a, b] G h4)
  | .set i a b, X, G, B, st, h => by
    unfold agS at h
    split at h <;> try (first | (rename_i q _; cases q; done) | (rename_i q; cases q; done) | (cases h; done))
    all_goals (rename_i q; cases q)
    simp only [Bool.and_eq_true, Bool.not_eq_true'] at h
    obtain ⟨⟨⟨⟨h1, h2⟩, h3⟩, h4⟩, h5⟩ := h
    exact x_set G (s_var rfl h1) (sE a G h2).2 (sE b G h4).1 h3 h5
  | .app i a, X, G, B, st, h => by
    unfold agS at h
    split at h <;> try (first | (rename_i q _; cases q; done) | (rename_i q; cases q; done) | (cases h; done))
    all_goals (rename_i q; cases q)
    simp only [Bool.and_eq_true, decide_eq_true_eq] at h
    obtain ⟨⟨⟨⟨rfl, h2⟩, h3⟩, h4⟩, h5⟩ := h
    exact x_app G (s_var rfl h2) (sE a G h3).1 h4 h5
  | .ext i a, X, G, B, st, h => by
    unfold agS at h
    split at h <;> try (first | (rename_i q _; cases q; done) | (rename_i q; cases q; done) | (cases h; done))
    all_goals (rename_i q; cases q)
    simp only [Bool.and_eq_true, decide_eq_true_eq] at h
    obtain ⟨⟨⟨⟨rfl, h2⟩, h3⟩, h4⟩, h5⟩ := h
    exact x_ext G (s_var rfl h2) (sE a G h3).1 h4 h5
  | .ife c p q, X, G, B, st, h => by
    cases st <;> try (simp only [agS] at h; cases h; done)
    simp only [agS, Bool.and_eq_true] at h
    exact x_if (sT c G h.1.1).1 (sB p G B h.1.2) (sB q G B h.2)
  | .loop t k ss p, X, G, B, st, h => by
    unfold agS at h
    split at h <;> try (first | (rename_i q _; cases q; done) | (rename_i q; cases q; done) | (cases h; done))
    all_goals (rename_i q; cases q)
    simp only [Bool.and_eq_true] at h
    obtain ⟨hi, hn⟩ := sI k ss G h.1.1
    exact x_for G B.p hi hn (g_tg G.calm rfl G.nd (fun x _ => B.f x) h.1.2) (sB p G B h.2)
  | .whl m c p, X, G, B, st, h => by
    unfold agS at h
    split at h <;> try (first | (rename_i q _; cases q; done) | (rename_i q; cases q; done) | (cases h; done))
    all_goals (rename_i q; cases q)
    simp only [Bool.and_eq_true] at h
    exact x_whl B.p (sT c G h.1).1 (sB p G B h.2)
  | .ret a, X, G, B, st, h => by
    unfold agS at h
    split at h <;> try (first | (rename_i q _; cases q; done) | (rename_i q; cases q; done) | (cases h; done))
    all_goals (rename_i q; cases q)
    exact x_ret (sE a G h)
  | .retN, X, G, B, st, h => by
    unfold agS at h
    split at h <;> try (first | (rename_i q _; cases q; done) | (rename_i q; cases q; done) | (cases h; done))
    all_goals exact x_retN
  | .brk, X, G, B, st, h => by
    cases st <;> try (simp only [agS] at h; cases h; done)
    exact x_brk
  | .cnt, X, G, B, st, h => by
    cases st <;> try (simp only [agS] at h; cases h; done)
    exact x_cnt
  | .pas, X, G, B, st, h => by
    cases st <;> try (simp only [agS] at h; cases h; done)
    exact x_pass
  | .rai c fs as, X, G, B, st, h => by
    unfold agS at h
    split at h <;> try (first | (rename_i q _; cases q; done) | (rename_i q; cases q; done) | (cases h; done))
    all_goals (rename_i q; cases q)
    simp only [Bool.and_eq_true, decide_eq_true_eq] at h
    obtain ⟨⟨⟨rfl, h2⟩, h3⟩, h4⟩ := h
    exact x_rai G B.t h2 h3 (sL as G h4)
  | .xc t k as, X, G, B, st, h => by
    simp only [agS] at h
    have ev : evS P (.xc t k as) = fun ς => ((evA P as (P.io k) ς).bind fun r => callX P k r.1 r.2).bind fun c => .ok (finX t c) := funext fun ς => by
      simp only [evS]
      cases evA P as (P.io k) ς <;> rfl
    rw [ev]
    have pc : ∀ e, agE Γ X.N X.env.scope (.call k as) e = true → isComp e = false ∧ PE X e (rdX (zt X fa) F W fun ς => (evA P as (P.io k) ς).bind fun r => callX P k r.1 r.2) := fun e h => by
      cases e <;> try (simp only [agE] at h; cases h; done)
      case Call f es ks p =>
        cases f <;> try (simp only [agE] at h; cases h; done)
        case Name f p2 =>
          cases ks with
          | cons _ _ => simp only [agE] at h; cases h
          | nil =>
            simp only [agE, Bool.and_eq_true, decide_eq_true_eq] at h
            exact ⟨rfl, pe_xc G B.t h.1.1 h.1.2.1 h.1.2.2 (sL as G h.2)⟩
    unfold stX at h
    split at h
    · exact fin_exp (pc _ h).2 (pc _ h).1
    · exact fin_ret (pc _ h).2
    · simp only [Bool.and_eq_true] at h
      exact fin_asg (pc _ h.2).2 (g_name rfl G.nd (fun x _ => B.f x) h.1) (pc _ h.2).1
    · cases h
  | .xk t q as zs, X, G, B, st, h => by
    simp only [agS] at h
    have ev : evS P (.xk t q as zs) = fun ς => ((kwG P q (evL P as) (evL P zs) ς).bind fun r => callK P r.1 r.2.1 r.2.2).bind fun c => .ok (finX t c) := funext fun ς => by
      simp only [evS]
      cases kwG P q (evL P as) (evL P zs) ς <;> rfl
    rw [ev]
    have pc : ∀ e, agE Γ X.N X.env.scope (.kwc q as zs) e = true → isComp e = false ∧ PE X e (rdX (zt X fa) F W fun ς => (kwG P q (evL P as) (evL P zs) ς).bind fun r => callK P r.1 r.2.1 r.2.2) := fun e h => by
      cases e <;> try (simp only [agE] at h; cases h; done)
      case Call f es ks p =>
        cases f <;> try (simp only [agE] at h; cases h; done)
        simp only [agE, Bool.and_eq_true] at h
        exact ⟨rfl, pe_xk G B.t h.1.1.1 h.1.1.2 (sL as G h.1.2) (sL zs G h.2)⟩
    unfold stX at h
    split at h
    · exact fin_exp (pc _ h).2 (pc _ h).1
    · exact fin_ret (pc _ h).2
    · simp only [Bool.and_eq_true] at h
      exact fin_asg (pc _ h.2).2 (g_name rfl G.nd (fun x _ => B.f x) h.1) (pc _ h.2).1
    · cases h
theorem sB : ∀ (ss : List Sm) {X : Cx} (G : Gd X fa Γ P n) (B : Bd X W) {sts : List Stmt}, agB Γ X.N X.env.scope ss sts = true → PSs X sts (rdS (zt X fa) F W (evB P ss))
  | [], X, G, B, [], h => b_nil
  | s :: ss, X, G, B, st :: sts, h => by
    simp only [agB, Bool.and_eq_true] at h
    exact b_cons (sS s G B h.1) (sB ss G B h.2)
  | [], X, G, B, _ :: _, h => by simp only [agB] at h; cases h
  | _ :: _, X, G, B, [], h => by simp only [agB] at h; cases h
end
end
end Iq
set_option Elab.async false
set_option linter.all false
set_option maxRecDepth 100000
set_option maxHeartbeats 4000000
namespace Iq
open PySem PySem.Spec PyProof.Rows L2

section
variable {Z : Zt} {M : Mu} {H : Hp}
theorem argV_len : ∀ {as : List Sl} {vs : List V} {os : List Addr}, ArgV Z M H as vs os → vs.length = as.length
  | [], _, _, h => by rw [h.1]; rfl
  | .shr d :: as, _, _, ⟨v, r, e, _, h⟩ => by rw [e]; simp [argV_len h]
  | .own true d :: as, _, _, ⟨a, r, q, e, _, _, _, h⟩ => by rw [e]; simp [argV_len h]
  | .own false d :: as, _, _, h => h.elim
  | .no :: as, _, _, h => h.elim
theorem argV_mem : ∀ {as : List Sl} {vs : List V} {os : List Addr}, ArgV Z M H as vs os → ∀ a ∈ os, M a
  | [], _, _, h, a, ha => by rw [h.2] at ha; cases ha
  | .shr d :: as, _, _, ⟨v, r, e, _, h⟩, a, ha => argV_mem h a ha
  | .own true d :: as, _, _, ⟨a', r, q, e, e2, m, _, h⟩, a, ha => by
    rw [e2] at ha
    rcases List.mem_cons.mp ha with rfl | ha
    · exact m
    · exact argV_mem h a ha
  | .own false d :: as, _, _, h, _, _ => h.elim
  | .no :: as, _, _, h, _, _ => h.elim
theorem argV_shr : ∀ {as : List Sl} {vs : List V} {os : List Addr} {i : Nat} {d : D}, ArgV Z M H as vs os → as[i]? = some (.shr d) → ∃ v, vs[i]? = some v ∧ Rep Z M H d v
  | [], _, _, i, d, _, h => by simp at h
  | .shr d0 :: as, _, _, 0, d, ⟨v, r, e, h1, h⟩, q => by simp at q; subst q e; exact ⟨v, by simp, h1⟩
  | .shr d0 :: as, _, _, i + 1, d, ⟨v, r, e, h1, h⟩, q => by subst e; simpa using argV_shr h (by simpa using q)
  | .own true d0 :: as, _, _, 0, d, _, q => by simp at q
  | .own true d0 :: as, _, _, i + 1, d, ⟨a, r, w, e, _, _, _, h⟩, q => by subst e; simpa using argV_shr h (by simpa using q)
  | .own false d :: as, _, _, _, _, h, _ => h.elim
  | .no :: as, _, _, _, _, h, _ => h.elim
theorem argV_own : ∀ {as : List Sl} {vs : List V} {os : List Addr} {i : Nat} {b : Bool} {d : D}, ArgV Z M H as vs os → as[i]? = some (.own b d) → b = true ∧ ∃ a, vs[i]? = some (.ref a) ∧ a ∈ os ∧ M a ∧ Own Z M H a d
  | [], _, _, i, b, d, _, h => by simp at h
  | .shr d0 :: as, _, _, 0, b, d, _, q => by simp at q
  | .shr d0 :: as, _, _, i + 1, b, d, ⟨v, r, e, h1, h⟩, q => by subst e; simpa using argV_own h (by simpa using q)
  | .own true d0 :: as, _, _, 0, b, d, ⟨a, r, w, e, e2, m, o, h⟩, q => by
    simp at q
    obtain ⟨rfl, rfl⟩ := q
    subst e e2
    exact ⟨rfl, a, by simp, by simp, m, o⟩
  | .own true d0 :: as, _, _, i + 1, b, d, ⟨a, r, w, e, e2, _, _, h⟩, q => by
    subst e e2
    obtain ⟨h1, a', h2, h3, h4⟩ := argV_own h (i := i) (by simpa using q)
    exact ⟨h1, a', by simpa using h2, List.mem_cons_of_mem _ h3, h4⟩
  | .own false d :: as, _, _, _, _, _, h, _ => h.elim
  | .no :: as, _, _, _, _, _, h, _ => h.elim
theorem argV_sep : ∀ {as : List Sl} {vs : List V} {os : List Addr} {i j : Nat} {b c : Bool} {d e : D} {a : Addr}, ArgV Z M H as vs os → os.Nodup → i ≠ j → as[i]? = some (.own b d) → as[j]? = some (.own c e) → vs[i]? = some (.ref a) → vs[j]? ≠ some (.ref a)
  | [], _, _, i, j, b, c, d, e, a, _, _, _, h, _, _ => by simp at h
  | .shr d0 :: as, _, _, 0, j, b, c, d, e, a, _, _, _, q, _, _ => by simp at q
  | .shr d0 :: as, _, _, i + 1, 0, b, c, d, e, a, _, _, _, _, q, _ => by simp at q
  | .shr d0 :: as, _, _, i + 1, j + 1, b, c, d, e, a, ⟨v, r, e1, h1, h⟩, hn, ij, q1, q2, q3 => by
    subst e1
    have := argV_sep h hn (show i ≠ j by omega) (by simpa using q1) (by simpa using q2) (show r[i]? = some (.ref a) by simpa using q3)
    simpa using this
  | .own true d0 :: as, _, _, 0, 0, b, c, d, e, a, _, _, ij, _, _, _ => absurd rfl ij
  | .own true d0 :: as, _, _, 0, j + 1, b, c, d, e, a, ⟨a', r, w, e1, e2, m, o, h⟩, hn, ij, q1, q2, q3 => by
    subst e1 e2
    simp at q3
    subst q3
    rw [List.nodup_cons] at hn
    obtain ⟨_, a2, h2, h3, _⟩ := argV_own h (i := j) (by simpa using q2)
    intro z
    have z : r[j]? = some (.ref a') := by simpa using z
    rw [z] at h2; cases h2
    exact hn.1 h3
  | .own true d0 :: as, _, _, i + 1, 0, b, c, d, e, a, ⟨a', r, w, e1, e2, m, o, h⟩, hn, ij, q1, q2, q3 => by
    subst e1 e2
    rw [List.nodup_cons] at hn
    obtain ⟨_, a2, h2, h3, _⟩ := argV_own h (i := i) (by simpa using q1)
    have q3 : r[i]? = some (.ref a) := by simpa using q3
    rw [q3] at h2; cases h2
    intro z
    simp at z
    subst z
    exact hn.1 h3
  | .own true d0 :: as, _, _, i + 1, j + 1, b, c, d, e, a, ⟨a', r, w, e1, e2, m, o, h⟩, hn, ij, q1, q2, q3 => by
    subst e1 e2
    rw [List.nodup_cons] at hn
    have := argV_sep h hn.2 (show i ≠ j by omega) (by simpa using q1) (by simpa using q2) (show r[i]? = some (.ref a) by simpa using q3)
    simpa using this
  | .own false d :: as, _, _, _, _, _, _, _, _, _, h, _, _, _, _, _ => h.elim
  | .no :: as, _, _, _, _, _, _, _, _, _, h, _, _, _, _, _ => h.elim
/-- no object of the caller's is left without its place -/
theorem io_nil : ∀ {as : List Sl} {vs : List V} {os : List Addr}, ArgV Z M H as vs os → ioFit [] as = true → os = []
  | [], _, _, h, _ => h.2
  | .shr d :: as, _, _, ⟨v, r, e, _, h⟩, q => by
    simp only [ioFit, List.tail_nil] at q
    exact io_nil h q
  | .own true d :: as, _, _, _, q => by simp only [ioFit] at q; cases q
  | .own false d :: as, _, _, h, _ => h.elim
  | .no :: as, _, _, h, _ => h.elim
theorem outs_own {M2 : Mu} {H' : Hp} {ς' : List Sl} {s0 : L2.St} (hS : ∀ (i : Nat) d, ς'[i]? = some (.own true d) → ∃ a, s0[i]? = some (some (.ref a)) ∧ Own Z M2 H' a d) :
    ∀ {io : List Bool} {as : List Sl} {vs : List V} {os : List Addr} {j : Nat} {ds : List D}, ArgV Z M H as vs os → ioFit io as = true → io.length ≤ as.length → (∀ (i : Nat) v, vs[i]? = some v → s0[j + i]? = some (some v)) → outs ς' j io = .ok ds → OwnsL Z M2 H' os ds
  | [], as, vs, os, j, ds, h, q, _, _, e => by
    simp only [outs] at e; cases e
    rw [io_nil h q]; exact rfl
  | true :: io, .own true d0 :: as, _, _, j, ds, ⟨a, r, w, e1, e2, m, o, h⟩, q, hl, hs, e => by
    subst e1 e2
    simp only [outs, cond_true] at e
    split at e
    · rename_i d hd
      obtain ⟨ds2, e3, e⟩ := R.bind_is e
      cases e
      obtain ⟨a', h1, h2⟩ := hS j d hd
      have h3 := hs 0 (.ref a) (by simp)
      rw [Nat.add_zero, h1] at h3
      cases h3
      refine ⟨d, ds2, rfl, h2, outs_own hS h (by simpa only [ioFit] using q) (by simpa using hl) (fun i v hv => ?_) e3⟩
      have := hs (i + 1) v (by simpa using hv)
      rw [show j + 1 + i = j + (i + 1) by omega]; exact this
    · cases e
  | false :: io, .shr d0 :: as, _, _, j, ds, ⟨v0, r, e1, h1, h⟩, q, hl, hs, e => by
    subst e1
    simp only [outs, cond_false] at e
    refine outs_own hS h (by simpa only [ioFit, List.tail_cons] using q) (by simpa using hl) (fun i v hv => ?_) e
    have := hs (i + 1) v (by simpa using hv)
    rw [show j + 1 + i = j + (i + 1) by omega]; exact this
  | true :: io, .shr _ :: as, _, _, _, _, _, q, _, _, _ => by simp only [ioFit] at q; cases q
  | false :: io, .own true _ :: as, _, _, _, _, _, q, _, _, _ => by simp only [ioFit] at q; cases q
  | _ :: io, .own false _ :: as, _, _, _, _, h, _, _, _, _ => h.elim
  | _ :: io, .no :: as, _, _, _, _, h, _, _, _, _ => h.elim
  | _ :: _, [], _, _, _, _, _, _, hl, _, _ => by simp at hl
end

theorem RepF.carry {Z : Zt} {M M' : Mu} {H H' : Hp} (c : Carry Z M H M' H') : ∀ {fs : List (Str × D)} {vs : List (Str × V)}, RepF Z M H fs vs → RepF Z M' H' fs vs
  | [], _, h => h
  | (x, d) :: r, _, ⟨v, q, e, h1, h2⟩ => ⟨v, q, e, Rep.carry c _ _ h1, RepF.carry c h2⟩
/-- the name of a lambda's code object -/
def lamQ (qual : Str) : Str := qual ++ ".<locals>." ++ "<lambda>"
/-- what is known of a program at a level -/
structure Lv (P : Program) (w : World) (K : PySem.W.Frag) (mg : Str → Option Value) (base : Heap) (fa : Fa) (Γ : Gt) (Q : Pr) (n : Nat) : Prop where
  free : ∀ x ∈ bnames, mg x = none
  con : ∀ (j : Nat) x d, Γ.cn[j]? = some x → Q.cs[j]? = some d → ∃ u v, mg x = some u ∧ RelV v u ∧ ∀ M H, Rep (.mk' w K mg fa) M H d v
  fns : ∀ (k : Nat) x, Γ.fnm[k]? = some x → x ≠ "" → mg x = some (.ref (fa k)) ∧ PySem.W.keepIn K (.ref (fa k)) = true ∧ FnP Q.rp P w K mg base (L2.CX P w) n (fa k) (spF (.mk' w K mg fa) (Q.fn k) (Q.fx k))
  fnk : ∀ (k : Nat), Q.po k = true → ∃ x, Γ.fnm[k]? = some x ∧ x ≠ ""
  kws : ∀ (q : Nat) x m ks k sel, Γ.kw[q]? = some (x, m, ks) → Q.kw[q]? = some (k, sel) → KwO Q.rp P w K mg base fa x m ks k sel n (Q.fn k) (Q.fx k)
  low : (∀ (k : Nat) as, Q.fl k as = .bad ∧ Q.xl k as = .bad) ∨ ∃ l, n = l + 2 ∧ ∀ (q : Nat) x m ks k sel, Γ.kw[q]? = some (x, m, ks) → Q.kw[q]? = some (k, sel) → KwO false P w K mg base fa x m ks k sel l (Q.fl k) (Q.xl k)
  cls : ∀ (c : Nat) x, Γ.cls[c]? = some x → ∃ fI, Xn.NuTxt P K mg x (fa.cl c) fI
theorem body_ok {P : Program} {w : World} {K : PySem.W.Frag} {mg : Str → Option Value} {base : Heap} {fa : Fa} {Γ : Gt} {Pr : Pr} {n : Nat} {qual : Str} {body : List Stmt} {scope : Scope} {cdv : Value} {f : Addr} {N ps : List Str} {fi : Fn}
    (S : FnScope N ps scope) (ag : agB Γ N scope fi.body body = true) (hN : N.length = fi.nl) (hp : ps.length = fi.np) (L : Lv P w K mg base fa Γ Pr n)
    (lam : Γ.lam = true → (∃ c T, cdv = .ref c ∧ LamX.TabB base mg c T ∧ (T, lamQ qual) ∈ fa.tb ∧ ∀ p ∈ fa.tb, p.1 = T → p.2 = lamQ qual) ∧ HearTxt P K mg fa Γ.hn Pr.hr)
    (A : Around) (outer : List Env) (s : Shared) (H : Hp) (vs : List V) (Q : VK) (EE : XK) (gz : Gz Pr.rp A) (hr : Room n (A.deeper (envOfC qual scope s.heap.objs.size f cdv))) (sp : spF (.mk' w K mg fa) (run Pr fi) (runX Pr fi) vs H Q EE) :
    ∃ t, PSs (cxOf (L2.CX P w) P w K mg base N qual scope f cdv A outer s H EE) body t ∧ t { nx := fun _ H' => Q .non H', rt := Q } (L2.start N vs) H := by
  obtain ⟨M, as, os, av, nd, dm, tb, alt⟩ := sp
  let Z : Zt := .mk' w K mg fa
  let X : Cx := cxOf (L2.CX P w) P w K mg base N qual scope f cdv A outer s H EE
  let F : Fm := ⟨H, (· ∈ os), M, start N vs⟩
  have G : Gd X fa Γ Pr n := ⟨rfl, S.nd, hr, gz, L.free, L.con, L.fns, L.fnk, L.kws, L.low, L.cls, fun h => ⟨⟨let ⟨c, T, h1, h2, h3, h4⟩ := (lam h).1; ⟨c, T, h2, h1, h3, h4⟩⟩, (lam h).2⟩⟩
  have B : Bd X EE := ⟨takes_of rfl rfl rfl rfl, S.kind, passes_of rfl, fun _ => rfl⟩
  have hst : ∀ (i : Nat) v, vs[i]? = some v → (start N vs)[i]? = some (some v) := fun i v hv => by
    have hi := (List.getElem?_eq_some_iff.mp hv).1
    unfold L2.start
    rw [List.getElem?_append_left (by simpa using hi), List.getElem?_map, hv]; rfl
  have has : ∀ (i : Nat) a, (as ++ List.replicate (fi.nl - fi.np) Sl.no)[i]? = some a → a ≠ .no → as[i]? = some a := fun i a ha hne => by
    by_cases hi : i < as.length
    · rw [List.getElem?_append_left hi] at ha; exact ha
    · rw [List.getElem?_append_right (by omega)] at ha
      have := List.getElem?_eq_some_iff.mp ha
      obtain ⟨h1, h2⟩ := this
      rw [List.getElem_replicate] at h2
      exact absurd h2.symm hne
  have S0 : as.length = fi.np → fi.np ≤ fi.nl → Sim Z F M (start N vs) (as ++ List.replicate (fi.nl - fi.np) .no) H := fun c1 c2 => by
    refine ⟨?_, fun i d h => ?_, fun i b d h => ?_, fun i j b d c e a ij h1 h2 h3 => ?_, fun a o h _ _ => h, dm, fun a h => h, fun a h => argV_mem av a h, dm, tb⟩
    · unfold L2.start
      simp only [List.length_append, List.length_map, List.length_replicate]
      have := argV_len av
      omega
    · obtain ⟨v, h1, h2⟩ := argV_shr av (has i _ h (by simp))
      exact ⟨v, hst i v h1, h2⟩
    · obtain ⟨rfl, a, h1, h2, h3, h4⟩ := argV_own av (has i _ h (by simp))
      exact ⟨a, hst i _ h1, h3, ⟨h2, rfl⟩, h4⟩
    · have h1 := has i _ h1 (by simp)
      have h2 := has j _ h2 (by simp)
      obtain ⟨_, a1, g1, _⟩ := argV_own av h1
      obtain ⟨_, a2, g2, _⟩ := argV_own av h2
      rw [hst i _ g1] at h3
      cases h3
      rw [hst j _ g2]
      intro z
      cases z
      exact argV_sep av nd ij h1 h2 g1 g2
  rcases alt with ⟨d, fr, os2, e, q⟩ | ⟨c, fs, e, hos, q⟩
  · unfold run at e
    split at e
    case isFalse => cases e
    case isTrue hc =>
    obtain ⟨c1, c2, c3, c4⟩ := hc
    obtain ⟨⟨fl, ς'⟩, e1, e⟩ := R.bind_is e
    obtain ⟨ds, e2, e⟩ := R.bind_is e
    refine ⟨rdS Z F EE (evB Pr fi.body), sB fi.body G B ag, M, _, fl, ς', S0 c1 c2, e1, ?_⟩
    have fin : ∀ (d' : D) (fr' : Bool), (d', fr', ds) = (d, fr, os2) → ∀ v M' σ' H', Sim Z F M' σ' ς' H' → RetV Z F M' H' d' v fr' → Q v H' := fun d' fr' he v M' σ' H' S' rv => by
      cases he
      have sup : ∀ a, M a → M' a := S'.sup
      have own : ∀ {M2 : Mu}, (∀ a, M2 a → M' a) → OwnsL Z M2 H' os os2 := fun {M2} hm => by
        refine outs_own (s0 := start N vs) (fun i d hi => ?_) av c4 (by omega) (fun i v hv => by rw [Nat.zero_add]; exact hst i v hv) e2
        obtain ⟨a, g1, _, g3, g4⟩ := S'.own i _ _ hi
        exact ⟨a, g3.2.symm.trans g1, g4.carry (.less hm) rfl⟩
      have n0 : ∀ p, Nf F.H0 p → ¬ M p := fun p h z => dm p z h
      refine q v H' ⟨fun a o na h t => S'.old a o h na t, fun p h => S'.n0 h, ?_, own sup, fun hf => ?_, S'.tab⟩
      · cases fr with
        | false => exact Rep.carry (.less sup) _ _ rv
        | true =>
          obtain ⟨p, rfl, h0, hm, o⟩ := rv
          exact Own.rep (n0 p h0) (o.carry (.less sup) rfl)
      · subst hf
        obtain ⟨p, rfl, h0, hm, o⟩ := rv
        have sp : ∀ a, ins M p a → M' a := fun a h => h.elim (sup a) fun z => by rw [z]; exact hm
        exact ⟨p, rfl, h0, o.carry (.less sp) rfl, own sp⟩
    cases fl with
    | nx =>
      have e : (Iq.D.non, false, ds) = (d, fr, os2) := by injection e
      exact fun M' σ' H' S' _ => fin _ _ e _ M' σ' H' S' (show Rep Z M' H' .non .non from rep_non)
    | rt d' fr' =>
      have e : (d', fr', ds) = (d, fr, os2) := by injection e
      exact fun v M' σ' H' S' rv => fin _ _ e v M' σ' H' S' rv
    | bk => cases e
    | ct => cases e
    | ex _ _ => cases e
  · unfold runX at e
    split at e
    case isFalse => cases e
    case isTrue hc =>
    obtain ⟨c1, c2, c3, c4⟩ := hc
    obtain ⟨⟨fl, ς'⟩, e1, e⟩ := R.bind_is e
    refine ⟨rdS Z F EE (evB Pr fi.body), sB fi.body G B ag, M, _, fl, ς', S0 c1 c2, e1, ?_⟩
    cases fl with
    | nx => cases e
    | rt _ _ => cases e
    | bk => cases e
    | ct => cases e
    | ex c' fs' =>
      cases e
      intro dd M' σ' H' S' xd
      obtain ⟨vs', hx, rf⟩ := xd
      refine q dd H' ⟨fun a o _ h t => S'.old a o h (by show ¬ a ∈ os; rw [hos]; simp) t, fun p h => S'.n0 h, ⟨vs', hx, RepF.carry (.less S'.sup) rf⟩, S'.tab⟩
theorem sp_len {P : Pr} {Z : Zt} {fi : Fn} {ps : List Str} (hp : ps.length = fi.np) : ∀ vs H Q E, spF Z (run P fi) (runX P fi) vs H Q E → vs.length = ps.length := fun vs H Q E ⟨M, as, os, av, _, _, _, alt⟩ => by
  rcases alt with ⟨d, fr, outs, e, _⟩ | ⟨c, fs, e, _, _⟩
  · unfold run at e
    split at e
    · rename_i hc
      rw [argV_len av, hp]; exact hc.1
    · cases e
  · unfold runX at e
    split at e
    · rename_i hc
      rw [argV_len av, hp]; exact hc.1
    · cases e
section
variable {P : Program} {w : World} {K : PySem.W.Frag} {mg : Str → Option Value} {base : Heap} {fa : Fa} {Γ : Gt} {Pr : Pr} {n : Nat} {x qual : Str} {params : Arguments} {body : List Stmt} {scope : Scope} {dvs : List V} {kws : List (Str × V)} {f : Addr} {fd : FuncData} {N ps : List Str} {fi : Fn}
theorem fn_ok (FD : FunD K x qual params body scope dvs kws f fd) (S : FnScope N ps scope) (ag : agB Γ N scope fi.body body = true) (hN : N.length = fi.nl) (hp : ps.length = fi.np) (L : Lv P w K mg base fa Γ Pr n)
    (lam : Γ.lam = true → (∃ c T, fd.code = .ref c ∧ LamX.TabB base mg c T ∧ (T, lamQ qual) ∈ fa.tb ∧ ∀ p ∈ fa.tb, p.1 = T → p.2 = lamQ qual) ∧ HearTxt P K mg fa Γ.hn Pr.hr) :
    FnB Pr.rp P w K mg base (L2.CX P w) (n + 1) f fd ps (spF (.mk' w K mg fa) (run Pr fi) (runX Pr fi)) := by
  obtain ⟨oc, od, dV, kV, doc, pm, an, cdv, ct, osl, rfl, lk, hcd, _, _⟩ := FD.ex
  exact fnB_of lk hcd S (sp_len hp) fun A outer s H vs Q EE gz hr sp => body_ok S ag hN hp L lam A outer s H vs Q EE gz hr sp
/-- how the arguments of a def with a star come to its parameters -/
def BindS (d : Str × Str × Arguments × List Stmt × Scope) (ps : List Str) (pv : Str) : Prop := ∀ (kV doc pm : Value) (an : Option Addr) (cdv ct : Value) (us rest : List Value), us.length = ps.length →
  bindArgs (PySem.W.fnOf d.1 d.2.1 d.2.2.1 d.2.2.2.1 d.2.2.2.2 .none kV doc pm an cdv ct) ⟨us ++ rest, []⟩ = (newTuple rest >>= fun t => pure (ps.zip us ++ [(pv, t)]))
theorem shrs_rep {Z : Zt} {M : Mu} {H : Hp} : ∀ {as : List Sl} {vs : List V} {os : List Addr} {ds : List D}, ArgV Z M H as vs os → shrs as = some ds → os = [] ∧ RepL Z M H ds vs
  | [], _, _, _, ⟨e1, e2⟩, e => by simp only [shrs] at e; cases e; subst e1 e2; exact ⟨rfl, by simp only [RepL]⟩
  | .shr d :: as, _, _, _, ⟨v, r, e1, h, q⟩, e => by
    simp only [shrs, Option.map_eq_some_iff] at e
    obtain ⟨ds', e2, rfl⟩ := e
    obtain ⟨h1, h2⟩ := shrs_rep q e2
    subst e1
    exact ⟨h1, by simp only [RepL]; exact ⟨v, r, rfl, h, h2⟩⟩
  | .own _ _ :: _, _, _, _, _, e => by simp only [shrs] at e; cases e
  | .no :: _, _, _, _, _, e => by simp only [shrs] at e; cases e
theorem argV_split {Z : Zt} {M : Mu} {H : Hp} : ∀ (m : Nat) {as : List Sl} {vs : List V} {os : List Addr}, ArgV Z M H as vs os → m ≤ as.length → ∃ o1 o2, os = o1 ++ o2 ∧ ArgV Z M H (as.take m) (vs.take m) o1 ∧ ArgV Z M H (as.drop m) (vs.drop m) o2
  | 0, as, vs, os, h, _ => ⟨[], os, rfl, ⟨rfl, rfl⟩, h⟩
  | m + 1, .shr d :: as, _, os, ⟨v, r, e, h, q⟩, hm => by
    obtain ⟨o1, o2, e2, q1, q2⟩ := argV_split m q (by simpa using hm)
    subst e
    exact ⟨o1, o2, e2, ⟨v, _, rfl, h, q1⟩, q2⟩
  | m + 1, .own true d :: as, _, _, ⟨a, r, q, e, e1, h1, h2, h3⟩, hm => by
    obtain ⟨o1, o2, e2, q1, q2⟩ := argV_split m h3 (by simpa using hm)
    subst e e1 e2
    exact ⟨a :: o1, o2, rfl, ⟨a, _, o1, rfl, rfl, h1, h2, q1⟩, q2⟩
  | m + 1, .own false _ :: _, _, _, h, _ => h.elim
  | m + 1, .no :: _, _, _, h, _ => h.elim
  | m + 1, [], _, _, _, hm => by simp at hm
theorem argV_carry {Z : Zt} {M M' : Mu} {H H' : Hp} (c : Carry Z M H M' H') (m : ∀ a, M a → M' a) (k : ∀ a o, M a → H a = some o → H' a = some o) : ∀ {as : List Sl} {vs : List V} {os : List Addr}, ArgV Z M H as vs os → ArgV Z M' H' as vs os
  | [], _, _, h => h
  | .shr d :: as, _, _, ⟨v, r, e, h, q⟩ => ⟨v, r, e, Rep.carry c _ _ h, argV_carry c m k q⟩
  | .own true d :: as, _, _, ⟨a, r, q, e, e1, h1, h2, h3⟩ => ⟨a, r, q, e, e1, m a h1, h2.carry c (by obtain ⟨o, z⟩ := h2.there; rw [z]; exact k a o h1 z), argV_carry c m k h3⟩
  | .own false _ :: _, _, _, h => h.elim
  | .no :: _, _, _, h => h.elim
theorem argV_app {Z : Zt} {M : Mu} {H : Hp} {d : D} {v : V} (r : Rep Z M H d v) : ∀ {as : List Sl} {vs : List V} {os : List Addr}, ArgV Z M H as vs os → ArgV Z M H (as ++ [.shr d]) (vs ++ [v]) os
  | [], _, _, ⟨e1, e2⟩ => by subst e1 e2; exact ⟨v, [], rfl, r, rfl, rfl⟩
  | .shr _ :: as, _, _, ⟨v, r', e, h, q⟩ => by subst e; exact ⟨v, _, rfl, h, argV_app r q⟩
  | .own true d :: as, _, _, ⟨a, r', q, e, e1, h1, h2, h3⟩ => by subst e e1; exact ⟨a, _, q, rfl, rfl, h1, h2, argV_app r h3⟩
  | .own false _ :: _, _, _, h => h.elim
  | .no :: _, _, _, h => h.elim
theorem fn_st (FD : FunD K x qual params body scope [] [] f fd) {pv : Str} {qs : List Str} (he : ps = qs ++ [pv]) (S : FnScope N ps scope) (ag : agB Γ N scope fi.body body = true) (hN : N.length = fi.nl) (hp : ps.length = fi.np) (hst : fi.st = true) (bd : BindS (x, qual, params, body, scope) qs pv) (L : Lv P w K mg base fa Γ Pr n)
    (lam : Γ.lam = true → (∃ c T, fd.code = .ref c ∧ LamX.TabB base mg c T ∧ (T, lamQ qual) ∈ fa.tb ∧ ∀ p ∈ fa.tb, p.1 = T → p.2 = lamQ qual) ∧ HearTxt P K mg fa Γ.hn Pr.hr) :
    FnP Pr.rp P w K mg base (L2.CX P w) (n + 1) f (spF (.mk' w K mg fa) (fun as => run Pr fi (pack fi as)) (fun as => runX Pr fi (pack fi as))) := by
  obtain ⟨oc, od, dV, kV, doc, pm, an, cdv, ct, osl, rfl, lk, hcd, hD, hK⟩ := FD.ex
  rcases hD with ⟨_, rfl⟩ | ⟨e, _⟩
  case inr => exact absurd rfl e
  subst he
  have F := fnP_star (rp := Pr.rp) (sp := spF (.mk' w K mg fa) (run Pr fi) (runX Pr fi)) lk hcd S StX.cxUp (fun us rest l => bd kV doc pm an cdv ct us rest l) fun A outer s H vs Q EE gz hr sp => body_ok S ag hN hp L lam A outer s H vs Q EE gz hr sp
  intro A outer s H us vs Q E g hr e0 r ⟨M, as, os, av, nd, dm, tb, alt⟩
  have hq : qs.length = fi.np - 1 := by simp only [List.length_append, List.length_singleton] at hp; omega
  have hn : fi.np ≠ 0 := by simp only [List.length_append, List.length_singleton] at hp; omega
  -- what is packed
  obtain ⟨ds, hds, hz, hle⟩ : ∃ ds, pack fi as = as.take (fi.np - 1) ++ [.shr (.tup ds)] ∧ (shrs (as.drop (fi.np - 1)) = some ds ∧ ds.length ≤ sizeLine) ∧ fi.np - 1 ≤ as.length := by
    have no : ∀ r, run Pr fi [] ≠ .ok r := fun r => by unfold run; rw [if_neg (fun h => hn h.1.symm)]; exact nofun
    have no2 : ∀ r, runX Pr fi [] ≠ .ok r := fun r => by unfold runX; rw [if_neg (fun h => hn h.1.symm)]; exact nofun
    have key : pack fi as ≠ [] := fun z => by
      rcases alt with ⟨d, fr, outs, e, _⟩ | ⟨c, fs, e, _, _⟩
      · simp only [z] at e; exact no _ e
      · simp only [z] at e; exact no2 _ e
    unfold pack at key ⊢
    rw [hst] at key ⊢
    simp only [cond_true] at key ⊢
    split at key
    · rename_i ds h
      split at key
      · rename_i hc
        refine ⟨ds, ?_, ⟨h, hc.1⟩, hc.2⟩
        exact if_pos hc
      · exact absurd rfl key
    · exact absurd rfl key
  obtain ⟨o1, o2, eo, a1, a2⟩ := argV_split (fi.np - 1) av hle
  obtain ⟨e2, rl⟩ := shrs_rep a2 hz.1
  subst e2
  rw [List.append_nil] at eo
  subst eo
  refine F A outer s H us vs Q E g hr e0 r ⟨vs.take (fi.np - 1), vs.drop (fi.np - 1), (List.take_append_drop _ _).symm, ?_, by rw [← rl.length]; exact hz.2, fun p hp => ?_⟩
  · rw [List.length_take, argV_len av, hq]; omega
  have cr : Carry (.mk' w K mg fa) M H M (upd H p (.tup (vs.drop (fi.np - 1)))) := .evo (.new hp)
  have nMp : ¬ M p := fun z => dm p z (.of hp)
  refine ⟨M, as.take (fi.np - 1) ++ [.shr (.tup ds)], _, argV_app ?_ (argV_carry cr (fun _ h => h) (fun a o _ z => up_new hp a o z) a1), nd, fun a h => nf_new hp (dm a h), tb.up hp, ?_⟩
  · simp only [Rep]
    exact ⟨p, _, rfl, .new upd_same nMp, RepL.carry cr _ _ rl⟩
  · simp only [hds] at alt
    rcases alt with ⟨d, fr, outs, e, q⟩ | ⟨c, fs, e, q0, q⟩
    · refine .inl ⟨d, fr, outs, e, fun v H' cl => q v H' ⟨fun a o na h t => cl.e a o na (up_new hp a o h) t, fun b h => upd_free hp b (cl.f b h), cl.r, cl.o, fun h => ?_, cl.t⟩⟩
      obtain ⟨b, h1, h2, h3⟩ := cl.n h
      exact ⟨b, h1, upd_free hp b h2, h3⟩
    · exact .inr ⟨c, fs, e, q0, fun dd H' rs => q dd H' ⟨fun a o na h t => rs.e a o na (up_new hp a o h) t, fun b h => upd_free hp b (rs.f b h), rs.r, rs.t⟩⟩
end
end Iq
set_option Elab.async false
set_option linter.all false
set_option maxRecDepth 100000
set_option maxHeartbeats 4000000
namespace Iq
open PySem L2

/-! ### constants of the top -/
mutual
def cRB (K : PySem.W.Frag) (nm : List Str) : D → Value → Bool
  | .non, .none => true
  | .bl b, .bool c => b == c
  | .int i, .int j _ => decide (i = j)
  | .str x, .str y _ => decide (x = y)
  | .tup ds, .ref a => match K.lookup a with
    | some ⟨.type c, dt, .seq its _, _⟩ => decide (c = "tuple") && (decide (dt = none) && (decide (its.size ≤ sizeLine) && cRBL K nm ds its.toList))
    | _ => false
  | .fn k, .ref a => decide (a = He.ga K (nm.getD k ""))
  | _, _ => false
def cRBL (K : PySem.W.Frag) (nm : List Str) : List D → List Value → Bool
  | [], [] => true
  | d :: ds, u :: us => cRB K nm d u && cRBL K nm ds us
  | _, _ => false
end
abbrev faOf (K : PySem.W.Frag) (nm : List Str) : Nat → Addr := fun k => He.ga K (nm.getD k "")
/-- the defs stand where their names say -/
def FaIs (K : PySem.W.Frag) (nm : List Str) (fa : Fa) : Prop := ∀ k, fa k = faOf K nm k
mutual
theorem cRB_ok {w : World} {K : PySem.W.Frag} {mg : Str → Option Value} {nm : List Str} {fa : Fa} (hfa : FaIs K nm fa) : ∀ (d : D) (u : Value), cRB K nm d u = true → ∃ v, RelV v u ∧ ∀ M H, Rep (.mk' w K mg fa) M H d v
  | .non, u, h => by
    cases u <;> simp only [cRB] at h <;> try (cases h; done)
    exact ⟨.non, rfl, fun _ _ => rep_non⟩
  | .bl b, u, h => by
    cases u <;> simp only [cRB] at h <;> try (cases h; done)
    rw [beq_iff_eq] at h; subst h
    exact ⟨.bl b, rfl, fun _ _ => rep_bl⟩
  | .int i, u, h => by
    cases u <;> simp only [cRB] at h <;> try (cases h; done)
    rw [decide_eq_true_eq] at h; subst h
    exact ⟨.int i, ⟨_, rfl⟩, fun _ _ => rep_int⟩
  | .str x, u, h => by
    cases u <;> simp only [cRB] at h <;> try (cases h; done)
    rw [decide_eq_true_eq] at h; subst h
    exact ⟨.str x, ⟨_, rfl⟩, fun _ _ => rep_str⟩
  | .tup ds, u, h => by
    cases u with
    | ref a =>
      simp only [cRB] at h
      split at h
      · rename_i c dd its n sl hk
        simp only [Bool.and_eq_true, decide_eq_true_eq] at h
        obtain ⟨vs, r1, r2⟩ := cRBL_ok (w := w) (mg := mg) hfa ds its.toList h.2.2.2
        refine ⟨.ref a, rfl, fun M H => ?_⟩
        simp only [Rep]
        exact ⟨a, vs, rfl, .inr ⟨_, its, n, hk, congrArg Value.type h.1, rfl, h.2.2.1, r1, h.2.1⟩, r2 M H⟩
      · cases h
    | _ => simp only [cRB] at h; cases h
  | .fn k, u, h => by
    cases u <;> simp only [cRB] at h <;> try (cases h; done)
    rw [decide_eq_true_eq] at h; subst h
    exact ⟨.ref _, rfl, fun _ _ => by simp only [Rep]; exact congrArg V.ref (hfa k).symm⟩
  | .lst _, u, h => by cases u <;> (simp only [cRB] at h; cases h)
  | .dic _, u, h => by cases u <;> (simp only [cRB] at h; cases h)
theorem cRBL_ok {w : World} {K : PySem.W.Frag} {mg : Str → Option Value} {nm : List Str} {fa : Fa} (hfa : FaIs K nm fa) : ∀ (ds : List D) (us : List Value), cRBL K nm ds us = true → ∃ vs, Vals vs us ∧ ∀ M H, RepL (.mk' w K mg fa) M H ds vs
  | [], [], _ => ⟨[], .nil, fun _ _ => by simp only [RepL]⟩
  | d :: ds, u :: us, h => by
    simp only [cRBL, Bool.and_eq_true] at h
    obtain ⟨v, r1, r2⟩ := cRB_ok (w := w) (mg := mg) hfa d u h.1
    obtain ⟨vs, r3, r4⟩ := cRBL_ok (w := w) (mg := mg) hfa ds us h.2
    refine ⟨v :: vs, .cons r1 r3, fun M H => ?_⟩
    simp only [RepL]
    exact ⟨v, vs, rfl, r2 M H, r4 M H⟩
  | [], _ :: _, h => by simp only [cRBL] at h; cases h
  | _ :: _, [], h => by simp only [cRBL] at h; cases h
end
/-- a constant of the module -/
def conB (K : PySem.W.Frag) (nm : List Str) (q : Str × D) : Bool := match PySem.W.nsIn K mainGlobals q.1 with
  | some (some u) => cRB K nm q.2 u
  | _ => false
/-- a table with text keys -/
def entB (K : PySem.W.Frag) (nm : List Str) : List (Str × D) → List DictEntry → Bool
  | [], [] => true
  | (x, d) :: kvs, e :: es => (match e.key with
    | .str y _ => decide (x = y)
    | _ => false) && cRB K nm d e.val && entB K nm kvs es
  | _, _ => false
def tabB (K : PySem.W.Frag) (nm : List Str) (t : Str × List (Str × D)) : Bool := match K.lookup (He.ga K t.1) with
  | some ⟨_, _, .dict es _, _⟩ => entB K nm t.2 es.toList && !t.2.isEmpty
  | _ => false
theorem ent_ok {w : World} {K : PySem.W.Frag} {mg : Str → Option Value} {nm : List Str} {fa : Fa} (hfa : FaIs K nm fa) : ∀ {kvs : List (Str × D)} {es : List DictEntry}, entB K nm kvs es = true →
    ∃ vs : List (Key × V), (∀ M H, RepK (.mk' w K mg fa) M H (kvs.map fun q => (Sum.inr q.1, q.2)) vs) ∧ (es.any (·.refKey) = false) ∧ ∀ x : Str, RelO (valV vs (Sum.inr x)) ((es.find? (·.key.isStr x)).map (·.val))
  | [], [], _ => ⟨[], fun _ _ => by simp [RepK], rfl, fun _ => trivial⟩
  | (x, d) :: kvs, e :: es, h => by
    simp only [entB, Bool.and_eq_true] at h
    obtain ⟨⟨h1, h2⟩, h3⟩ := h
    split at h1
    · rename_i y t hk
      rw [decide_eq_true_eq] at h1
      subst h1
      obtain ⟨v, r1, r2⟩ := cRB_ok (w := w) (mg := mg) hfa d e.val h2
      obtain ⟨vs, r3, r4, r5⟩ := ent_ok (w := w) (mg := mg) hfa h3
      refine ⟨(Sum.inr x, v) :: vs, fun M H => ?_, ?_, fun z => ?_⟩
      · simp only [List.map_cons, RepK]
        exact ⟨v, vs, rfl, r2 M H, r3 M H⟩
      · rw [List.any_cons, r4, Bool.or_false]
        unfold DictEntry.refKey
        rw [hk]
      · by_cases e1 : x = z
        · subst e1
          have hf : (e.key.isStr x) = true := by rw [hk]; simp [Value.isStr]
          rw [valV_pos (p := (Sum.inr x, v)) rfl, List.find?_cons, hf]
          exact r1
        · have hf : (e.key.isStr z) = false := by rw [hk]; simp [Value.isStr]; exact fun q => e1 (by first | exact q | exact q.symm)
          rw [valV_neg (p := (Sum.inr x, v)) (fun q => e1 (Sum.inr.inj q)), List.find?_cons, hf]
          exact r5 z
    · cases h1
  | [], _ :: _, h => by simp only [entB] at h; cases h
  | _ :: _, [], h => by simp only [entB] at h; cases h

/-! ### own errors -/
def noneV : Value → Bool
  | .none => true
  | _ => false
theorem noneV_is {v : Value} (h : noneV v = true) : v = .none := by
  cases v <;> first | rfl | cases h
/-- the class object of an own error -/
def xcB (K : PySem.W.Frag) (C : Addr) : Bool := match K.lookup C with
  | some ⟨.type c, _, .cls cd, sl⟩ => decide (c = "type") && !cd.hasDel && cd.hasDict && (match cd.mro with
    | .ref C' :: bm => decide (C' = C) && HandSPX.refsVE bm
    | _ => false) && (match sl.toList with
    | [_, _, _, _, some (.builtin n), _] => decide (n = "ValueError.__new__")
    | _ => false)
  | _ => false
theorem xcB_is {K : PySem.W.Frag} {C : Addr} (h : xcB K C = true) : ∃ nm q N bs bm sn sub ab col dd k0 k1 k2 k3 k5, K.lookup C = some (excClassObj nm q C N bs bm true sn sub ab col dd k0 k1 k2 k3 k5 "ValueError.__new__") ∧ HandSPX.refsVE bm = true := by
  unfold xcB at h
  split at h
  · rename_i c dd cd sl hk
    simp only [Bool.and_eq_true, decide_eq_true_eq, Bool.not_eq_true'] at h
    obtain ⟨⟨⟨⟨rfl, h1⟩, h2⟩, h3⟩, h4⟩ := h
    split at h3
    · rename_i C' bm hm
      simp only [Bool.and_eq_true, decide_eq_true_eq] at h3
      obtain ⟨rfl, h5⟩ := h3
      split at h4
      · rename_i k0 k1 k2 k3 nn k5 hs
        rw [decide_eq_true_eq] at h4
        subst h4
        cases cd
        simp only [] at hm h1 h2
        subst hm h1 h2
        have e : sl = #[k0, k1, k2, k3, some (.builtin "ValueError.__new__"), k5] := by
          rw [← Array.toArray_toList (xs := sl), hs]
        subst e
        exact ⟨_, _, _, _, bm, _, _, _, _, _, k0, k1, k2, k3, k5, hk, h5⟩
      · cases h4
    · cases h3
  · cases h
/-- its __init__ -/
def inB (K : PySem.W.Frag) (C : Addr) (file : Str) : Bool := match K.lookup (He.ma K C "__init__") with
  | some ⟨_, _, .func fd, _⟩ => noneV fd.defaults && noneV fd.kwdefaults && PySem.W.codeIn K fd.code fd.qualname && (match fd.closure with
    | [(y, cc)] => decide (y = "__class__") && (match K.lookup cc with
      | some ⟨_, _, .cell (some (.ref C')), _⟩ => decide (C' = C)
      | _ => false)
    | _ => false) && (match fd.code with
    | .ref cda => (match K.lookup cda with
      | some ⟨_, _, .fields vs, _⟩ => (match (vs[2]? : Option Value) with
        | some (.str f _) => decide (f = file)
        | _ => false)
      | _ => false)
    | _ => false)
  | _ => false
abbrev InW : Type := Option (Str × Arguments × FuncBody × Scope × Addr × Addr)
def inW (K : PySem.W.Frag) (C : Addr) : InW := match K.lookup (He.ma K C "__init__") with
  | some ⟨_, _, .func fd, _⟩ => some (fd.name, fd.params, fd.body, fd.scope, fd.globals, fd.builtins)
  | _ => none
/-- an own error: its name, the positions of its __init__ -/
structure Er where
  x : Str
  p1 : Pos
  p2 : Pos
  p3 : Pos
  p : Xn.Ps
def Er.val (e : Er) : InW := some ("__init__", Xn.nA e.p1 e.p2 e.p3, .stmts (Xn.nB e.p), Xn.nS, mainGlobals, builtinsNs)
theorem in_is {K : PySem.W.Frag} {C : Addr} {file : Str} {e : Er} (h : inB K C file = true) (hw : inW K C = e.val) : ∃ (oc : Value) (od : Option Addr) (doc pm : Value) (an : Option Addr) (ct : Value) (osl : Array (Option Value)) (cc cda : Addr) (ql : Str) (cl : Value) (cld : Option Addr) (csl : Array (Option Value)) (ccl : Value) (cdd : Option Addr) (vs : Array Value) (ccs : Array (Option Value)) (tf : Tok),
    K.lookup (He.ma K C "__init__") = some ⟨oc, od, .func (PySem.W.ksFn "__init__" ql (Xn.nA e.p1 e.p2 e.p3) (Xn.nB e.p) Xn.nS .none .none doc pm an (.ref cda) ct cc), osl⟩ ∧ PySem.W.codeIn K (.ref cda) ql = true ∧ K.lookup cc = some ⟨cl, cld, .cell (some (.ref C)), csl⟩ ∧
    K.lookup cda = some ⟨ccl, cdd, .fields vs, ccs⟩ ∧ vs[2]? = some (.str file tf) := by
  unfold inB at h
  unfold inW at hw
  split at h
  · rename_i oc od fd osl hk
    rw [hk] at hw
    obtain ⟨n1, n2, n3, n4, n5, n6, n7, n8, n9, n10, n11, n12, n13, n14, n15⟩ := fd
    simp only [Er.val, Option.some.injEq, Prod.mk.injEq] at hw
    obtain ⟨rfl, rfl, rfl, rfl, rfl, rfl⟩ := hw
    simp only [Bool.and_eq_true] at h
    obtain ⟨⟨⟨⟨h1, h2⟩, h3⟩, h4⟩, h5⟩ := h
    obtain rfl := noneV_is h1
    obtain rfl := noneV_is h2
    split at h4
    · rename_i y cc
      simp only [Bool.and_eq_true, decide_eq_true_eq] at h4
      obtain ⟨rfl, h4⟩ := h4
      split at h4
      · rename_i cl cld C' csl hcc
        rw [decide_eq_true_eq] at h4
        subst h4
        split at h5
        · rename_i cda
          split at h5
          · rename_i ccl cdd vs ccs hcd
            split at h5
            · rename_i f tf hv
              rw [decide_eq_true_eq] at h5
              subst h5
              exact ⟨oc, od, n10, n11, n12, n14, osl, cc, cda, n2, cl, cld, csl, ccl, cdd, vs, ccs, tf, hk, h3, hcc, hcd, hv⟩
            · cases h5
          · cases h5
        · cases h5
      · cases h4
    · cases h4
  · cases h
def eqV (a b : Option Value) : Bool := decide (a = b)
def nuB (K : PySem.W.Frag) (C : Addr) : Bool := xcB K C && He.eqO (PySem.W.findIn K (.ref C) "__setattr__") (some (some (.builtin "object.__setattr__"))) && He.eqO (PySem.W.findIn K (.ref C) "word") (some none) && He.eqO (PySem.W.findIn K (.ref C) "at") (some none) &&
  He.eqO (PySem.W.findIn K (.ref C) "__init__") (some (some (.ref (He.ma K C "__init__")))) && eqV (PySem.W.typeIn K (.ref (He.ma K C "__init__"))) (some (.type "function")) && PySem.W.keepIn K (.ref C) && decide (PySem.W.subIn K (.ref C) (.type "BaseException") = some true) &&
  eqV (PySem.W.typeIn K (.ref C)) (some (.type "type")) && He.eqO (PySem.W.nsIn K cStatics "thirdparty.any") (some none) && He.eqO (PySem.W.ks_superIn K C C "__init__") (some (some (.builtin "ValueError.__init__"))) && PySem.W.excInitIn K C HandSPX.veTail "ValueError.__new__" &&
  decide (PySem.W.subIn K (.ref C) (.type "ValueError") = some true) && decide (PySem.W.mroIn K C (.ref C) = some true)
theorem nu_is {P : Program} {K : PySem.W.Frag} {mg : Str → Option Value} {C : Addr} {e : Er} (hb : nuB K C = true) (hi : inB K C P.main.file = true) (hw : inW K C = e.val) (gC : mg e.x = some (.ref C)) (sup : mg "super" = none) (top : (P.main.scope.names.lookup ("super" : Str)).isSome = false) (hl : (e.p.c.endLine == e.p.f.line) = true) :
    Xn.NuTxt P K mg e.x C (He.ma K C "__init__") := by
  simp only [nuB, Bool.and_eq_true, decide_eq_true_eq] at hb
  obtain ⟨⟨⟨⟨⟨⟨⟨⟨⟨⟨⟨⟨⟨b1, b2⟩, b3⟩, b4⟩, b5⟩, b6⟩, b7⟩, b8⟩, b9⟩, b10⟩, b11⟩, b12⟩, b13⟩, b14⟩ := hb
  obtain ⟨oc, od, doc, pm, an, ct, osl, cc, cda, ql, cl, cld, csl, ccl, cdd, vs, ccs, tf, h1, h2, h3, h4, h5⟩ := in_is hi hw
  exact ⟨gC, xcB_is b1, He.eqO_ok b2, He.eqO_ok b3, He.eqO_ok b4, He.eqO_ok b5, of_decide_eq_true b6, b7, b8, of_decide_eq_true b9, He.eqO_ok b10, He.eqO_ok b11, b12, b13, b14, sup, top,
    ⟨oc, od, doc, pm, an, ct, osl, cc, cda, ql, e.p1, e.p2, e.p3, e.p, cl, cld, csl, ccl, cdd, vs, ccs, _, tf, h1, h2, h3, h4, hl, h5, by simp⟩⟩
def errB (K : PySem.W.Frag) (C : Addr) : Bool := xfB K C && He.eqO (PySem.W.findIn K (.ref C) "__class__") (some (some (.builtin "object.__class__"))) && He.eqO (PySem.W.specialIn K (.builtin "object.__class__") "__get__") (some (some (.builtin "getset_descriptor.__get__"))) &&
  decide (PySem.W.takesIn K (.builtin "object.__class__") = some true) && decide (PySem.W.mroIn K C (.type "object") = some true) && He.eqO (PySem.W.findIn K (.ref C) "word") (some none) && He.eqO (PySem.W.findIn K (.ref C) "at") (some none)
theorem err_is {K : PySem.W.Frag} {C : Addr} (h : errB K C = true) : Hx.ErrC K C := by
  simp only [errB, Bool.and_eq_true, decide_eq_true_eq] at h
  obtain ⟨⟨⟨⟨⟨⟨h1, h2⟩, h3⟩, h4⟩, h5⟩, h6⟩, h7⟩ := h
  exact ⟨xfB_ok h1, He.eqO_ok h2, He.eqO_ok h3, h4, h5, He.eqO_ok h6, He.eqO_ok h7⟩
def ofB (K : PySem.W.Frag) (cF cP cN C : Addr) (bp bn : Bool) : Bool := errB K C && decide (PySem.W.exmOne K (.ref C) (.ref cF) = some true) && decide (PySem.W.kitOne K (.ref C) (.ref cP) = some bp) && decide (PySem.W.kitOne K (.ref C) (.ref cN) = some bn)
theorem of_is {K : PySem.W.Frag} {cF cP cN C : Addr} {bp bn : Bool} (h : ofB K cF cP cN C bp bn = true) : Hx.Of K cF cP cN C bp bn := by
  simp only [ofB, Bool.and_eq_true, decide_eq_true_eq] at h
  obtain ⟨⟨⟨h1, h2⟩, h3⟩, h4⟩ := h
  exact ⟨err_is h1, h2, h3, h4⟩
end Iq
set_option Elab.async false
set_option linter.all false
set_option maxRecDepth 100000
set_option maxHeartbeats 4000000
namespace Iq
open PySem L2
/-! ### the hook -/
structure Hk where
  fn : List He.DefD
  nm : List Str
  cs : List (Str × D)
  ts : List (Str × List (Str × D))
  er : List (Er × Bool × Bool)
  lm : List (Str × Str)
  file : Str
abbrev AlI : Type := Bool × List He.FnW × List (Option (List (Option (Str × Int)))) × List InW
def glB (K : PySem.W.Frag) (x : Str) : Bool := He.eqO (PySem.W.nsIn K mainGlobals x) (some (some (.ref (He.ga K x))))
def frB (K : PySem.W.Frag) (x : Str) : Bool := He.eqO (PySem.W.nsIn K mainGlobals x) (some none)
def erB (k : Hk) (K : PySem.W.Frag) : Bool := k.er.isEmpty || (frB K "super" && (k.lm.isEmpty || (glB K "ForkError" && glB K "InvalidPaper" && glB K "NotUsable" && k.er.all fun e => ofB K (He.ga K "ForkError") (He.ga K "InvalidPaper") (He.ga K "NotUsable") (He.ga K e.1.x) e.2.1 e.2.2)) &&
  k.er.all fun e => glB K e.1.x && nuB K (He.ga K e.1.x) && inB K (He.ga K e.1.x) k.file)
def tbA (k : Hk) (K : PySem.W.Frag) : List (Addr × Str) := k.lm.map fun p => ((He.cT K (p.1, none)).2, lamQ p.2)
def allB (k : Hk) (K : PySem.W.Frag) : Bool := (k.fn.all fun d => d.ok K) && (k.nm.all (glB K)) && (bnames.all (frB K)) && (k.cs.all (conB K k.nm)) && (k.ts.all fun t => tabB K k.nm t && glB K t.1) && erB k K && decide ((tbA k K).map (·.1)).Nodup
def obsI (k : Hk) (K : PySem.W.Frag) : AlI := (allB k K, k.fn.map fun d => He.fnW K d.at_, k.ts.map fun t => He.dicW K (He.ga K t.1), k.er.map fun e => inW K (He.ga K e.1.x))
def valI (k : Hk) (w : World) : AlI := (true, k.fn.map He.DefD.val, k.ts.map fun t => some (He.keysIn w.params (t.2.map (·.1))), k.er.map fun e => e.1.val)
/-- no list of the top is looked at -/
def nl (p : Addr × Obj) : Bool := !decide (p.2.cls = .type "list")
def NoL (K : PySem.W.Frag) : Prop := ∀ a o, K.lookup a = some o → o.cls ≠ .type "list"
theorem mem_lookup {α β : Type} [BEq α] [LawfulBEq α] {a : α} {b : β} : ∀ {l : List (α × β)}, l.lookup a = some b → (a, b) ∈ l
  | [], h => by cases h
  | (x, y) :: l, h => by
    rw [List.lookup_cons] at h
    cases e : a == x with
    | true => rw [e] at h; cases h; rw [beq_iff_eq.mp e]; exact List.mem_cons_self
    | false => rw [e] at h; exact List.mem_cons_of_mem _ (mem_lookup h)

/-- what the objects of a row name -/
def outA (g : Addr → Option Obj) (as : List Addr) : List Addr := as.flatMap fun a => match g a with
  | some o => He.refsD o
  | none => []
/-- what is reached, row by row -/
def lvA (g : Addr → Option Obj) : Nat → List Addr → List Addr
  | 0, as => as
  | n + 1, as => as ++ lvA g n (outA g as)
/-- the written part: no list, no table -/
def KI (n : Nat) (g : Addr → Option Obj) : PySem.W.Frag := (He.frT g (cStatics :: lvA g n [mainGlobals])).filter nl
theorem ki_in {n : Nat} {g : Addr → Option Obj} {a : Addr} {o : Obj} (h : (KI n g).lookup a = some o) : g a = some o ∧ o.cls ≠ .type "list" ∧ He.emptyTab o = false := by
  have m := mem_lookup h
  obtain ⟨m1, m2⟩ := List.mem_filter.mp m
  obtain ⟨m3, m4⟩ := List.mem_filter.mp m1
  refine ⟨He.frG_mem m3, fun z => ?_, by simpa using m4⟩
  simp [nl, z] at m2
abbrev lmD (k : Hk) : List He.Defn := k.lm.map fun p => (p.1, none)
def obsIG (n : Nat) (k : Hk) (g : Addr → Option Obj) : AlI × Bool := (obsI k (KI n g), He.tabsB g (lmD k) (KI n g))
structure Says (k : Hk) (w : World) (h : Heap) (K : PySem.W.Frag) : Prop where
  kin : K.In h
  nol : NoL K
  obs : obsI k K = valI k w
  hd : ∀ p ∈ lmD k, PySem.W.codeHdIn K (He.cT K p).1 (He.cT K p).2 = true
  out : ∀ p ∈ lmD k, K.lookup (He.cT K p).2 = none
  emp : ∀ p ∈ lmD k, h.get? (He.cT K p).2 = some { cls := .none, data := .fields #[] }
theorem says_of {n : Nat} {k : Hk} {w : World} {h : Heap} (e : obsIG n k h.get? = (valI k w, true)) : Says k w h (KI n h.get?) := by
  have e1 : obsI k (KI n h.get?) = valI k w := congrArg (fun z : AlI × Bool => z.1) e
  have e2 : He.tabsB h.get? (lmD k) (KI n h.get?) = true := congrArg (fun z : AlI × Bool => z.2) e
  have t : ∀ p ∈ lmD k, PySem.W.codeHdIn (KI n h.get?) (He.cT (KI n h.get?) p).1 (He.cT (KI n h.get?) p).2 = true ∧ ∃ o, h.get? (He.cT (KI n h.get?) p).2 = some o ∧ He.emptyTab o = true := fun p hp => by
    have q := List.all_eq_true.mp e2 p hp
    simp only [Bool.and_eq_true] at q
    refine ⟨q.1, ?_⟩
    have q2 := q.2
    split at q2
    · exact ⟨_, by assumption, q2⟩
    · cases q2
  refine ⟨fun a o q => (ki_in q).1, fun a o q => (ki_in q).2.1, e1, fun p hp => (t p hp).1, fun p hp => ?_, fun p hp => ?_⟩
  · obtain ⟨_, o, h1, h2⟩ := t p hp
    cases z : (KI n h.get?).lookup (He.cT (KI n h.get?) p).2 with
    | none => rfl
    | some u =>
      obtain ⟨h3, _, h4⟩ := ki_in z
      rw [h1] at h3; cases h3
      rw [h2] at h4; cases h4
  · obtain ⟨_, o, h1, h2⟩ := t p hp
    rw [h1, He.emptyTab_eq h2]
def hookI (n : Nat) (k : Hk) : PySem.W.Hook where
  α := AlI × Bool
  obs := fun s => obsIG n k s.heap.get?
  val := fun w => (valI k w, true)
  says := fun w h => ∃ K : PySem.W.Frag, Says k w h K
  of := fun _ _ e => ⟨_, says_of e⟩
  keeps := fun _ _ _ ⟨K, s⟩ q => ⟨K, PySem.W.Frag.In.keeps s.kin q, s.nol, s.obs, s.hd, s.out, fun p hp => q _ _ (s.emp p hp)⟩
theorem obsIG_eq {n : Nat} {k : Hk} {g : Addr → Option Obj} {s : Shared} (h : ∀ a, g a = s.heap.get? a) : obsIG n k g = (hookI n k).obs s := by
  have e : g = s.heap.get? := funext h
  rw [e]; rfl
/-- the names and values of all constants -/
def Hk.cn (k : Hk) : List Str := k.cs.map (·.1) ++ k.ts.map (·.1)
def Hk.cv (k : Hk) : List D := k.cs.map (·.2) ++ k.ts.map fun t => .dic (t.2.map fun q => (Sum.inr q.1, q.2))

def Hk.fa (k : Hk) (K : PySem.W.Frag) : Fa := ⟨faOf K k.nm, fun c => He.ga K ((k.er.map (·.1.x)).getD c ""), tbA k K⟩
section
variable {k : Hk} {w : World} {K : PySem.W.Frag} {h : Heap} {mg : Str → Option Value} {P : Program}
theorem says_all (c : obsI k K = valI k w) : allB k K = true := congrArg (fun z : AlI => z.1) c
theorem says_gl (X : K.In h) (G : h.Ns mainGlobals mg) {x : Str} (c : glB K x = true) : mg x = some (.ref (He.ga K x)) := PySem.W.mg_of X G (He.eqO_ok c)
theorem says_env (X : K.In h) (G : h.Ns mainGlobals mg) (c : obsI k K = valI k w) : (∀ x ∈ bnames, mg x = none) ∧ ∀ (j : Nat) x d, k.cn[j]? = some x → k.cv[j]? = some d → ∃ u v, mg x = some u ∧ RelV v u ∧ ∀ M H, Rep (.mk' w K mg (k.fa K)) M H d v := by
  have a := says_all c
  have hfa : FaIs K k.nm (k.fa K) := fun _ => rfl
  simp only [allB, Bool.and_eq_true] at a
  obtain ⟨⟨⟨⟨⟨⟨a1, a2⟩, a3⟩, a4⟩, a5⟩, a6⟩, a7⟩ := a
  refine ⟨fun x hx => PySem.W.mg_none_of X G (He.eqO_ok (List.all_eq_true.mp a3 x hx)), fun j x d hx hd => ?_⟩
  simp only [Hk.cn, Hk.cv] at hx hd
  by_cases hj : j < k.cs.length
  · rw [List.getElem?_append_left (by simpa using hj), List.getElem?_map] at hx hd
    rw [List.getElem?_eq_getElem hj] at hx hd
    simp only [Option.map_some, Option.some.injEq] at hx hd
    have q := List.all_eq_true.mp a4 _ (List.getElem_mem hj)
    unfold conB at q
    split at q
    · rename_i u hu
      rw [hx] at hu
      rw [hd] at q
      obtain ⟨v, r1, r2⟩ := cRB_ok (w := w) (mg := mg) hfa d u q
      exact ⟨u, v, PySem.W.mg_of X G hu, r1, r2⟩
    · cases q
  · have hj : k.cs.length ≤ j := by omega
    rw [List.getElem?_append_right (by simpa using hj)] at hx hd
    simp only [List.length_map, List.getElem?_map] at hx hd
    cases ht : k.ts[j - k.cs.length]? with
    | none => rw [ht] at hx; cases hx
    | some t =>
      rw [ht] at hx hd
      simp only [Option.map_some, Option.some.injEq] at hx hd
      subst hx hd
      have hm := List.mem_of_getElem? ht
      have q := List.all_eq_true.mp a5 t hm
      simp only [Bool.and_eq_true] at q
      refine ⟨_, .ref (He.ga K t.1), says_gl X G q.2, rfl, ?_⟩
      have q1 := q.1
      unfold tabB at q1
      split at q1
      · rename_i es n _ hk
        simp only [Bool.and_eq_true, Bool.not_eq_true'] at q1
        obtain ⟨vs, r1, r2, r3⟩ := ent_ok (w := w) (mg := mg) hfa q1.1
        have hd : k.ts.map (fun t => He.dicW K (He.ga K t.1)) = k.ts.map fun t => some (He.keysIn w.params (t.2.map (·.1))) := congrArg (fun z : AlI => z.2.2.1) c
        have hd2 : He.dicW K (He.ga K t.1) = some (He.keysIn w.params (t.2.map (·.1))) := by
          have := congrArg (fun l => l[j - k.cs.length]?) hd
          simp only [List.getElem?_map, ht, Option.map_some, Option.some.injEq] at this
          exact this
        obtain ⟨es2, n2, kd⟩ := He.dicW_ok hd2
        intro M H
        simp only [Rep]
        refine ⟨He.ga K t.1, vs, rfl, .inr ⟨es2, n2, kd, fun x => ?_, ?_⟩, r1 M H⟩
        · refine ⟨(es.toList.find? (·.key.isStr x)).map (·.val), ?_, r3 x⟩
          unfold PySem.W.nsIn
          rw [hk]
          simp only []
          cases hf : es.toList.find? (·.key.isStr x) with
          | some e => rfl
          | none => simp only [r2]; rfl
        · have r := r1 (fun _ => False) (fun _ => none)
          cases hkv : t.2 with
          | nil => rw [hkv] at q1; simp at q1
          | cons p l =>
            rw [hkv] at r
            simp only [List.map_cons, RepK] at r
            obtain ⟨v, r', e, _⟩ := r
            exact ⟨_, v, r', e⟩
      · cases q1
theorem says_fn (c : obsI k K = valI k w) {i : Nat} {d : He.DefD} (hi : k.fn[i]? = some d) : ∃ fd, FunD K d.name d.qual d.params d.body d.scope (d.dvs K) (d.kws K) (He.fAd K d.at_) fd := by
  have a := says_all c
  simp only [allB, Bool.and_eq_true] at a
  have e : k.fn.map (fun d => He.fnW K d.at_) = k.fn.map He.DefD.val := congrArg (fun z : AlI => z.2.1) c
  have e2 := congrArg (fun l => l[i]?) e
  simp only [List.getElem?_map, hi, Option.map_some, Option.some.injEq] at e2
  exact He.DefD.funD e2 (List.all_eq_true.mp a.1.1.1.1.1.1 d (List.mem_of_getElem? hi))
theorem says_nm (X : K.In h) (G : h.Ns mainGlobals mg) (c : obsI k K = valI k w) {i : Nat} {x : Str} (hi : k.nm[i]? = some x) : mg x = some (.ref (faOf K k.nm i)) := by
  have a := says_all c
  simp only [allB, Bool.and_eq_true] at a
  have q := says_gl X G (List.all_eq_true.mp a.1.1.1.1.1.2 x (List.mem_of_getElem? hi))
  have e : faOf K k.nm i = He.ga K x := by
    unfold faOf
    rw [List.getD_eq_getElem?_getD, hi]; rfl
  rw [e]; exact q
/-- the own errors -/
theorem says_er (X : K.In h) (G : h.Ns mainGlobals mg) (c : obsI k K = valI k w) {i : Nat} {e : Er × Bool × Bool} (hi : k.er[i]? = some e) : (k.fa K).cl i = He.ga K e.1.x ∧ mg e.1.x = some (.ref (He.ga K e.1.x)) ∧ mg "super" = none ∧ nuB K (He.ga K e.1.x) = true ∧ inB K (He.ga K e.1.x) k.file = true ∧ inW K (He.ga K e.1.x) = e.1.val ∧
    (k.lm ≠ [] → Hx.Of K (He.ga K "ForkError") (He.ga K "InvalidPaper") (He.ga K "NotUsable") (He.ga K e.1.x) e.2.1 e.2.2 ∧ mg "ForkError" = some (.ref (He.ga K "ForkError")) ∧ mg "InvalidPaper" = some (.ref (He.ga K "InvalidPaper")) ∧ mg "NotUsable" = some (.ref (He.ga K "NotUsable"))) := by
  have a := says_all c
  simp only [allB, Bool.and_eq_true] at a
  have b := a.1.2
  have hm := List.mem_of_getElem? hi
  unfold erB at b
  rw [Bool.or_eq_true] at b
  rcases b with b | b
  · rw [List.isEmpty_iff.mp b] at hm; cases hm
  · simp only [Bool.and_eq_true] at b
    obtain ⟨⟨b1, b2⟩, b5⟩ := b
    have q := List.all_eq_true.mp b5 e hm
    simp only [Bool.and_eq_true] at q
    obtain ⟨⟨q1, q2⟩, q3⟩ := q
    have e3 : k.er.map (fun e => inW K (He.ga K e.1.x)) = k.er.map fun e => e.1.val := congrArg (fun z : AlI => z.2.2.2) c
    have e4 := congrArg (fun l => l[i]?) e3
    simp only [List.getElem?_map, hi, Option.map_some, Option.some.injEq] at e4
    refine ⟨?_, says_gl X G q1, PySem.W.mg_none_of X G (He.eqO_ok b1), q2, q3, e4, fun hl => ?_⟩
    case refine_2 =>
      rw [Bool.or_eq_true] at b2
      rcases b2 with b2 | b2
      · exact absurd (List.isEmpty_iff.mp b2) hl
      · simp only [Bool.and_eq_true] at b2
        obtain ⟨⟨⟨b2, b3⟩, b4⟩, b6⟩ := b2
        exact ⟨of_is (List.all_eq_true.mp b6 e hm), says_gl X G b2, says_gl X G b3, says_gl X G b4⟩
    show He.ga K ((k.er.map (·.1.x)).getD i "") = _
    rw [List.getD_eq_getElem?_getD, List.getElem?_map, hi]; rfl
end
end Iq
set_option Elab.async false
set_option linter.all false
set_option maxRecDepth 100000
set_option maxHeartbeats 1000000
namespace Iq
open PySem PySem.Spec PyProof.Rows L2

/-! ### the law is called where nothing guards -/
section
variable {P : Program} {w : World} {K : PySem.W.Frag} {mg mb : Str → Option Value} {CX : CXT} {k : Nat} {fa a : Addr} {cs : List (Addr × Addr)} {sp : Sp} {t : Shared} {vs : List Value} {ns : List Int}
/-- a table of code objects ahead of all -/
abbrev bare : Obj := { cls := .none, data := .fields #[] }
abbrev given (vs : List Value) : Obj := { cls := .type "list", data := .seq vs.toArray }
/-- the abstract heap at the law's entry: the script, the tables -/
def hAt (a : Addr) (ts : List Addr) (vs : List Value) (ns : List Int) : Hp := fun b => if b = a then some (.frz (given vs) (.lst (ns.map V.int))) else if b ∈ ts then some (.tbl #[]) else none
theorem hAt_a {ts : List Addr} : hAt a ts vs ns a = some (.frz (given vs) (.lst (ns.map V.int))) := if_pos rfl
theorem hAt_t {ts : List Addr} {b : Addr} (h : b ≠ a) (m : b ∈ ts) : hAt a ts vs ns b = some (.tbl #[]) := (if_neg h).trans (if_pos m)
theorem hAt_o {ts : List Addr} {b : Addr} (h : b ≠ a) (m : b ∉ ts) : hAt a ts vs ns b = none := (if_neg h).trans (if_neg m)
theorem hAt_is {ts : List Addr} {b : Addr} {u : HO} (e : hAt a ts vs ns b = some u) : (b = a ∧ u = .frz (given vs) (.lst (ns.map V.int))) ∨ (b ≠ a ∧ b ∈ ts ∧ u = .tbl #[]) := by
  unfold hAt at e
  split at e
  · exact .inl ⟨by assumption, (Option.some.inj e).symm⟩
  · split at e
    · exact .inr ⟨by assumption, by assumption, (Option.some.inj e).symm⟩
    · cases e
theorem law_gz (KX : K.In t.heap) (hns : t.heap.Ns mainGlobals mg) (hb : t.heap.Ns builtinsNs mb) (hbb : ∀ x : Str, x ≠ "__name__" → mb x = bootBuiltins x) (lim : t.heap.NoLimit) (hg : t.gens = #[])
    (tb : ∀ p ∈ cs, t.heap.get? p.2 = some bare) (nT : ∀ p ∈ cs, K.lookup p.2 = none) (C : ∀ p ∈ cs, PySem.W.CodeHd t.heap p.1 p.2) (bm : ∃ (q : Addr) (o : Obj), mg "__builtins__" = some (.ref q) ∧ q ≠ builtinsNs ∧ t.heap.get? q = some o ∧ o.cls = .type "module" ∧ o.dict = some builtinsNs ∧ o.data = .plain)
    (ha : t.heap.get? a = some (given vs)) (hi : IntsAre vs ns) (hl : ns.length ≤ sizeLine) (nl : K.lookup a = none) (hr : Room k callerA)
    (F : ∀ base : Heap, K.In base → base.Ns mainGlobals mg → (∀ p ∈ cs, LamX.TabB base mg p.1 p.2) → FnP true P w K mg base CX k fa sp)
    (hsp : ∀ H : Hp, (∀ p ∈ cs, H p.2 = some (.tbl #[])) → Rd H a (.lst (ns.map V.int)) → sp [.ref a] H (fun v _ => v = .bl true) fun _ _ _ => False) (no : ∀ H e s', CX [] H t (fun _ _ _ => False) e s' → False) :
    codeAny (model P w) callerA (.call (.ref fa) ⟨[.ref a], []⟩) (fun r s' => r = .ok (.ret (.bool true)) ∧ OldK t.heap s'.heap ∧ s'.os = t.os ∧ AllBare s'.gens) t := by
  obtain ⟨ts, hts⟩ : ∃ ts, ts = cs.map (·.2) := ⟨_, rfl⟩
  have inT : ∀ p ∈ cs, p.2 ∈ ts := fun p hp => by rw [hts]; exact List.mem_map_of_mem hp
  have isT : ∀ b ∈ ts, ∃ p ∈ cs, p.2 = b := fun b hb => by rw [hts] at hb; exact List.mem_map.mp hb
  have bT : ∀ b ∈ ts, t.heap.get? b = some bare := fun b hb => by obtain ⟨p, h1, rfl⟩ := isT b hb; exact tb p h1
  have neA : ∀ b ∈ ts, b ≠ a := fun b hb z => by
    have := bT b hb
    rw [z, ha] at this; cases this
  -- what is no list and no table stands untracked
  have free : ∀ (b : Addr) (o : Obj), t.heap.get? b = some o → (∀ xs n, o.data ≠ .seq xs n) → o.data ≠ .fields #[] → hAt a ts vs ns b = none := fun b o e h1 h2 => by
    refine hAt_o (fun z => ?_) fun z => ?_
    · rw [z, ha] at e; cases e
      exact h1 _ _ rfl
    · rw [bT b z] at e; cases e
      exact h2 rfl
  have stay : ∀ (b : Addr) (o : Obj), t.heap.get? b = some o → hAt a ts vs ns b = none → (hidT t.heap (hAt a ts vs ns)).get? b = some o := fun _ _ e n => hidT_get e n
  have ns' : ∀ (b : Addr) m, t.heap.Ns b m → (hidT t.heap (hAt a ts vs ns)).Ns b m := fun b m ⟨o, es, ep, e, d, r⟩ =>
    ⟨o, es, ep, stay b o e (free b o e (fun xs n z => by rw [d] at z; cases z) fun z => by rw [d] at z; cases z), d, r⟩
  have kin : K.In (hidT t.heap (hAt a ts vs ns)) := fun b o e => stay b o (KX b o e) <| hAt_o (fun z => by rw [z, nl] at e; cases e) fun z => by
    obtain ⟨p, h1, rfl⟩ := isT b z
    rw [nT p h1] at e; cases e
  have lim' : (hidT t.heap (hAt a ts vs ns)).NoLimit := let ⟨m, h1, h2⟩ := lim; ⟨m, ns' _ m h1, h2⟩
  have TB : ∀ p ∈ cs, LamX.TabB (hidT t.heap (hAt a ts vs ns)) mg p.1 p.2 := fun p hp => by
    have hT := tb p hp
    obtain ⟨q, o, b1, b2, b3, b4, b5, b6⟩ := bm
    have pl : hAt a ts vs ns q = none := free q o b3 (fun xs n z => by rw [b6] at z; cases z) fun z => by rw [b6] at z; cases z
    have mn : ∀ {b : Addr} {o : Obj}, t.heap.get? b = some o → (∀ es n, o.data ≠ .dict es n) → b ≠ mainGlobals := fun {b o} e h z => by
      obtain ⟨u, es, ep, e2, d, _⟩ := hns
      rw [z, e2] at e; cases e
      exact h _ _ d
    refine ⟨?_, ⟨q, o, b1, b2, mn b3 (fun es n z => by rw [b6] at z; cases z), fun z => ?_, stay q o b3 pl, b4, b5, b6⟩, fun z => mn hT (fun es n z => by cases z) z.symm⟩
    · obtain ⟨u, us, file, tf, flags, tg, inF, text, tt, e1, r1, r2, r⟩ := C p hp
      refine ⟨u, us, file, tf, flags, tg, inF, text, tt, stay _ u e1 (free _ u e1 (fun xs n z => by rw [r2] at z; cases z) fun z => ?_), r1, r2, r⟩
      rw [r2] at z
      cases z
      have := r.1
      simp at this
    · rw [z, hT] at b3; cases b3
      cases b6
  have hok : HOk P w (hAt a ts vs ns) t.heap := fun b u e => by
    rcases hAt_is e with ⟨rfl, rfl⟩ | ⟨_, h, rfl⟩
    · exact ⟨ha, by rw [List.length_map]; exact hl, vs, 0, vals_ints hi, ha⟩
    · exact bT b h
  have e0 : Env0 P w K mg (hidT t.heap (hAt a ts vs ns)) callerA [] t (hAt a ts vs ns) :=
    { frames := rfl, mod := ⟨kin, ns' _ _ hns, ⟨mb, ns' _ _ hb, hbb⟩, lim'⟩, bs := fun b o e => of_hidT e, bsz := Nat.le_of_eq (hidT_size _ _), funs := trivial, frf := fun b h => (List.not_mem_nil h).elim, hok := hok, bare := .of_eq hg }
  refine codeAny_mono (F _ kin (ns' _ _ hns) TB callerA [] t _ [.ref a] [.ref a] _ _ (fun _ => rfl) hr e0 (.cons (a := V.ref a) (b := Value.ref a) rfl .nil) (hsp _ (fun p hp => hAt_t (neA _ (inT p hp)) (inT p hp)) (.inr ⟨_, hAt_a⟩))) fun r s' z => ?_
  match r, z with
  | .error e, z => exact (no _ e s' z).elim
  | .ok .next, z => exact z.elim
  | .ok .brk, z => exact z.elim
  | .ok .cont, z => exact z.elim
  | .ok (.ret u), ⟨v, H', os, ba, un, hok', rv, q⟩ =>
    cases (show v = .bl true from q)
    cases (show u = Value.bool true from rv)
    have kept : ∀ b o, b ∉ ts → t.heap.get? b = some o → s'.heap.get? b = some o := fun b o nb e => by
      by_cases z : b = a
      · have h1 := un.frzs a _ _ hAt_a
        have h2 := (hok' a _ h1).1
        rw [z] at e ⊢
        rw [ha] at e; cases e
        exact h2
      · exact un.keep b o e (hAt_o z nb) (fun h => (List.not_mem_nil h).elim) fun h => (List.not_mem_nil h).elim
    have grew : ∀ b ∈ ts, ∃ more : Array Value, s'.heap.get? b = some { cls := .none, data := .fields more } := fun b hb => by
      obtain ⟨more, z⟩ := un.tbls b _ (hAt_t (neA b hb) hb)
      exact ⟨_, hok' b _ z⟩
    refine ⟨rfl, ⟨fun b o e => ?_, fun b o e => ?_⟩, os, ba⟩
    · by_cases h : b ∈ ts
      · obtain ⟨more, hm⟩ := grew b h
        rw [bT b h] at e; cases e
        obtain ⟨p, h1, rfl⟩ := isT b h
        refine .inr (.inl ⟨((C p h1).tab (tb p h1)).isCodeTable, rfl, #[], more, rfl, ?_⟩)
        rw [Array.empty_append]; exact hm
      · exact .inl (kept b o h e)
    · by_cases h : b ∈ ts
      · obtain ⟨more, hm⟩ := grew b h
        exact ⟨_, hm⟩
      · exact ⟨o, kept b o h e⟩
end
/-- the end of a law over a head's facts -/
theorem walk_gz {l : PySem.W.OpenLaw} {n k : Nat} {q : Program} {loose : List Str} {XP : (Str → Option Value) → Heap → Prop} {YP : World → Heap → Prop} {d : DefRec} {CX : World → CXT} (hn : l.most = some n) (hn2 : n ≤ sizeLine) (hdf : d.params.defaults = []) (hr : Room k callerA)
    (F : ∀ (w : World) (mg : Str → Option Value) (fa : Addr) (h : Heap), YP w h → h.Ns mainGlobals mg → mg d.name = some (.ref fa) → ∃ (K : PySem.W.Frag) (cs : List (Addr × Addr)) (sp : Sp), K.In h ∧ (∀ a o, K.lookup a = some o → o.cls ≠ .type "list") ∧ (∀ p ∈ cs, h.get? p.2 = some bare) ∧ (∀ p ∈ cs, K.lookup p.2 = none) ∧ (∀ p ∈ cs, PySem.W.CodeHd h p.1 p.2) ∧
      (∀ (H : Hp) (a : Addr) (ns : List Int), ns.length ≤ n → (∀ z ∈ ns, Builtin.Int.intBits z ≤ 1048576) → (∀ p ∈ cs, H p.2 = some (.tbl #[])) → Rd H a (.lst (ns.map V.int)) → sp [.ref a] H (fun v _ => v = .bl true) fun _ _ _ => False) ∧
      ∀ base : Heap, K.In base → base.Ns mainGlobals mg → (∀ p ∈ cs, LamX.TabB base mg p.1 p.2) → FnP true l.prog w K mg base (CX w) k fa sp)
    (no : ∀ (w : World) (H : Hp) (s : Shared) (e : Value) (s' : Shared), CX w [] H s (fun _ _ _ => False) e s' → False) : PySem.W.WalkO q loose XP YP l.row.toRowW d [] (fun f vs => PySem.call f vs) :=
  Att.attach_callB hn hdf fun w s₀ t mg mb fa o pm cd doc a vs ns G Y ho hd hcd hmg hobj hints hlen hbits hg => by
    obtain ⟨K, cs, sp, KX, nol, tb, nT, C, hsp, hF⟩ := F w mg fa _ Y G.T.g hmg
    refine law_gz KX G.T.g G.T.b G.T.builtins G.T.nolimit hg tb nT C G.T.bmain hobj hints (Nat.le_trans hlen hn2) ?_ hr hF (fun H h1 h2 => hsp H a ns hlen hbits h1 h2) fun H e s' => no w H t e s'
    cases z : K.lookup a with
    | none => rfl
    | some o' =>
      have := KX a o' z
      rw [hobj] at this; cases this
      exact absurd rfl (nol a _ z)
end Iq
set_option Elab.async false
set_option linter.all false
set_option maxRecDepth 100000
set_option maxHeartbeats 4000000
namespace Iq
open PySem L2

/-! ### the whole program -/
/-- a def: its text, its names by slots, its parameters, its term; whether places alone call it; whether it makes lambdas -/
structure Df where
  d : He.DefD
  N : List Str
  ps : List Str
  fi : Fn
  po : Bool := true
  lam : Bool := false
def scB (N ps : List Str) (sc : Scope) : Bool := decide (sc.kind = .function) && !sc.isCoroutine && !sc.isGenerator && decide (N.Nodup) && decide (N.take ps.length = ps) &&
  (ps.all fun x => decide (sc.names.lookup x = some .local) || decide (sc.names.lookup x = some .cell)) && (sc.names.all fun y => !decide (y.2 = .free))
theorem scB_ok {N ps : List Str} {sc : Scope} (h : scB N ps sc = true) : FnScope N ps sc := by
  simp only [scB, Bool.and_eq_true, decide_eq_true_eq, Bool.not_eq_true', List.all_eq_true, Bool.or_eq_true, decide_eq_false_iff_not] at h
  obtain ⟨⟨⟨⟨⟨⟨h1, h2⟩, h3⟩, h4⟩, h5⟩, h6⟩, h7⟩ := h
  exact ⟨h1, h2, h3, h4, h5, h6, h7⟩
def Df.ok (Γ : Gt) (x : Df) : Bool := agB { Γ with lam := x.lam } x.N x.d.scope x.fi.body x.d.body && scB x.N x.ps x.d.scope && decide (x.N.length = x.fi.nl) && decide (x.ps.length = x.fi.np) && (!(x.po || x.fi.st) || (x.d.dfl.isEmpty && x.d.kwd.isEmpty && decide (x.d.at_.1 ≠ "") && x.po)) && decide (x.d.at_.2 = none)
/-- how its arguments come to its parameters -/
def BindP (d : He.DefD) (ps : List Str) : Prop := ∀ (kV doc pm : Value) (an : Option Addr) (cdv ct : Value) (us : List Value), us.length = ps.length → bindArgs (PySem.W.fnOf d.name d.qual d.params d.body d.scope .none kV doc pm an cdv ct) ⟨us, []⟩ = pure (ps.zip us)
/-- a form of a call: the name, how many places, which names, the def, its parameters -/
structure Kf where
  x : Str
  m : Nat
  ks : List Str
  k : Nat
  sel : List (Sum Nat D)
/-- values by a form -/
def pick {α : Type} (z : α) (xs : List α) (s : List (Sum Nat α)) : List α := s.map fun
  | .inl i => xs.getD i z
  | .inr a => a
inductive SelR (R : D → V → Prop) : List (Sum Nat D) → List (Sum Nat V) → Prop
  | nil : SelR R [] []
  | inl {i : Nat} {s : List (Sum Nat D)} {t : List (Sum Nat V)} : SelR R s t → SelR R (.inl i :: s) (.inl i :: t)
  | inr {d : D} {v : V} {s : List (Sum Nat D)} {t : List (Sum Nat V)} : R d v → SelR R s t → SelR R (.inr d :: s) (.inr v :: t)
inductive SelV : List (Sum Nat V) → List (Sum Nat Value) → Prop
  | nil : SelV [] []
  | inl {i : Nat} {s : List (Sum Nat V)} {t : List (Sum Nat Value)} : SelV s t → SelV (.inl i :: s) (.inl i :: t)
  | inr {v : V} {u : Value} {s : List (Sum Nat V)} {t : List (Sum Nat Value)} : RelV v u → SelV s t → SelV (.inr v :: s) (.inr u :: t)
theorem vals_at : ∀ {vs : List V} {us : List Value} (i : Nat), Vals vs us → RelV (vs.getD i .non) (us.getD i .none)
  | _, _, _, .nil => rfl
  | _, _, 0, .cons r _ => r
  | _, _, i + 1, .cons _ t => vals_at i t
theorem pick_vals {vs : List V} {us : List Value} (r : Vals vs us) : ∀ {s : List (Sum Nat V)} {t : List (Sum Nat Value)}, SelV s t → Vals (pick .non vs s) (pick .none us t)
  | _, _, .nil => .nil
  | _, _, .inl h => .cons (vals_at _ r) (pick_vals r h)
  | _, _, .inr q h => .cons q (pick_vals r h)
theorem pick_rep {Z : Zt} {M : Mu} {H : Hp} {ds : List D} {vs : List V} (r : RepL Z M H ds vs) : ∀ {s : List (Sum Nat D)} {t : List (Sum Nat V)} {o : List D}, SelR (fun d v => ∀ Z M H, Rep Z M H d v) s t → selL ds s = .ok o → RepL Z M H o (pick .non vs t)
  | _, _, o, .nil, e => by simp only [selL] at e; cases e; simp [pick, RepL]
  | .inl i :: s, .inl _ :: t, o, .inl h, e => by
    simp only [selL] at e
    split at e
    · rename_i d hd
      obtain ⟨q, e1, e⟩ := R.bind_is e
      cases e
      obtain ⟨v, h1, h2⟩ := r.get hd
      simp only [pick, List.map_cons, RepL]
      refine ⟨_, _, rfl, ?_, pick_rep r h e1⟩
      rw [List.getD_eq_getElem?_getD, h1]; exact h2
    · cases e
  | .inr d :: s, .inr v :: t, o, .inr q h, e => by
    simp only [selL] at e
    obtain ⟨q2, e1, e⟩ := R.bind_is e
    cases e
    simp only [pick, List.map_cons, RepL]
    exact ⟨_, _, rfl, q Z M H, pick_rep r h e1⟩
/-- a form fits a def -/
def KwP (d : He.DefD) (ps : List Str) (f : Kf) : Prop := ∀ (K : PySem.W.Frag) (a : Addr) (fd : FuncData), FunD K d.name d.qual d.params d.body d.scope (d.dvs K) (d.kws K) a fd →
  ∃ sV sU, SelR (fun d v => ∀ Z M H, Rep Z M H d v) f.sel sV ∧ SelV sV sU ∧ ∀ (s : Shared) (us ws : List Value), K.In s.heap → us.length = f.m → ws.length = f.ks.length → BindsTo s fd ⟨us, f.ks.zip ws⟩ (ps.zip (pick .none (us ++ ws) sU))
theorem kw_of {d : He.DefD} {ps : List Str} {f : Kf} (h : KwP d ps f) {K : PySem.W.Frag} {a : Addr} {fd : FuncData} (F : FunD K d.name d.qual d.params d.body d.scope (d.dvs K) (d.kws K) a fd) :
    ∃ g gV, KBn K fd ps f.m f.ks g gV ∧ ∀ Z M H ds es vs zs o, RepL Z M H ds vs → RepL Z M H es zs → ds.length = f.m → es.length = f.ks.length → selL (ds ++ es) f.sel = .ok o → RepL Z M H o (gV vs zs) := by
  obtain ⟨sV, sU, h1, h2, h3⟩ := h K a fd F
  exact ⟨fun us ws => pick .none (us ++ ws) sU, fun vs zs => pick .non (vs ++ zs) sV, ⟨h3, fun r1 r2 => pick_vals (r1.append r2) h2⟩, fun Z M H ds es vs zs o r1 r2 _ _ e => pick_rep (r1.append r2) h1 e⟩
/-- the program: defs, constants, tables, own errors, forms of calls, the def that hears -/
structure Pg where
  dfs : List Df
  cs : List (Str × D)
  ts : List (Str × List (Str × D))
  er : List (Er × Bool × Bool) := []
  kf : List Kf := []
  hn : Str := ""
  hi : Nat := 0
  file : Str := ""
def hrF (er : List (Er × Bool × Bool)) (c : Nat) (fs : List (Str × D)) : R D := match er[c]?, fs.lookup ("word" : Str), fs.lookup ("at" : Str) with
  | some e, some w, some t => .ok (Hx.tell e.2.1 e.2.2 w t)
  | _, _, _ => .bad
def Pg.hk (p : Pg) : Hk := ⟨p.dfs.map (·.d), p.dfs.map (·.d.at_.1), p.cs, p.ts, p.er, (p.dfs.filter (·.lam)).map fun x => (x.d.at_.1, x.d.qual), p.file⟩
def Pg.gt (p : Pg) : Gt := ⟨p.hk.cn, p.dfs.map fun x => bif x.po then x.d.at_.1 else "", p.kf.map fun f => (f.x, f.m, f.ks), p.er.map (·.1.x), p.hn, false⟩
def Pg.fs (p : Pg) : List Fn := p.dfs.map (·.fi)
def Pg.pz (p : Pg) (rp : Bool) : Pz := ⟨p.hk.cv, p.kf.map fun f => (f.k, f.sel), hrF p.er, fun k => (p.dfs[k]?).any (·.po), rp⟩
/-- the text of the def that hears -/
def HearP (p : Pg) : Prop := ∃ xh a pos, p.dfs[p.hi]? = some xh ∧ xh.d.name = p.hn ∧ xh.d.qual = p.hn ∧ xh.d.at_ = (p.hn, none) ∧ xh.d.body = Hx.hB a pos ∧ xh.d.dfl = [] ∧ xh.d.kwd = [] ∧ scB [a, "failure"] [a] xh.d.scope = true ∧
  (xh.d.scope.names.lookup a = some .local ∧ xh.d.scope.names.lookup ("failure" : Str) = some .local ∧ xh.d.scope.names.lookup ("ForkError" : Str) = some .globalImplicit ∧ xh.d.scope.names.lookup ("InvalidPaper" : Str) = some .globalImplicit ∧
      xh.d.scope.names.lookup ("NotUsable" : Str) = some .globalImplicit ∧ xh.d.scope.names.lookup ("isinstance" : Str) = some .globalImplicit) ∧ (p.hn == ("__debug__" : Str)) = false ∧ (a == ("__debug__" : Str)) = false ∧ (a == ("__classdict__" : Str)) = false ∧ BindP xh.d [a] ∧ p.er ≠ []
def erL (e : Er × Bool × Bool) : Bool := e.1.p.c.endLine == e.1.p.f.line
def Pg.ok (p : Pg) : Bool := p.dfs.all (Df.ok p.gt) && p.er.all erL
structure Pg.Txt (p : Pg) (P : Program) : Prop where
  ok : p.ok = true
  bd : ∀ (i : Nat) x, p.dfs[i]? = some x → x.po = true → x.fi.st = false → BindP x.d x.ps
  bs : ∀ (i : Nat) x, p.dfs[i]? = some x → x.fi.st = true → ∃ qs pv, x.ps = qs ++ [pv] ∧ BindS (x.d.name, x.d.qual, x.d.params, x.d.body, x.d.scope) qs pv
  kw : ∀ (q : Nat) f, p.kf[q]? = some f → ∃ x, p.dfs[f.k]? = some x ∧ x.d.at_.1 = f.x ∧ x.fi.st = false ∧ KwP x.d x.ps f
  he : (∃ x ∈ p.dfs, x.lam = true) → HearP p
  file : P.main.file = p.file
  top : (P.main.scope.names.lookup ("super" : Str)).isSome = false
abbrev Pg.call (p : Pg) : Nat → Nat → List Sl → R (D × Bool × List D) := callN p.fs (p.pz true)

section
variable {p : Pg} {w : World} {K : PySem.W.Frag} {h : Heap} {mg : Str → Option Value} {P : Program} {base : Heap}
theorem ok_at (ok : p.ok = true) {i : Nat} {x : Df} (hi : p.dfs[i]? = some x) : Df.ok p.gt x = true := by
  simp only [Pg.ok, Bool.and_eq_true] at ok
  exact List.all_eq_true.mp ok.1 x (List.mem_of_getElem? hi)
theorem pg_at (ok : p.ok = true) {i : Nat} {x : Df} (hi : p.dfs[i]? = some x) : He.fAd K x.d.at_ = p.hk.fa K i := by
  have hx := ok_at ok hi
  simp only [Df.ok, Bool.and_eq_true, decide_eq_true_eq] at hx
  unfold He.fAd
  rw [hx.2]
  show He.ga K x.d.at_.1 = He.ga K ((p.dfs.map (·.d.at_.1)).getD i "")
  rw [List.getD_eq_getElem?_getD, List.getElem?_map, hi]; rfl
theorem pg_fun (ok : p.ok = true) (c : obsI p.hk K = valI p.hk w) {i : Nat} {x : Df} (hi : p.dfs[i]? = some x) : ∃ fd, FunD K x.d.name x.d.qual x.d.params x.d.body x.d.scope (x.d.dvs K) (x.d.kws K) (p.hk.fa K i) fd := by
  have hd : p.hk.fn[i]? = some x.d := by
    show (p.dfs.map (·.d))[i]? = _
    rw [List.getElem?_map, hi]; rfl
  obtain ⟨fd, F⟩ := says_fn c hd
  rw [pg_at ok hi] at F
  exact ⟨fd, F⟩
theorem nil_dvs {d : He.DefD} (h : d.dfl = []) : d.dvs K = [] := by unfold He.DefD.dvs; rw [h]; rfl
theorem nil_kws {d : He.DefD} (h : d.kwd = []) : d.kws K = [] := by unfold He.DefD.kws; rw [h]; rfl
theorem pg_binds (T : p.Txt P) {i : Nat} {x : Df} (hi : p.dfs[i]? = some x) (hp : x.po = true) (hs : x.fi.st = false) {a : Addr} {fd : FuncData} (F : FunD K x.d.name x.d.qual x.d.params x.d.body x.d.scope (x.d.dvs K) (x.d.kws K) a fd) : Binds K fd x.ps [] ∧ ∀ (s : Shared) (us : List Value), us.length = x.ps.length → BindsTo s fd ⟨us, []⟩ (x.ps.zip us) := by
  have hx := ok_at T.ok hi
  simp only [Df.ok, Bool.and_eq_true, decide_eq_true_eq, Bool.or_eq_true, Bool.not_eq_true'] at hx
  rcases hx.1.2 with z | z
  · rw [hp] at z; cases z
  · rw [nil_dvs (List.isEmpty_iff.mp z.1.1.1), nil_kws (List.isEmpty_iff.mp z.1.1.2)] at F
    exact ⟨F.bindsN (T.bd i x hi hp hs), F.bindsA (T.bd i x hi hp hs)⟩
theorem no_sp {Z : Zt} {fn : List Sl → R (D × Bool × List D)} {fx : List Sl → R (Nat × List (Str × D))} (h1 : ∀ as, fn as = .bad) (h2 : ∀ as, fx as = .bad) : ∀ vs H Q E, ¬ spF Z fn fx vs H Q E := fun vs H Q E ⟨_, _, _, _, _, _, _, alt⟩ => by
  rcases alt with ⟨_, _, _, e, _⟩ | ⟨_, _, e, _⟩
  · rw [h1] at e; cases e
  · rw [h2] at e; cases e
theorem code_ref {cd : Value} {q : Str} (h : PySem.W.codeIn K cd q = true) : ∃ c, cd = .ref c := by
  unfold PySem.W.codeIn at h
  split at h
  · exact ⟨_, rfl⟩
  · cases h
/-- what is proved of a def at a level -/
def At (p : Pg) (P : Program) (w : World) (K : PySem.W.Frag) (mg : Str → Option Value) (base : Heap) (n : Nat) : Prop := ∀ (rp : Bool) (i : Nat) (x : Df) (fd : FuncData), p.dfs[i]? = some x → FunD K x.d.name x.d.qual x.d.params x.d.body x.d.scope (x.d.dvs K) (x.d.kws K) (p.hk.fa K i) fd →
  (x.fi.st = false → FnB rp P w K mg base (L2.CX P w) n (p.hk.fa K i) fd x.ps (spF (.mk' w K mg (p.hk.fa K)) ((prN p.fs (p.pz rp) n).fn i) ((prN p.fs (p.pz rp) n).fx i))) ∧
  (x.po = true → FnP rp P w K mg base (L2.CX P w) n (p.hk.fa K i) (spF (.mk' w K mg (p.hk.fa K)) ((prN p.fs (p.pz rp) n).fn i) ((prN p.fs (p.pz rp) n).fx i)))
theorem pg_ok (T : p.Txt P) (X : K.In h) (G : h.Ns mainGlobals mg) (S : Says p.hk w h K) (tb : ∀ q ∈ lmD p.hk, LamX.TabB base mg (He.cT K q).1 (He.cT K q).2) : ∀ n : Nat, At p P w K mg base n := by
  intro n
  induction n using Nat.strongRecOn with
  | _ n ih =>
  intro rp i x fd hi F
  have c := S.obs
  cases n with
  | zero => exact ⟨fun _ => ⟨fun vs H Q E z => absurd z (no_sp (fun _ => rfl) (fun _ => rfl) vs H Q E), fun A outer s H args us vs Q E _ _ _ _ _ z => absurd z (no_sp (fun _ => rfl) (fun _ => rfl) vs H Q E)⟩, fun _ A outer s H us vs Q E _ _ _ _ z => absurd z (no_sp (fun _ => rfl) (fun _ => rfl) vs H Q E)⟩
  | succ n =>
    have hx := ok_at T.ok hi
    simp only [Df.ok, Bool.and_eq_true, decide_eq_true_eq] at hx
    obtain ⟨⟨⟨⟨⟨h1, h2⟩, h3⟩, h4⟩, h5⟩, h6⟩ := hx
    have hf : p.fs[i]? = some x.fi := by
      show (p.dfs.map (·.fi))[i]? = _
      rw [List.getElem?_map, hi]; rfl
    have ef : (prN p.fs (p.pz rp) (n + 1)).fn i = fun as => run (prN p.fs (p.pz rp) n) x.fi (pack x.fi as) := by
      funext as
      show (match p.fs[i]? with | some f => run (prN p.fs (p.pz rp) n) f (pack f as) | none => .bad) = _
      rw [hf]
    have ex : (prN p.fs (p.pz rp) (n + 1)).fx i = fun as => runX (prN p.fs (p.pz rp) n) x.fi (pack x.fi as) := by
      funext as
      show (match p.fs[i]? with | some f => runX (prN p.fs (p.pz rp) n) f (pack f as) | none => .bad) = _
      rw [hf]
    rw [ef, ex]
    have cs0 : ∀ r m, (prN p.fs (p.pz r) m).cs = p.hk.cv := fun r m => by cases m <;> rfl
    have kw0 : ∀ r m, (prN p.fs (p.pz r) m).kw = p.kf.map fun f => (f.k, f.sel) := fun r m => by cases m <;> rfl
    have hr0 : ∀ r m, (prN p.fs (p.pz r) m).hr = hrF p.er := fun r m => by cases m <;> rfl
    have po0 : ∀ r m, (prN p.fs (p.pz r) m).po = fun k => (p.dfs[k]?).any (·.po) := fun r m => by cases m <;> rfl
    have rp0 : ∀ r m, (prN p.fs (p.pz r) m).rp = r := fun r m => by cases m <;> rfl
    have kwl : ∀ r m, m < n + 1 → ∀ (q : Nat) y ml ks k sel, (p.kf.map fun f => (f.x, f.m, f.ks))[q]? = some (y, ml, ks) → (p.kf.map fun f => (f.k, f.sel))[q]? = some (k, sel) → KwO r P w K mg base (p.hk.fa K) y ml ks k sel m ((prN p.fs (p.pz r) m).fn k) ((prN p.fs (p.pz r) m).fx k) := fun r m hm q y ml ks k sel e1 e2 => by
      rw [List.getElem?_map] at e1 e2
      cases hq : p.kf[q]? with
      | none => rw [hq] at e1; cases e1
      | some f =>
        rw [hq] at e1 e2
        simp only [Option.map_some, Option.some.injEq, Prod.mk.injEq] at e1 e2
        obtain ⟨rfl, rfl, rfl⟩ := e1
        obtain ⟨rfl, rfl⟩ := e2
        obtain ⟨z, hz, hn, hst, kp⟩ := T.kw q f hq
        obtain ⟨fd2, F2⟩ := pg_fun T.ok c hz
        obtain ⟨g, gV, hb, hs⟩ := kw_of kp F2
        have hnm : p.hk.nm[f.k]? = some f.x := by
          show (p.dfs.map (·.d.at_.1))[f.k]? = _
          rw [List.getElem?_map, hz, ← hn]; rfl
        exact ⟨says_nm X G c hnm, F2.kp, fd2, z.ps, g, gV, hb, hs _, (ih m hm r f.k z fd2 hz F2).1 hst⟩
    have env := says_env X G c
    have L : Lv P w K mg base (p.hk.fa K) { p.gt with lam := x.lam } (prN p.fs (p.pz rp) n) n := by
      refine ⟨env.1, fun j y d e1 e2 => env.2 j y d e1 (by rw [← cs0 rp n]; exact e2), fun k y hy hne => ?_, fun k hk => ?_, fun q y ml ks k sel e1 e2 => ?_, ?_, fun ci y hy => ?_⟩
      · have hy3 : (p.dfs.map fun x => bif x.po then x.d.at_.1 else ("" : Str))[k]? = some y := hy
        rw [List.getElem?_map] at hy3
        cases hz : p.dfs[k]? with
        | none => rw [hz] at hy3; cases hy3
        | some z =>
          rw [hz] at hy3
          simp only [Option.map_some, Option.some.injEq] at hy3
          cases hpo : z.po with
          | false => rw [hpo] at hy3; exact absurd hy3.symm hne
          | true =>
            rw [hpo] at hy3
            simp only [cond_true] at hy3
            obtain ⟨fd2, F2⟩ := pg_fun T.ok c hz
            have hnm : p.hk.nm[k]? = some y := by
              show (p.dfs.map (·.d.at_.1))[k]? = _
              rw [List.getElem?_map, hz, ← hy3]; rfl
            exact ⟨says_nm X G c hnm, F2.kp, by rw [rp0]; exact (ih n (Nat.lt_succ_self n) rp k z fd2 hz F2).2 hpo⟩
      · rw [po0] at hk
        cases hz : p.dfs[k]? with
        | none => simp [hz] at hk
        | some z =>
          have hpo : z.po = true := by simpa [hz] using hk
          have hxz := ok_at T.ok hz
          simp only [Df.ok, Bool.and_eq_true, decide_eq_true_eq, Bool.or_eq_true, Bool.not_eq_true'] at hxz
          refine ⟨z.d.at_.1, ?_, ?_⟩
          · show (p.dfs.map fun x => bif x.po then x.d.at_.1 else ("" : Str))[k]? = _
            rw [List.getElem?_map, hz, Option.map_some, hpo]; rfl
          · rcases hxz.1.2 with q | q
            · rw [hpo] at q; cases q
            · exact q.1.2
      · rw [rp0]
        exact kwl rp n (Nat.lt_succ_self n) q y ml ks k sel e1 (by rw [← kw0 rp n]; exact e2)
      · match n, ih, kwl with
        | 0, _, _ => exact .inl fun _ _ => ⟨rfl, rfl⟩
        | 1, _, _ => exact .inl fun _ _ => ⟨rfl, rfl⟩
        | m + 2, _, kwl => exact .inr ⟨m, rfl, fun q y ml ks k sel e1 e2 => kwl false m (by omega) q y ml ks k sel e1 e2⟩
      · have hy2 : (p.er.map (·.1.x))[ci]? = some y := hy
        rw [List.getElem?_map] at hy2
        cases hz : p.er[ci]? with
        | none => rw [hz] at hy2; cases hy2
        | some e =>
          rw [hz] at hy2
          simp only [Option.map_some, Option.some.injEq] at hy2
          subst hy2
          obtain ⟨a1, a2, a3, a4, a5, a6, _⟩ := says_er (k := p.hk) X G c hz
          have hl := T.ok
          simp only [Pg.ok, Bool.and_eq_true] at hl
          have hl2 := List.all_eq_true.mp hl.2 e (List.mem_of_getElem? hz)
          refine ⟨He.ma K (He.ga K e.1.x) "__init__", ?_⟩
          rw [a1]
          exact nu_is a4 (by rw [T.file]; exact a5) a6 a2 a3 T.top hl2
    have lm : x.lam = true → (∃ c T, fd.code = .ref c ∧ LamX.TabB base mg c T ∧ (T, lamQ x.d.qual) ∈ (p.hk.fa K).tb ∧ ∀ q ∈ (p.hk.fa K).tb, q.1 = T → q.2 = lamQ x.d.qual) ∧ HearTxt P K mg (p.hk.fa K) p.hn (prN p.fs (p.pz rp) n).hr := by
      intro hl'
      have hmem : (x.d.at_.1, x.d.qual) ∈ p.hk.lm := List.mem_map.mpr ⟨x, List.mem_filter.mpr ⟨List.mem_of_getElem? hi, hl'⟩, rfl⟩
      have hmd : (x.d.at_.1, none) ∈ lmD p.hk := List.mem_map.mpr ⟨_, hmem, rfl⟩
      refine ⟨?_, ⟨⟨?_⟩⟩⟩
      · obtain ⟨oc, od, dV, kV, doc, pm, an, cdv, ct, osl, e0, lk, hcd, _, _⟩ := F.ex
        obtain ⟨cc, rfl⟩ := code_ref hcd
        have hat : He.fAd K (x.d.at_.1, none) = p.hk.fa K i := by
          rw [← pg_at T.ok hi]
          congr 1
          rw [← h6]
        have ec : He.codeOf K (x.d.at_.1, none) = cc := He.codeOf_eq (by rw [hat]; exact lk) (by rw [e0])
        have e1 : (He.cT K (x.d.at_.1, none)).1 = cc := ec
        refine ⟨cc, (He.cT K (x.d.at_.1, none)).2, by rw [e0], ?_, ?_, fun q hq eq => ?_⟩
        · have := tb _ hmd
          rw [e1] at this; exact this
        · exact List.mem_map.mpr ⟨_, hmem, rfl⟩
        · have nd := says_all c
          simp only [allB, Bool.and_eq_true, decide_eq_true_eq] at nd
          have nd := nd.2
          have hq : q ∈ tbA p.hk K := hq
          have hme : ((He.cT K (x.d.at_.1, none)).2, lamQ x.d.qual) ∈ tbA p.hk K := List.mem_map.mpr ⟨_, hmem, rfl⟩
          have key : ∀ (l : List (Addr × Str)), (l.map (·.1)).Nodup → ∀ a b, a ∈ l → b ∈ l → a.1 = b.1 → a = b := fun l => by
            induction l with
            | nil => intro _ a b ha; cases ha
            | cons z l ihl =>
              intro hn a b ha hb e
              simp only [List.map_cons, List.nodup_cons] at hn
              rcases List.mem_cons.mp ha with za | ha1 <;> rcases List.mem_cons.mp hb with zb | hb1
              · rw [za, zb]
              · exact absurd (show z.1 ∈ l.map (·.1) from List.mem_map.mpr ⟨b, hb1, by rw [← za]; exact e.symm⟩) hn.1
              · exact absurd (show z.1 ∈ l.map (·.1) from List.mem_map.mpr ⟨a, ha1, by rw [← zb]; exact e⟩) hn.1
              · exact ihl hn.2 a b ha1 hb1 e
          have := key _ nd q _ hq hme eq
          rw [this]
      · obtain ⟨xh, a, ps, b1, b2, b3, b4, b5, b6, b7, b8, b9, b10, b11, b12, b13, b14⟩ := T.he ⟨x, List.mem_of_getElem? hi, hl'⟩
        obtain ⟨fd2, F2⟩ := pg_fun T.ok c b1
        rw [nil_dvs b6, nil_kws b7, b2, b3, b5] at F2
        have hnm : p.hk.nm[p.hi]? = some p.hn := by
          show (p.dfs.map (·.d.at_.1))[p.hi]? = _
          rw [List.getElem?_map, b1, Option.map_some, b4]
        have hbd : Binds K fd2 [a] [] := by
          refine F2.bindsN fun kV doc pm an cdv ct us hu => ?_
          have := b13 kV doc pm an cdv ct us hu
          rw [b2, b3, b5] at this; exact this
        cases her : p.er with
        | nil => exact absurd her b14
        | cons e0 er' =>
          obtain ⟨_, _, _, _, _, _, zl⟩ := says_er (k := p.hk) (i := 0) (e := e0) X G c (by show p.er[0]? = _; rw [her]; rfl)
          obtain ⟨_, cf, cp, cn⟩ := zl (fun z => by rw [z] at hmem; cases hmem)
          refine ⟨_, _, _, _, _, a, _, ps, fd2, F2, says_nm X G c hnm, scB_ok b8, hbd, b9, b10, b11, b12, ⟨cf, cp, cn, env.1 _ (by decide +kernel)⟩, fun ci fs d hd => ?_⟩
          rw [hr0] at hd
          unfold hrF at hd
          split at hd
          · rename_i e wv tv he hw ht
            cases hd
            obtain ⟨a1, _, _, _, _, _, zl2⟩ := says_er (k := p.hk) X G c he
            obtain ⟨of, _⟩ := zl2 (fun z => by rw [z] at hmem; cases hmem)
            exact ⟨_, _, wv, tv, by rw [a1]; exact of, hw, ht, rfl⟩
          · cases hd
    have fb : x.fi.st = false → FnB rp P w K mg base (L2.CX P w) (n + 1) (p.hk.fa K i) fd x.ps (spF (.mk' w K mg (p.hk.fa K)) (fun as => run (prN p.fs (p.pz rp) n) x.fi (pack x.fi as)) (fun as => runX (prN p.fs (p.pz rp) n) x.fi (pack x.fi as))) := fun hs => by
      have e : ∀ as, pack x.fi as = as := fun as => by unfold pack; rw [hs]; rfl
      simp only [e]
      have := fn_ok (Γ := { p.gt with lam := x.lam }) F (scB_ok h2) h1 h3 h4 L lm
      rw [rp0] at this
      exact this
    refine ⟨fb, fun hpo => ?_⟩
    cases hs : x.fi.st with
    | false => exact (fb hs).at (pg_binds T hi hpo hs F).1
    | true =>
      obtain ⟨qs, pv, he, hb⟩ := T.bs i x hi hs
      have hd : x.d.dvs K = [] ∧ x.d.kws K = [] := by
        simp only [Bool.or_eq_true, Bool.not_eq_true', Bool.and_eq_true] at h5
        rcases h5 with z | z
        · rw [hpo] at z; cases z
        · exact ⟨nil_dvs (List.isEmpty_iff.mp z.1.1.1), nil_kws (List.isEmpty_iff.mp z.1.1.2)⟩
      rw [hd.1, hd.2] at F
      have := fn_st (Γ := { p.gt with lam := x.lam }) F he (scB_ok h2) h1 h3 h4 hs hb L lm
      rw [rp0] at this
      exact this

end
/-- THE END: a law holds if its term gives True -/
theorem walk_iq {l : PySem.W.OpenLaw} {q : Program} {loose : List Str} {XP : (Str → Option Value) → Heap → Prop} {dr : DefRec} {p : Pg} {n i m dn : Nat} {x : Str} {df : Df} (hm : l.most = some m) (hm2 : m ≤ sizeLine) (hdf : dr.params.defaults = []) (hr : Room n callerA)
    (T : p.Txt l.prog) (hi : p.dfs[i]? = some df) (hpo : df.po = true) (hx : df.ps = [x]) (hn : dr.name = df.d.at_.1)
    (pure_ : ∀ ns : List Int, ns.length ≤ m → ∃ fr, p.call n i [.shr (.lst (ns.map .int))] = .ok (.bl true, fr, [])) :
    PySem.W.WalkO q loose XP (hookI dn p.hk).says l.row.toRowW dr [] (fun f vs => PySem.call f vs) := by
  refine walk_gz (CX := fun w => L2.CX l.prog w) hm hm2 hdf hr (fun w mg fa h ⟨K, S⟩ G hmg => ?_) fun w H s e s' ⟨_, _, _, _, _, _, _, _, _, _, _, _, z⟩ => z
  have X := S.kin
  obtain ⟨fd, F⟩ := pg_fun T.ok S.obs hi
  have hnm : p.hk.nm[i]? = some df.d.at_.1 := by
    show (p.dfs.map (·.d.at_.1))[i]? = _
    rw [List.getElem?_map, hi]; rfl
  have e := says_nm X G S.obs hnm
  rw [hn, e] at hmg
  obtain rfl : faOf K p.hk.nm i = fa := by injection hmg with z; injection z
  have mem : ∀ q ∈ (lmD p.hk).map (He.cT K), ∃ d ∈ lmD p.hk, q = He.cT K d := fun q hq => let ⟨d, h1, h2⟩ := List.mem_map.mp hq; ⟨d, h1, h2.symm⟩
  refine ⟨K, (lmD p.hk).map (He.cT K), spF (.mk' w K mg (p.hk.fa K)) ((prN p.fs (p.pz true) n).fn i) ((prN p.fs (p.pz true) n).fx i), X, S.nol, fun q hq => ?_, fun q hq => ?_, fun q hq => ?_, fun H a ns hl _ hT hS => ?_, fun base KX GX TB => ?_⟩
  · obtain ⟨d, h1, rfl⟩ := mem q hq
    exact S.emp d h1
  · obtain ⟨d, h1, rfl⟩ := mem q hq
    exact S.out d h1
  · obtain ⟨d, h1, rfl⟩ := mem q hq
    exact PySem.W.codeHd_of_K X (S.hd d h1)
  · obtain ⟨fr, ep⟩ := pure_ ns hl
    have rep : ∀ ns : List Int, RepL (.mk' w K mg (p.hk.fa K)) (fun _ => False) H (ns.map .int) (ns.map V.int) := by
      intro ns
      induction ns with
      | nil => simp only [List.map_nil, RepL]
      | cons n ns ih => simp only [List.map_cons, RepL]; exact ⟨_, _, rfl, rep_int, ih⟩
    have hrep : Rep (.mk' w K mg (p.hk.fa K)) (fun _ => False) H (.lst (ns.map .int)) (.ref a) := by
      simp only [Rep]
      exact ⟨a, _, rfl, ⟨hS, fun z => z⟩, rep ns⟩
    have tabs : LamX.Tabs (p.hk.fa K).tb H := fun q hq => by
      have hq : q ∈ tbA p.hk K := hq
      obtain ⟨z, h1, rfl⟩ := List.mem_map.mp hq
      exact LamX.TabS.nil (hT _ (List.mem_map.mpr ⟨_, List.mem_map.mpr ⟨z, h1, rfl⟩, rfl⟩))
    refine ⟨fun _ => False, [.shr (.lst (ns.map .int))], [], ⟨.ref a, [], rfl, hrep, rfl, rfl⟩, List.nodup_nil, fun _ z => z.elim, ⟨tabs⟩, .inl ⟨_, fr, [], ep, fun v H' cl => ?_⟩⟩
    have := cl.r
    simpa only [Rep] using this
  · exact (pg_ok (P := l.prog) (base := base) T X G S (fun q hq => TB _ (List.mem_map.mpr ⟨q, hq, rfl⟩)) n true i df fd hi F).2 hpo
end Iq
set_option Elab.async false
set_option linter.all false
set_option maxRecDepth 100000
set_option maxHeartbeats 4000000
namespace Iq
open PySem L2
theorem evE_comp {P : Pr} {e : Ex} {t : Tg} {k : Ik} {ss : List Ex} {c : Option Tx} {ς : List Sl} : evE P (.comp e t k ss c) ς = (evL P ss ς).bind fun r => (walk k r.1).bind fun xs => bif (tgS t).any (isOwn r.2) then .bad else (lcGo (evQ P c) (evE P e) t xs r.2).bind fun z => .ok (.lst z.1, true, backS r.2 (tgS t) z.2) := by
  rw [evE]
theorem ev_nx {P : Pr} {s : Sm} {ss : List Sm} {ς ς1 : List Sl} {r : R (Fl × List Sl)} (h : evS P s ς = .ok (.nx, ς1)) (k : evB P ss ς1 = r) : evB P (s :: ss) ς = r := by
  simp only [evB, h, R.bind_ok, k]
theorem ev_rt {P : Pr} {s : Sm} {ss : List Sm} {ς ς1 : List Sl} {d : D} {fr : Bool} (h : evS P s ς = .ok (.rt d fr, ς1)) : evB P (s :: ss) ς = .ok (.rt d fr, ς1) := by
  simp only [evB, h, R.bind_ok]
theorem mod_ok {i j : Int} (h : 0 < j) : binD .Mod (.int i) (.int j) = .ok (.int (i % j), false) := by simp only [binD, h, if_true]
theorem div_ok {i j : Int} (h : 0 < j) (h2 : j < 1073741824) : binD .FloorDiv (.int i) (.int j) = .ok (.int (i / j), false) := by simp only [binD, h, h2, and_self, if_true]
theorem mul_ok1 {i j : Int} (h : -(2 ^ 64) < i) (h2 : i < 2 ^ 64) : binD .Mult (.int i) (.int j) = .ok (.int (i * j), false) := by
  simp only [binD, h, h2, decide_true, Bool.and_self, Bool.true_or, if_true]
theorem mul_ok2 {i j : Int} (h : -(2 ^ 64) < j) (h2 : j < 2 ^ 64) : binD .Mult (.int i) (.int j) = .ok (.int (i * j), false) := by
  simp only [binD, h, h2, decide_true, Bool.and_self, Bool.or_true, if_true]
theorem add_ok {i j : Int} : binD .Add (.int i) (.int j) = .ok (.int (i + j), false) := rfl
/-! ### comprehensions and loops -/
section
variable {tst : List Sl → R (Bool × List Sl)} {el : List Sl → R (D × Bool × List Sl)} {t : Tg} {Inv : List Sl → Prop} {body : List Sl → R (Fl × List Sl)}
theorem lc_sat {Pd : D → Prop} : ∀ (xs : List D) (ς : List Sl), Inv ς →
    (∀ x ∈ xs, ∀ ς, Inv ς → ∃ ς1 b ς2, bindT t x (wipeS ς (tgS t)) = .ok ς1 ∧ tst ς1 = .ok (b, ς2) ∧ (b = false → Inv ς2) ∧ (b = true → ∃ d fr ς3, el ς2 = .ok (d, fr, ς3) ∧ Pd d ∧ Inv ς3)) →
    ∃ ds ς', lcGo tst el t xs ς = .ok (ds, ς') ∧ (∀ d ∈ ds, Pd d) ∧ ds.length ≤ xs.length ∧ Inv ς'
  | [], ς, h, _ => ⟨[], ς, rfl, by simp, by simp, h⟩
  | x :: xs, ς, h, st => by
    obtain ⟨ς1, b, ς2, e1, e2, g1, g2⟩ := st x (by simp) ς h
    cases b with
    | false =>
      obtain ⟨ds, ς', e3, p, l, i⟩ := lc_sat xs ς2 (g1 rfl) fun y hy => st y (List.mem_cons_of_mem _ hy)
      exact ⟨ds, ς', by simp only [lcGo, e1, R.bind_ok, e2, cond_false, e3], p, by simp; omega, i⟩
    | true =>
      obtain ⟨d, fr, ς3, e3, pd, i3⟩ := g2 rfl
      obtain ⟨ds, ς', e4, p, l, i⟩ := lc_sat xs ς3 i3 fun y hy => st y (List.mem_cons_of_mem _ hy)
      refine ⟨d :: ds, ς', by simp only [lcGo, e1, R.bind_ok, e2, cond_true, e3, e4], ?_, by simp; omega, i⟩
      intro z hz
      rcases List.mem_cons.mp hz with rfl | hz
      · exact pd
      · exact p z hz
theorem lc_all {Pd : D → Prop} : ∀ (xs : List D) (ς : List Sl), Inv ς →
    (∀ x ∈ xs, ∀ ς, Inv ς → ∃ ς1 ς2, bindT t x (wipeS ς (tgS t)) = .ok ς1 ∧ tst ς1 = .ok (true, ς2) ∧ ∃ d fr ς3, el ς2 = .ok (d, fr, ς3) ∧ Pd d ∧ Inv ς3) →
    ∃ ds ς', lcGo tst el t xs ς = .ok (ds, ς') ∧ (∀ d ∈ ds, Pd d) ∧ ds.length = xs.length ∧ Inv ς'
  | [], ς, h, _ => ⟨[], ς, rfl, by simp, by simp, h⟩
  | x :: xs, ς, h, st => by
    obtain ⟨ς1, ς2, e1, e2, d, fr, ς3, e3, pd, i3⟩ := st x (by simp) ς h
    obtain ⟨ds, ς', e4, p, l, i⟩ := lc_all xs ς3 i3 fun y hy => st y (List.mem_cons_of_mem _ hy)
    refine ⟨d :: ds, ς', by simp only [lcGo, e1, R.bind_ok, e2, cond_true, e3, e4], ?_, by simp; omega, i⟩
    intro z hz
    rcases List.mem_cons.mp hz with rfl | hz
    · exact pd
    · exact p z hz
theorem lc_fm {p : D → Bool} {g : D → D} : ∀ (xs : List D) (ς : List Sl), Inv ς →
    (∀ x ∈ xs, ∀ ς, Inv ς → ∃ ς1 ς2, bindT t x (wipeS ς (tgS t)) = .ok ς1 ∧ tst ς1 = .ok (p x, ς2) ∧ (p x = false → Inv ς2) ∧ (p x = true → ∃ fr ς3, el ς2 = .ok (g x, fr, ς3) ∧ Inv ς3)) →
    ∃ ς', lcGo tst el t xs ς = .ok ((xs.filter p).map g, ς') ∧ Inv ς'
  | [], ς, h, _ => ⟨ς, rfl, h⟩
  | x :: xs, ς, h, st => by
    obtain ⟨ς1, ς2, e1, e2, g1, g2⟩ := st x (by simp) ς h
    cases b : p x with
    | false =>
      obtain ⟨ς', e3, i⟩ := lc_fm xs ς2 (g1 b) fun y hy => st y (List.mem_cons_of_mem _ hy)
      exact ⟨ς', by simp only [lcGo, e1, R.bind_ok, e2, b, cond_false, e3, List.filter_cons, Bool.false_eq_true, if_false], i⟩
    | true =>
      obtain ⟨fr, ς3, e3, i3⟩ := g2 b
      obtain ⟨ς', e4, i⟩ := lc_fm xs ς3 i3 fun y hy => st y (List.mem_cons_of_mem _ hy)
      exact ⟨ς', by simp only [lcGo, e1, R.bind_ok, e2, b, cond_true, e3, e4, List.filter_cons, if_true, List.map_cons], i⟩
theorem for_sat {Iv : Nat → List Sl → Prop} : ∀ (xs : List D) (i : Nat) (ς : List Sl), Iv i ς →
    (∀ x ∈ xs, ∀ i ς, Iv i ς → ∃ ς1 ς2, bindT t x ς = .ok ς1 ∧ body ς1 = .ok (.nx, ς2) ∧ Iv (i + 1) ς2) → ∃ ς', forGo t body xs ς = .ok (.nx, ς') ∧ Iv (i + xs.length) ς'
  | [], i, ς, h, _ => ⟨ς, rfl, h⟩
  | x :: xs, i, ς, h, st => by
    obtain ⟨ς1, ς2, e1, e2, g⟩ := st x (by simp) i ς h
    obtain ⟨ς', e3, i'⟩ := for_sat xs (i + 1) ς2 g fun y hy => st y (List.mem_cons_of_mem _ hy)
    refine ⟨ς', by simp only [forGo, e1, R.bind_ok, e2, e3], ?_⟩
    have : i + 1 + xs.length = i + (x :: xs).length := by simp; omega
    rw [← this]; exact i'
end

theorem ev_comp {P : Pr} {e : Ex} {t : Tg} {k : Ik} {ss : List Ex} {c : Option Tx} {ς ς1 ς2 : List Sl} {rs xs ds : List D} (e1 : evL P ss ς = .ok (rs, ς1)) (e2 : walk k rs = .ok xs) (e3 : (tgS t).any (isOwn ς1) = false) (e4 : lcGo (evQ P c) (evE P e) t xs ς1 = .ok (ds, ς2)) :
    evE P (.comp e t k ss c) ς = .ok (.lst ds, true, backS ς1 (tgS t) ς2) := by
  simp only [evE_comp, e1, R.bind_ok, e2, e3, cond_false, e4]

theorem at_some {α : Type} {xs : List α} {r : Int} (h1 : 0 ≤ r) (h2 : r < (xs.length : Nat)) : ∃ y ∈ xs, atI xs r = some y := by
  have h : (r.toNat : Nat) < xs.length := by omega
  refine ⟨xs[r.toNat], List.getElem_mem h, ?_⟩
  unfold atI ixN
  simp [h1, h2, h]
/-! ### small data -/
def okS (l : Nat) (x : Str) : Bool := decide (x.length ≤ l) && PyData.strOk x
def okB (l : Nat) : Nat → D → Bool
  | _, .non => true
  | _, .bl _ => true
  | _, .int _ => true
  | _, .str x => okS l x
  | k + 1, .tup xs => decide (xs.length ≤ l) && xs.all (okB l k)
  | k + 1, .lst xs => decide (xs.length ≤ l) && xs.all (okB l k)
  | _, _ => false
theorem okS_mono {l l' : Nat} {x : Str} (h : okS l x = true) (hl : l ≤ l') : okS l' x = true := by
  simp only [okS, Bool.and_eq_true, decide_eq_true_eq] at h ⊢
  exact ⟨by omega, h.2⟩
theorem okB_mono {l l' : Nat} (hl : l ≤ l') : ∀ {k k' : Nat} {d : D}, k ≤ k' → okB l k d = true → okB l' k' d = true
  | _, _, .non, _, _ => by simp only [okB]
  | _, _, .bl _, _, _ => by simp only [okB]
  | _, _, .int _, _, _ => by simp only [okB]
  | _, _, .str x, _, h => by simp only [okB] at h ⊢; exact okS_mono h hl
  | 0, _, .tup _, _, h => by simp only [okB] at h; cases h
  | 0, _, .lst _, _, h => by simp only [okB] at h; cases h
  | k + 1, 0, .tup _, hk, _ => by omega
  | k + 1, 0, .lst _, hk, _ => by omega
  | k + 1, k' + 1, .tup xs, hk, h => by
    simp only [okB, Bool.and_eq_true, decide_eq_true_eq, List.all_eq_true] at h ⊢
    exact ⟨by omega, fun x hx => okB_mono hl (by omega) (h.2 x hx)⟩
  | k + 1, k' + 1, .lst xs, hk, h => by
    simp only [okB, Bool.and_eq_true, decide_eq_true_eq, List.all_eq_true] at h ⊢
    exact ⟨by omega, fun x hx => okB_mono hl (by omega) (h.2 x hx)⟩
  | 0, _, .dic _, _, h => by simp only [okB] at h; cases h
  | _ + 1, _, .dic _, _, h => by simp only [okB] at h; cases h
  | 0, _, .fn _, _, h => by simp only [okB] at h; cases h
  | _ + 1, _, .fn _, _, h => by simp only [okB] at h; cases h
theorem all_py {l k : Nat} (ih : ∀ d, okB l k d = true → ∃ p, d.py = some p ∧ p.canLay0 = true ∧ p.depth ≤ k) : ∀ (xs : List D), xs.all (okB l k) = true → ∃ ps, D.pyL xs = some ps ∧ PyData.canLayAll0 ps = true ∧ PyData.depthAll ps ≤ k
  | [], _ => ⟨[], by simp only [D.pyL], by simp only [PyData.canLayAll0], by simp [PyData.depthAll]⟩
  | x :: xs, h => by
    simp only [List.all_cons, Bool.and_eq_true] at h
    obtain ⟨p, e1, c1, d1⟩ := ih x h.1
    obtain ⟨ps, e2, c2, d2⟩ := all_py ih xs h.2
    refine ⟨p :: ps, by simp only [D.pyL, e1, e2], by simp only [PyData.canLayAll0, c1, c2, Bool.and_self], ?_⟩
    simp only [PyData.depthAll]
    omega
theorem ok_py {l : Nat} : ∀ {k : Nat} (d : D), okB l k d = true → ∃ p, d.py = some p ∧ p.canLay0 = true ∧ p.depth ≤ k
  | k, .non, _ => ⟨.none, by simp only [D.py], by simp only [PyData.canLay0], by simp [PyData.depth]⟩
  | k, .bl b, _ => ⟨.bool b, by simp only [D.py], by simp only [PyData.canLay0], by simp [PyData.depth]⟩
  | k, .int b, _ => ⟨.int b, by simp only [D.py], by simp only [PyData.canLay0], by simp [PyData.depth]⟩
  | k, .str x, h => by
    simp only [okB, okS, Bool.and_eq_true] at h
    exact ⟨.str x, by simp only [D.py], by simp only [PyData.canLay0]; exact h.2, by simp [PyData.depth]⟩
  | 0, .tup _, h => by simp only [okB] at h; cases h
  | 0, .lst _, h => by simp only [okB] at h; cases h
  | k + 1, .tup xs, h => by
    simp only [okB, Bool.and_eq_true] at h
    obtain ⟨ps, e, c, d⟩ := all_py (fun d hd => ok_py d hd) xs h.2
    exact ⟨.tuple ps, by simp only [D.py, e, Option.map_some], by simp only [PyData.canLay0]; exact c, by simp only [PyData.depth]; omega⟩
  | k + 1, .lst xs, h => by
    simp only [okB, Bool.and_eq_true] at h
    obtain ⟨ps, e, c, d⟩ := all_py (fun d hd => ok_py d hd) xs h.2
    exact ⟨.list ps, by simp only [D.py, e, Option.map_some], by simp only [PyData.canLay0]; exact c, by simp only [PyData.depth]; omega⟩
  | 0, .dic _, h => by simp only [okB] at h; cases h
  | _ + 1, .dic _, h => by simp only [okB] at h; cases h
  | 0, .fn _, h => by simp only [okB] at h; cases h
  | _ + 1, .fn _, h => by simp only [okB] at h; cases h
theorem ok_shaped {l k : Nat} {d : D} (h : okB l k d = true) (hk : k ≤ 64) : ∃ p, d.py = some p ∧ SeqAt.shaped p = true := by
  obtain ⟨p, e, c, dp⟩ := ok_py d h
  exact ⟨p, e, by simp only [SeqAt.shaped, c, Bool.true_and, decide_eq_true_eq]; omega⟩

end Iq
set_option Elab.async false
set_option linter.all false
set_option maxRecDepth 100000
set_option maxHeartbeats 4000000
/-! pure helps: comprehensions that change nothing, equality of small data, rising rows -/
namespace Iq
open PySem L2

theorem bls_map {α : Type} {g : α → Bool} : ∀ (xs : List α), bls (xs.map fun x => D.bl (g x)) = some (xs.map g)
  | [] => rfl
  | x :: xs => by simp only [List.map_cons, bls, bls_map xs, Option.map_some]
theorem mem_chars {z : Str} {x : D} (h : x ∈ chars z) : ∃ c ∈ z.cps.toList, x = .str ⟨#[c]⟩ := by
  obtain ⟨c, hc, rfl⟩ := List.mem_map.mp h
  exact ⟨c, hc, rfl⟩
/-! ### equality -/
theorem int_eq {i j : Int} : eqD (.int i) (.int j) = .ok (i == j) := by simp [eqD, D.py, PyData.eqv, SeqAt.shaped, PyData.canLay0, PyData.depth]
theorem str_eq {x y : Str} (hx : PyData.strOk x = true) (hy : PyData.strOk y = true) : eqD (.str x) (.str y) = .ok (x == y) := by simp [eqD, D.py, PyData.eqv, SeqAt.shaped, PyData.canLay0, PyData.depth, hx, hy]
theorem bl_eq {a b : Bool} : eqD (.bl a) (.bl b) = .ok (a == b) := by simp [eqD, D.py, PyData.eqv, SeqAt.shaped, PyData.canLay0, PyData.depth]
theorem pyL_nil : ∀ {xs : List D} {ps : List PyData}, D.pyL xs = some ps → ps.isEmpty = xs.isEmpty
  | [], _, h => by simp only [D.pyL] at h; cases h; rfl
  | x :: xs, ps, h => by
    simp only [D.pyL] at h
    split at h
    · cases h; rfl
    · cases h
theorem eqv_nilT {p : PyData} : PyData.eqv p (.tuple []) = (match p with | .tuple ps => ps.isEmpty | _ => false) := by
  cases p with
  | tuple ps => cases ps <;> simp [PyData.eqv, PyData.eqvAll]
  | _ => simp [PyData.eqv]
theorem eqv_nilL {p : PyData} : PyData.eqv p (.list []) = (match p with | .list ps => ps.isEmpty | _ => false) := by
  cases p with
  | list ps => cases ps <;> simp [PyData.eqv, PyData.eqvAll]
  | _ => simp [PyData.eqv]
def nilT : D → Bool
  | .tup [] => true
  | _ => false
def nilL : D → Bool
  | .lst [] => true
  | _ => false
theorem eq_nilT {l k : Nat} {d : D} (h : okB l k d = true) (hk : k ≤ 64) : eqD d (.tup []) = .ok (nilT d) := by
  obtain ⟨p, e, s⟩ := ok_shaped h hk
  have s0 : SeqAt.shaped (.tuple []) = true := by decide +kernel
  have e0 : (D.tup []).py = some (.tuple []) := rfl
  simp only [eqD, e, e0, s, s0, Bool.and_self, if_true, eqv_nilT]
  cases d <;> simp only [D.py] at e <;> try (first | (cases e; done) | (cases e; rfl))
  · obtain ⟨ps, e1, e2⟩ := Option.map_eq_some_iff.mp e
    subst e2
    have := pyL_nil e1
    simp only [this]
    rename_i xs
    cases xs <;> rfl
  · obtain ⟨ps, e1, e2⟩ := Option.map_eq_some_iff.mp e
    subst e2; rfl
theorem eq_nilL {l k : Nat} {d : D} (h : okB l k d = true) (hk : k ≤ 64) : eqD d (.lst []) = .ok (nilL d) := by
  obtain ⟨p, e, s⟩ := ok_shaped h hk
  have s0 : SeqAt.shaped (.list []) = true := by decide +kernel
  have e0 : (D.lst []).py = some (.list []) := rfl
  simp only [eqD, e, e0, s, s0, Bool.and_self, if_true, eqv_nilL]
  cases d <;> simp only [D.py] at e <;> try (first | (cases e; done) | (cases e; rfl))
  · obtain ⟨ps, e1, e2⟩ := Option.map_eq_some_iff.mp e
    subst e2; rfl
  · obtain ⟨ps, e1, e2⟩ := Option.map_eq_some_iff.mp e
    subst e2
    have := pyL_nil e1
    simp only [this]
    rename_i xs
    cases xs <;> rfl
theorem pyL_map {α : Type} {f : α → D} {g : α → PyData} (h : ∀ a, (f a).py = some (g a)) : ∀ xs : List α, D.pyL (xs.map f) = some (xs.map g)
  | [] => by simp only [List.map_nil, D.pyL]
  | x :: xs => by simp only [List.map_cons, D.pyL, h x, pyL_map h xs]
theorem bq {α : Type} [DecidableEq α] [BEq α] [LawfulBEq α] (a b : α) : (a == b) = decide (a = b) := by
  rw [Bool.eq_iff_iff, decide_eq_true_eq, beq_iff_eq]
theorem eqv_ints : ∀ xs ys : List Int, PyData.eqvAll (xs.map .int) (ys.map .int) = decide (xs = ys)
  | [], [] => by simp [PyData.eqvAll]
  | [], _ :: _ => by simp [PyData.eqvAll]
  | _ :: _, [] => by simp [PyData.eqvAll]
  | x :: xs, y :: ys => by simp [PyData.eqvAll, PyData.eqv, eqv_ints xs ys, bq]
theorem eqv_strs : ∀ xs ys : List Str, PyData.eqvAll (xs.map .str) (ys.map .str) = decide (xs = ys)
  | [], [] => by simp [PyData.eqvAll]
  | [], _ :: _ => by simp [PyData.eqvAll]
  | _ :: _, [] => by simp [PyData.eqvAll]
  | x :: xs, y :: ys => by simp [PyData.eqvAll, PyData.eqv, eqv_strs xs ys, bq]
theorem shaped_ints (xs : List Int) : SeqAt.shaped (.list (xs.map .int)) = true := by
  have h1 : ∀ xs : List Int, PyData.canLayAll0 (xs.map .int) = true := fun xs => by
    induction xs with
    | nil => simp [PyData.canLayAll0]
    | cons x xs ih => simp [PyData.canLayAll0, PyData.canLay0, ih]
  have h2 : ∀ xs : List Int, PyData.depthAll (xs.map .int) = 0 := fun xs => by
    induction xs with
    | nil => simp [PyData.depthAll]
    | cons x xs ih => simp [PyData.depthAll, PyData.depth, ih]
  simp [SeqAt.shaped, PyData.canLay0, PyData.depth, h1, h2]
theorem shaped_strs (xs : List Str) (h : ∀ x ∈ xs, PyData.strOk x = true) : SeqAt.shaped (.list (xs.map .str)) = true := by
  have h1 : ∀ xs : List Str, (∀ x ∈ xs, PyData.strOk x = true) → PyData.canLayAll0 (xs.map .str) = true := fun xs => by
    induction xs with
    | nil => simp [PyData.canLayAll0]
    | cons x xs ih => intro h; simp [PyData.canLayAll0, PyData.canLay0, ih fun y hy => h y (List.mem_cons_of_mem _ hy), h x List.mem_cons_self]
  have h2 : ∀ xs : List Str, PyData.depthAll (xs.map .str) = 0 := fun xs => by
    induction xs with
    | nil => simp [PyData.depthAll]
    | cons x xs ih => simp [PyData.depthAll, PyData.depth, ih]
  simp [SeqAt.shaped, PyData.canLay0, PyData.depth, h1 xs h, h2]
theorem eq_ints (xs ys : List Int) : eqD (.lst (xs.map .int)) (.lst (ys.map .int)) = .ok (decide (xs = ys)) := by
  have p : ∀ xs : List Int, D.pyL (xs.map .int) = some (xs.map .int) := pyL_map fun a => by simp only [D.py]
  simp [eqD, D.py, p, shaped_ints, PyData.eqv, eqv_ints]
theorem eq_strs (xs ys : List Str) (hx : ∀ x ∈ xs, PyData.strOk x = true) (hy : ∀ x ∈ ys, PyData.strOk x = true) : eqD (.lst (xs.map .str)) (.lst (ys.map .str)) = .ok (decide (xs = ys)) := by
  have p : ∀ xs : List Str, D.pyL (xs.map .str) = some (xs.map .str) := pyL_map fun a => by simp only [D.py]
  simp [eqD, D.py, p, shaped_strs xs hx, shaped_strs ys hy, PyData.eqv, eqv_strs]

/-! ### comprehensions that change nothing -/
theorem set_set_no (ς : List Sl) (i : Nat) (a b : Sl) : ((ς.set i a).set i b) = ς.set i b := by simp
theorem lc_pure {tst : List Sl → R (Bool × List Sl)} {el : List Sl → R (D × Bool × List Sl)} {i : Nat} {ς : List Sl} {p : D → Bool} {g : D → D} : ∀ (xs : List D) (u : Sl),
    (∀ x ∈ xs, tst (ς.set i (.shr x)) = .ok (p x, ς.set i (.shr x))) → (∀ x ∈ xs, p x = true → ∃ fr, el (ς.set i (.shr x)) = .ok (g x, fr, ς.set i (.shr x))) →
    ∃ v, lcGo tst el (.nm i) xs (ς.set i u) = .ok ((xs.filter p).map g, ς.set i v)
  | [], u, _, _ => ⟨u, rfl⟩
  | x :: xs, u, h1, h2 => by
    have e1 := h1 x List.mem_cons_self
    obtain ⟨v, ev⟩ := lc_pure xs (.shr x) (fun y hy => h1 y (List.mem_cons_of_mem _ hy)) fun y hy => h2 y (List.mem_cons_of_mem _ hy)
    refine ⟨v, ?_⟩
    simp only [lcGo, bindT, tgS, wipeS, set_set_no, R.bind_ok, e1]
    cases c : p x with
    | true =>
      obtain ⟨fr, e2⟩ := h2 x List.mem_cons_self c
      simp only [cond_true, e2, R.bind_ok, ev, List.filter_cons, c, if_true, List.map_cons]
    | false => simp only [cond_false, ev, List.filter_cons, c, Bool.false_eq_true, if_false]
theorem back1 {ς : List Sl} {i : Nat} {v : Sl} (hi : i < ς.length) : backS ς [i] (ς.set i v) = ς := by
  simp only [backS, set_set_no]
  rw [List.getD_eq_getElem?_getD, List.getElem?_eq_getElem hi]
  simp
theorem comp1 {P : Pr} {e : Ex} {c : Option Tx} {i : Nat} {src : Ex} {ς : List Sl} {d0 : D} {fr0 : Bool} {xs : List D} {p : D → Bool} {g : D → D} (es : evE P src ς = .ok (d0, fr0, ς)) (w : walk .seq [d0] = .ok xs) (hi : i < ς.length) (ho : isOwn ς i = false)
    (hc : ∀ x ∈ xs, evQ P c (ς.set i (.shr x)) = .ok (p x, ς.set i (.shr x))) (he : ∀ x ∈ xs, p x = true → ∃ fr, evE P e (ς.set i (.shr x)) = .ok (g x, fr, ς.set i (.shr x))) :
    evE P (.comp e (.nm i) .seq [src] c) ς = .ok (.lst ((xs.filter p).map g), true, ς) := by
  obtain ⟨v, ev⟩ := lc_pure (ς := ς) xs (ς[i]'hi) hc he
  rw [List.set_getElem_self] at ev
  have := ev_comp (P := P) (ς := ς) (ς1 := ς) (k := .seq) (ss := [src]) (t := .nm i) (by simp only [evL, es, R.bind_ok]) w (by simp only [tgS, List.any_cons, ho, List.any_nil, Bool.or_self]) ev
  rw [this, tgS, back1 hi]
/-- every item, without a test -/
theorem comp1a {P : Pr} {e : Ex} {i : Nat} {src : Ex} {ς : List Sl} {d0 : D} {fr0 : Bool} {xs : List D} {g : D → D} (es : evE P src ς = .ok (d0, fr0, ς)) (w : walk .seq [d0] = .ok xs) (hi : i < ς.length) (ho : isOwn ς i = false)
    (he : ∀ x ∈ xs, ∃ fr, evE P e (ς.set i (.shr x)) = .ok (g x, fr, ς.set i (.shr x))) :
    evE P (.comp e (.nm i) .seq [src] none) ς = .ok (.lst (xs.map g), true, ς) := by
  have := comp1 (p := fun _ => true) (g := g) (e := e) es w hi ho (c := none) (fun x hx => by simp only [evQ]) fun x hx _ => he x hx
  rwa [List.filter_eq_self.mpr fun _ _ => rfl] at this
/-! ### rows of pairs -/
theorem lc_pure2 {el : List Sl → R (D × Bool × List Sl)} {tst : List Sl → R (Bool × List Sl)} {i j : Nat} {ς : List Sl} {g : D → D → D} (hij : i ≠ j) (ht : ∀ ς, tst ς = .ok (true, ς)) : ∀ (xs : List (D × D)) (u v : Sl),
    (∀ x ∈ xs, ∃ fr, el ((ς.set i (.shr x.1)).set j (.shr x.2)) = .ok (g x.1 x.2, fr, (ς.set i (.shr x.1)).set j (.shr x.2))) →
    ∃ a b, lcGo tst el (.tp [i, j]) (xs.map fun x => .tup [x.1, x.2]) ((ς.set i u).set j v) = .ok (xs.map fun x => g x.1 x.2, (ς.set i a).set j b)
  | [], u, v, _ => ⟨u, v, rfl⟩
  | x :: xs, u, v, h => by
    obtain ⟨fr, e⟩ := h x List.mem_cons_self
    obtain ⟨a, b, ev⟩ := lc_pure2 hij ht xs (.shr x.1) (.shr x.2) fun y hy => h y (List.mem_cons_of_mem _ hy)
    refine ⟨a, b, ?_⟩
    have w : ((((((ς.set i u).set j v).set j .no).set i .no).set i (.shr x.1)).set j (.shr x.2)) = (ς.set i (.shr x.1)).set j (.shr x.2) := by
      apply List.ext_getElem?
      intro m
      by_cases hi : i = m <;> by_cases hj : j = m <;> simp [List.getElem?_set, hi, hj]
    simp only [List.map_cons, lcGo, bindT, tgS, wipeS, setAll, R.bind_ok, w, ht, cond_true, e, ev]
theorem back2 {ς : List Sl} {i j : Nat} {a b : Sl} (hi : i < ς.length) (hj : j < ς.length) : backS ς [i, j] ((ς.set i a).set j b) = ς := by
  simp only [backS]
  apply List.ext_getElem?
  intro m
  simp only [List.getD_eq_getElem?_getD, List.getElem?_eq_getElem hi, List.getElem?_eq_getElem hj, Option.getD_some]
  by_cases h1 : i = m <;> by_cases h2 : j = m <;> simp [List.getElem?_set, h1, h2]
  all_goals (first | (subst h1; simp [hi]) | (subst h2; simp [hj]) | skip)
theorem zip_pairs : ∀ xs ys : List D, zipD xs ys = (xs.zip ys).map fun x => .tup [x.1, x.2]
  | [], _ => by simp [zipD]
  | _ :: _, [] => by simp [zipD]
  | x :: xs, y :: ys => by simp [zipD, zip_pairs xs ys]
theorem comp2 {P : Pr} {e : Ex} {i j : Nat} {a b : Ex} {ς : List Sl} {xs ys : List D} {g : D → D → D} (es : evL P [a, b] ς = .ok ([.tup xs, .tup ys], ς) ∨ evL P [a, b] ς = .ok ([.lst xs, .lst ys], ς)) (hij : i ≠ j) (hi : i < ς.length) (hj : j < ς.length) (ho : isOwn ς i = false) (hp : isOwn ς j = false)
    (he : ∀ x ∈ xs.zip ys, ∃ fr, evE P e ((ς.set i (.shr x.1)).set j (.shr x.2)) = .ok (g x.1 x.2, fr, (ς.set i (.shr x.1)).set j (.shr x.2))) :
    evE P (.comp e (.tp [i, j]) .zip [a, b] none) ς = .ok (.lst ((xs.zip ys).map fun x => g x.1 x.2), true, ς) := by
  obtain ⟨u, v, ev⟩ := lc_pure2 (tst := evQ P none) (ς := ς) (g := g) hij (fun ς => by simp only [evQ]) (xs.zip ys) (ς[i]'hi) (ς[j]'hj) he
  have z : (ς.set i (ς[i]'hi)).set j (ς[j]'hj) = ς := by rw [List.set_getElem_self, List.set_getElem_self]
  rw [z, ← zip_pairs] at ev
  have ow : (tgS (.tp [i, j])).any (isOwn ς) = false := by simp only [tgS, List.any_cons, ho, hp, List.any_nil, Bool.or_self]
  rcases es with es | es
  · rw [ev_comp (P := P) (ς := ς) (ς1 := ς) (k := .zip) (t := .tp [i, j]) es rfl ow ev, tgS, back2 hi hj]
  · rw [ev_comp (P := P) (ς := ς) (ς1 := ς) (k := .zip) (t := .tp [i, j]) es rfl ow ev, tgS, back2 hi hj]

/-! ### rising rows -/
section
variable {α : Type} {lt : α → α → Bool} [DecidableEq α]
def risB (lt : α → α → Bool) (xs : List α) : Bool := (xs.zip (xs.drop 1)).all fun p => lt p.1 p.2
theorem ris_cons {x y : α} {r : List α} : risB lt (x :: y :: r) = (lt x y && risB lt (y :: r)) := by simp [risB]
theorem ris_up (o : Ss.Ord lt) : ∀ xs : List α, risB lt xs = true ↔ xs.Pairwise fun a b => lt a b = true
  | [] => by simp [risB]
  | [x] => by simp [risB]
  | x :: y :: r => by
    rw [ris_cons, Bool.and_eq_true, ris_up o (y :: r)]
    constructor
    · rintro ⟨h1, h2⟩
      refine List.pairwise_cons.mpr ⟨fun z hz => ?_, h2⟩
      rcases List.mem_cons.mp hz with rfl | hz
      · exact h1
      · exact o.tr _ _ _ h1 ((List.pairwise_cons.mp h2).1 z hz)
    · intro h
      obtain ⟨h1, h2⟩ := List.pairwise_cons.mp h
      exact ⟨h1 y List.mem_cons_self, h2⟩
/-- a row is sorted and has each once exactly if it rises -/
theorem ris_srt (o : Ss.Ord lt) (xs : List α) : decide (xs = Ss.srt lt xs) = risB lt xs := by
  rw [Bool.eq_iff_iff, decide_eq_true_eq, ris_up o]
  exact ⟨fun h => by rw [h]; exact Ss.srt_up o xs, fun h => Ss.srt_is o h fun k => Iff.rfl⟩
end
end Iq
set_option Elab.async false
set_option linter.all false
set_option maxRecDepth 100000
set_option maxHeartbeats 1000000
namespace Iq
open PySem L2
/-! ### what repr gives: its signs, its length -/
theorem ok_cat (a b : Str) : PyData.strOk (a ++ b) = (PyData.strOk a && PyData.strOk b) := by
  show (a.cps ++ b.cps).all _ = (a.cps.all _ && b.cps.all _)
  rw [Array.all_append]
theorem ok_of {x : Str} (h : ∀ c ∈ x.cps.toList, c < 0x110000) : PyData.strOk x = true := by
  unfold PyData.strOk
  rw [Array.all_eq_true_iff_forall_mem]
  exact fun c hc => decide_eq_true (h c (Array.mem_toList_iff.mpr hc))
theorem of_ok {x : Str} (h : PyData.strOk x = true) : ∀ c ∈ x.cps.toList, c < 0x110000 := fun c hc => by
  unfold PyData.strOk at h
  rw [Array.all_eq_true_iff_forall_mem] at h
  exact of_decide_eq_true (h c (Array.mem_toList_iff.mp hc))
theorem from_ok : ∀ (ts : List Str) (k : Nat) (acc : Str), (∀ t ∈ ts, PyData.strOk t = true) → PyData.strOk acc = true → PyData.strOk (textFrom k acc ts) = true ∧ (textFrom k acc ts).length ≤ acc.length + (ts.map fun t => t.length + 2).sum
  | [], k, acc, _, h => ⟨h, by simp [textFrom]⟩
  | t :: ts, k, acc, ht, h => by
    have e : PyData.strOk (acc ++ (if k > 0 then ", " else "" : String) ++ t) = true := by
      rw [ok_cat, ok_cat, h, ht t (by simp)]
      split <;> decide +kernel
    obtain ⟨h1, h2⟩ := from_ok ts (k + 1) _ (fun x hx => ht x (List.mem_cons_of_mem _ hx)) e
    refine ⟨h1, Nat.le_trans h2 ?_⟩
    have l : (acc ++ (if k > 0 then ", " else "" : String) ++ t).length ≤ acc.length + 2 + t.length := by
      rw [strLen_append, strLen_append]
      have : ((if k > 0 then ", " else "" : String) : Str).length ≤ 2 := by split <;> decide +kernel
      omega
    simp only [List.map_cons, List.sum_cons]
    omega
theorem list_ok {ts : List Str} (h : ∀ t ∈ ts, PyData.strOk t = true) : PyData.strOk (listText ts) = true ∧ (listText ts).length ≤ (ts.map fun t => t.length + 2).sum + 2 := by
  obtain ⟨h1, h2⟩ := from_ok ts 0 "[" h (by decide +kernel)
  unfold listText
  refine ⟨by rw [ok_cat, h1]; decide +kernel, ?_⟩
  rw [strLen_append]
  have a1 : (("[" : String) : Str).length = 1 := by decide +kernel
  have a2 : (("]" : String) : Str).length = 1 := by decide +kernel
  omega
theorem join_ok : ∀ ts : List Str, (∀ t ∈ ts, PyData.strOk t = true) → PyData.strOk (Str.join ", " ts) = true ∧ (Str.join ", " ts).length ≤ (ts.map fun t => t.length + 2).sum
  | [], _ => ⟨by decide +kernel, by show (Str.join ", " []).length ≤ 0; decide +kernel⟩
  | [x], h => ⟨h x (by simp), by show x.length ≤ _; simp⟩
  | x :: y :: r, h => by
    obtain ⟨h1, h2⟩ := join_ok (y :: r) fun t ht => h t (List.mem_cons_of_mem _ ht)
    have e : Str.join ", " (x :: y :: r) = x ++ ", " ++ Str.join ", " (y :: r) := rfl
    rw [e]
    refine ⟨by rw [ok_cat, ok_cat, h1, h x (by simp)]; decide +kernel, ?_⟩
    rw [strLen_append, strLen_append]
    have a1 : ((", " : String) : Str).length = 2 := by decide +kernel
    simp only [List.map_cons, List.sum_cons] at h2 ⊢
    omega
theorem tuple_ok {ts : List Str} (h : ∀ t ∈ ts, PyData.strOk t = true) : PyData.strOk (tupleText ts) = true ∧ (tupleText ts).length ≤ (ts.map fun t => t.length + 2).sum + 3 := by
  obtain ⟨h1, h2⟩ := join_ok ts h
  unfold tupleText
  have a1 : (("(" : String) : Str).length = 1 := by decide +kernel
  have a2 : ((if ts.length == 1 then ",)" else ")" : String) : Str).length ≤ 2 := by split <;> decide +kernel
  have a3 : PyData.strOk ((if ts.length == 1 then ",)" else ")" : String) : Str) = true := by split <;> decide +kernel
  refine ⟨by rw [ok_cat, ok_cat, h1, a3]; decide +kernel, ?_⟩
  rw [strLen_append, strLen_append]
  omega
theorem char_lt (c : Char) : c.toNat < 0x110000 := by
  have := c.valid
  simp only [UInt32.isValidChar, Nat.isValidChar] at this
  show c.val.toNat < _
  omega
theorem chr_ok {q c : Nat} (hq : q < 128) (hc : c < 0x110000) : ∀ d ∈ Builtin.Str.reprChar q c, d < 0x110000 := by
  have hex : ∀ w, ∀ d ∈ List.replicate (w - ((Nat.toDigits 16 c).map Char.toNat).length) 48 ++ (Nat.toDigits 16 c).map Char.toNat, d < 0x110000 := fun w d hd => by
    rcases List.mem_append.mp hd with h | h
    · have := (List.mem_replicate.mp h).2; omega
    · obtain ⟨x, _, rfl⟩ := List.mem_map.mp h
      exact char_lt x
  intro d hd
  unfold Builtin.Str.reprChar at hd
  split at hd
  · simp only [List.mem_cons, List.not_mem_nil, or_false] at hd; omega
  split at hd
  · simp only [List.mem_cons, List.not_mem_nil, or_false] at hd; omega
  split at hd
  · simp only [List.mem_cons, List.not_mem_nil, or_false] at hd; omega
  split at hd
  · simp only [List.mem_cons, List.not_mem_nil, or_false] at hd; omega
  split at hd
  · simp only [List.mem_cons, List.not_mem_nil, or_false] at hd; omega
  have two : ∀ a b w, a < 128 → b < 128 → d ∈ [a, b] ++ (List.replicate (w - ((Nat.toDigits 16 c).map Char.toNat).length) 48 ++ (Nat.toDigits 16 c).map Char.toNat) → d < 0x110000 := fun a b w h1 h2 hd => by
    rcases List.mem_append.mp hd with h | h
    · simp only [List.mem_cons, List.not_mem_nil, or_false] at h; omega
    · exact hex w d h
  split at hd
  · exact two 92 120 2 (by omega) (by omega) hd
  split at hd
  · exact two 92 117 4 (by omega) (by omega) hd
  · exact two 92 85 8 (by omega) (by omega) hd
theorem fold_ok {q : Nat} (hq : q < 128) : ∀ (cs : List Nat) (acc : Array Nat), (∀ c ∈ cs, c < 0x110000) → (∀ c ∈ acc.toList, c < 0x110000) → ∀ c ∈ (cs.foldl (fun out c => out ++ (Builtin.Str.reprChar q c).toArray) acc).toList, c < 0x110000
  | [], acc, _, h => h
  | x :: cs, acc, hc, h => fold_ok hq cs _ (fun c h => hc c (List.mem_cons_of_mem _ h)) fun c hm => by
    simp only [Array.toList_append, List.mem_append] at hm
    rcases hm with hm | hm
    · exact h c hm
    · exact chr_ok hq (hc x (by simp)) c (by simpa using hm)
theorem text_ok {x : Str} (h : PyData.strOk x = true) : PyData.strOk (reprText x) = true ∧ (reprText x).length ≤ 10 * x.length + 2 := by
  have hc := of_ok h
  refine ⟨ok_of fun c hm => ?_, StrLaws.reprText_len x fun c h => Nat.lt_trans (hc c h) (by omega)⟩
  have hq : reprQuote x < 128 := by unfold reprQuote; split <;> omega
  unfold reprText at hm
  simp only [Array.toList_push, List.mem_append, List.mem_singleton] at hm
  rcases hm with hm | hm
  · rw [← Array.foldl_toList] at hm
    exact fold_ok hq _ _ hc (fun c h => by simp at h; omega) c hm
  · omega
theorem int_ok (i : Int) : PyData.strOk (toString i : Str) = true ∧ (toString i : Str).length ≤ i.natAbs.log2 + 3 := by
  have dig : ∀ m : Nat, PyData.strOk (Str.ofString (toString (Int.ofNat m))) = true ∧ (Str.ofString (toString (Int.ofNat m))).length ≤ m.log2 + 2 := fun m => by
    have e := PyProof.Rows.text_ofNat m
    rw [e]
    refine ⟨ok_of fun c hc => ?_, ?_⟩
    · simp only [List.mem_map] at hc
      obtain ⟨x, _, rfl⟩ := hc
      exact char_lt x
    · show ((Nat.toDigits 10 m).map Char.toNat).toArray.size ≤ _
      rw [List.size_toArray, List.length_map]
      refine PyProof.Rows.digits10_le (by omega) ?_
      have h1 := Nat.lt_log2_self (n := m)
      calc m < 2 ^ (m.log2 + 1) := h1
        _ ≤ 2 ^ (m.log2 + 2) := Nat.pow_le_pow_right (by omega) (by omega)
        _ ≤ 10 ^ (m.log2 + 2) := Nat.pow_le_pow_left (by omega) _
  cases i with
  | ofNat m =>
    obtain ⟨h1, h2⟩ := dig m
    refine ⟨h1, ?_⟩
    show _ ≤ m.log2 + 3
    exact Nat.le_succ_of_le h2
  | negSucc m =>
    obtain ⟨h1, h2⟩ := dig (m + 1)
    have e : (Str.ofString (toString (Int.negSucc m))) = Str.ofString "-" ++ Str.ofString (toString (Int.ofNat (m + 1))) := by
      have : toString (Int.negSucc m) = "-" ++ toString (Int.ofNat (m + 1)) := rfl
      rw [this, Str.ofString_eq_toList, Str.ofString_eq_toList, Str.ofString_eq_toList]
      show _ = (⟨_ ++ _⟩ : Str)
      simp [String.toList_append]
    refine ⟨?_, ?_⟩
    · show PyData.strOk (Str.ofString (toString (Int.negSucc m))) = true
      rw [e, ok_cat, h1]; decide +kernel
    · show (Str.ofString (toString (Int.negSucc m))).length ≤ (m + 1).log2 + 3
      rw [e, strLen_append]
      have : (Str.ofString "-").length = 1 := by decide +kernel
      omega
/-! ### data that repr can show -/
mutual
/-- only what can be shown -/
def fitD : D → Bool
  | .non => true
  | .bl _ => true
  | .int i => decide (i.natAbs.log2 < 1920)
  | .str x => PyData.strOk x
  | .tup xs => fitL xs
  | .lst xs => fitL xs
  | .dic _ => false
  | .fn _ => false
def fitL : List D → Bool
  | [] => true
  | d :: ds => fitD d && fitL ds
end
mutual
/-- how long it gets -/
def szD : D → Nat
  | .non => 4
  | .bl _ => 5
  | .int i => i.natAbs.log2 + 3
  | .str x => 10 * x.length + 2
  | .tup xs => szL xs + 3
  | .lst xs => szL xs + 2
  | .dic _ => 0
  | .fn _ => 0
def szL : List D → Nat
  | [] => 0
  | d :: ds => szD d + 2 + szL ds
end
mutual
def dpD : D → Nat
  | .tup xs => dpL xs + 1
  | .lst xs => dpL xs + 1
  | _ => 0
def dpL : List D → Nat
  | [] => 0
  | d :: ds => max (dpD d) (dpL ds)
end
/-- what is known of the shown data -/
structure Shw (d : D) (p : PyData) : Prop where
  py : d.py = some p
  sh : p.showable = true
  nd : p.hasDict = false
  ok : PyData.strOk p.shown = true
  le : p.shown.length ≤ szD d
  dp : p.depth ≤ dpD d
mutual
theorem shw : ∀ d : D, fitD d = true → ∃ p, Shw d p
  | .non, _ => ⟨.none, rfl, rfl, rfl, by decide +kernel, by decide +kernel, Nat.le_refl _⟩
  | .bl b, _ => ⟨.bool b, rfl, rfl, rfl, by cases b <;> decide +kernel, by cases b <;> decide +kernel, Nat.le_refl _⟩
  | .int i, h => ⟨.int i, rfl, by simpa only [PyData.showable, fitD] using h, rfl, (int_ok i).1, (int_ok i).2, Nat.le_refl _⟩
  | .str x, h => ⟨.str x, rfl, rfl, rfl, (text_ok (by simpa only [fitD] using h)).1, (text_ok (by simpa only [fitD] using h)).2, Nat.le_refl _⟩
  | .tup xs, h => by
    obtain ⟨ps, h1, h2, h3, h4, h5, h6⟩ := shwL xs (by simpa only [fitD] using h)
    obtain ⟨g1, g2⟩ := tuple_ok h4
    refine ⟨.tuple ps, by simp only [D.py, h1, Option.map_some], by simpa only [PyData.showable] using h2, by simpa only [PyData.hasDict] using h3, by simpa only [PyData.shown] using g1, ?_, ?_⟩
    · simp only [PyData.shown, szD]; omega
    · simp only [PyData.depth, dpD]; omega
  | .lst xs, h => by
    obtain ⟨ps, h1, h2, h3, h4, h5, h6⟩ := shwL xs (by simpa only [fitD] using h)
    obtain ⟨g1, g2⟩ := list_ok h4
    refine ⟨.list ps, by simp only [D.py, h1, Option.map_some], by simpa only [PyData.showable] using h2, by simpa only [PyData.hasDict] using h3, by simpa only [PyData.shown] using g1, ?_, ?_⟩
    · simp only [PyData.shown, szD]; omega
    · simp only [PyData.depth, dpD]; omega
  | .dic _, h => by simp only [fitD] at h; cases h
  | .fn _, h => by simp only [fitD] at h; cases h
theorem shwL : ∀ ds : List D, fitL ds = true → ∃ ps, D.pyL ds = some ps ∧ PyData.showableAll ps = true ∧ PyData.hasDictAll ps = false ∧ (∀ t ∈ PyData.shownAll ps, PyData.strOk t = true) ∧ ((PyData.shownAll ps).map fun t => t.length + 2).sum ≤ szL ds ∧ PyData.depthAll ps ≤ dpL ds
  | [], _ => ⟨[], rfl, rfl, rfl, by simp [PyData.shownAll], by simp [PyData.shownAll, szL], Nat.le_refl _⟩
  | d :: ds, h => by
    simp only [fitL, Bool.and_eq_true] at h
    obtain ⟨p, sp⟩ := shw d h.1
    obtain ⟨ps, h1, h2, h3, h4, h5, h6⟩ := shwL ds h.2
    refine ⟨p :: ps, by simp only [D.pyL, sp.py, h1], by simp only [PyData.showableAll, sp.sh, h2, Bool.and_self], by simp only [PyData.hasDictAll, sp.nd, h3, Bool.or_self], ?_, ?_, ?_⟩
    · simp only [PyData.shownAll, List.mem_cons]
      rintro t (rfl | ht)
      · exact sp.ok
      · exact h4 t ht
    · simp only [PyData.shownAll, List.map_cons, List.sum_cons, szL]
      have := sp.le
      omega
    · simp only [PyData.depthAll, dpL]
      have := sp.dp
      omega
end
/-- repr of it -/
theorem rpr_of {d : D} {xs : List D} (hs : seqOf d = some xs) (h : fitD d = true) (hz : szD d ≤ 16777216) (hd : dpD d < 60) : ∃ z, rprD d = .ok (.str z) ∧ PyData.strOk z = true := by
  obtain ⟨p, sp⟩ := shw d h
  refine ⟨p.shown, ?_, sp.ok⟩
  have e : rprD d = match seqOf d, d.py with
    | some _, some p => if p.showable = true ∧ p.hasDict = false ∧ p.depth < 60 ∧ p.shown.length ≤ sizeLine then .ok (.str p.shown) else .bad
    | _, _ => .bad := rfl
  rw [e, hs, sp.py]
  simp only []
  rw [if_pos ⟨sp.sh, sp.nd, Nat.lt_of_le_of_lt sp.dp hd, by rw [sizeLine_eq]; exact Nat.le_trans sp.le hz⟩]
theorem eq_self {z : Str} (h : PyData.strOk z = true) : eqD (.str z) (.str z) = .ok true := by rw [str_eq h h]; simp
end Iq
set_option Elab.async false
set_option linter.all false
set_option maxRecDepth 100000
set_option maxHeartbeats 0
namespace Q
open PySem L2 Iq
def top (i : Nat) : Stmt := PySem.Challenge.pw_forkyields_k01_kinds.main.body.getD i (.Pass ⟨0, 0, 0, 0⟩)
def mk (x : Str) (i : Nat) (dfl : List He.Dv) (kwd : List (Str × He.Dv)) : He.DefD := ⟨(x, none), x, x, defArgs (top i), defBody (top i), defScope (top i), dfl, kwd⟩
/-- is_integer -/
def f0 : Fn := ⟨1, 1, [], [.ret (.and (.isi (.var 0) [.int]) (.nt (.isi (.var 0) [.bool])))], false⟩
def d0 : Df := ⟨mk "is_integer" 10 [] [], ["thing"], ["thing"], f0, true, false⟩
theorem b0 : BindP d0.d d0.ps := fun _ _ _ _ _ _ us hl => match us, hl with | [_], _ => rfl
/-- is_number -/
def f1 : Fn := ⟨1, 1, [], [.ret (.and (.call 0 [(.var 0)]) (.cmp .GtE (.var 0) (.con (.int 0))))], false⟩
def d1 : Df := ⟨mk "is_number" 11 [] [], ["thing"], ["thing"], f1, true, false⟩
theorem b1 : BindP d1.d d1.ps := fun _ _ _ _ _ _ us hl => match us, hl with | [_], _ => rfl
/-- is_name -/
def f2 : Fn := ⟨1, 2, [], [.ife (.or (.nt (.at (.isi (.var 0) [.str]))) (.nt (.at (.chn .LtE .LtE (.con (.int 1)) (.bi .len (.var 0)) (.glo 1))))) [.ret (.con (.bl false))] [],
      .ret (.bi .all (.comp (.cmp .In (.var 1) (.glo 0)) (.nm 1) .seq [(.var 0)] none))], false⟩
def d2 : Df := ⟨mk "is_name" 12 [] [], ["thing", "sign"], ["thing"], f2, true, false⟩
theorem b2 : BindP d2.d d2.ps := fun _ _ _ _ _ _ us hl => match us, hl with | [_], _ => rfl
/-- is_rising -/
def f3 : Fn := ⟨1, 3, [], [.ret (.bi .all (.comp (.cmp .Lt (.var 1) (.var 2)) (.tp [1, 2]) .zip [(.var 0), (.sli (.var 0) (some (.con (.int 1))) none)] none))], false⟩
def d3 : Df := ⟨mk "is_rising" 13 [] [], ["some", "one", "other"], ["some"], f3, true, false⟩
theorem b3 : BindP d3.d d3.ps := fun _ _ _ _ _ _ us hl => match us, hl with | [_], _ => rfl
/-- is_name_set -/
def f4 : Fn := ⟨1, 2, [], [.ret (.and (.isi (.var 0) [.tuple]) (.and (.bi .all (.comp (.call 2 [(.var 1)]) (.nm 1) .seq [(.var 0)] none)) (.call 3 [(.var 0)])))], false⟩
def d4 : Df := ⟨mk "is_name_set" 14 [] [], ["thing", "one"], ["thing"], f4, true, false⟩
theorem b4 : BindP d4.d d4.ps := fun _ _ _ _ _ _ us hl => match us, hl with | [_], _ => rfl
/-- are_numbers -/
def f5 : Fn := ⟨1, 2, [], [.ret (.and (.isi (.var 0) [.tuple]) (.bi .all (.comp (.call 1 [(.var 1)]) (.nm 1) .seq [(.var 0)] none)))], false⟩
def d5 : Df := ⟨mk "are_numbers" 15 [] [], ["thing", "one"], ["thing"], f5, true, false⟩
theorem b5 : BindP d5.d d5.ps := fun _ _ _ _ _ _ us hl => match us, hl with | [_], _ => rfl
/-- is_tuple_of -/
def f6 : Fn := ⟨2, 2, [], [.ret (.and (.isi (.var 0) [.tuple]) (.cmp .Eq (.bi .len (.var 0)) (.var 1)))], false⟩
def d6 : Df := ⟨mk "is_tuple_of" 16 [] [], ["thing", "many"], ["thing", "many"], f6, true, false⟩
theorem b6 : BindP d6.d d6.ps := fun _ _ _ _ _ _ us hl => match us, hl with | [_, _], _ => rfl
/-- is_place_or_none -/
def f7 : Fn := ⟨1, 1, [], [.ret (.and (.call 0 [(.var 0)]) (.cmp .GtE (.var 0) (.glo 3)))], false⟩
def d7 : Df := ⟨mk "is_place_or_none" 17 [] [], ["thing"], ["thing"], f7, true, false⟩
theorem b7 : BindP d7.d d7.ps := fun _ _ _ _ _ _ us hl => match us, hl with | [_], _ => rfl
/-- is_row -/
def f8 : Fn := ⟨1, 1, [], [.ret (.and (.call 6 [(.var 0), (.con (.int 4))]) (.and (.call 2 [(.idx (.var 0) (.con (.int 0)))]) (.call 5 [(.sli (.var 0) (some (.con (.int 1))) none)])))], false⟩
def d8 : Df := ⟨mk "is_row" 18 [] [], ["thing"], ["thing"], f8, true, false⟩
theorem b8 : BindP d8.d d8.ps := fun _ _ _ _ _ _ us hl => match us, hl with | [_], _ => rfl
/-- are_rows -/
def f9 : Fn := ⟨1, 3, [], [.ife (.or (.nt (.at (.isi (.var 0) [.tuple]))) (.nt (.at (.bi .all (.comp (.call 8 [(.var 2)]) (.nm 2) .seq [(.var 0)] none))))) [.ret (.con (.bl false))] [],
      .ret (.call 3 [(.comp (.idx (.var 1) (.con (.int 0))) (.nm 1) .seq [(.var 0)] none)])], false⟩
def d9 : Df := ⟨mk "are_rows" 19 [] [], ["thing", "row", "one"], ["thing"], f9, true, false⟩
theorem b9 : BindP d9.d d9.ps := fun _ _ _ _ _ _ us hl => match us, hl with | [_], _ => rfl
/-- is_wait -/
def f10 : Fn := ⟨2, 2, [], [.ife (.or (.at (.cmp .NotEq (.bi .len (.var 0)) (.bin .Add (.var 1) (.con (.int 4))))) (.or (.nt (.at (.call 9 [(.idx (.var 0) (.con (.int 1)))]))) (.nt (.at (.call 7 [(.idx (.var 0) (.con (.int 2)))]))))) [.ret (.con (.bl false))] [],
      .ife (.and (.at (.cmp .Eq (.bi .len (.idx (.var 0) (.con (.int 1)))) (.con (.int 0)))) (.at (.cmp .Eq (.idx (.var 0) (.con (.int 2))) (.glo 3)))) [.ret (.con (.bl false))] [],
      .ret (.and (.call 5 [(.sli (.var 0) (some (.con (.int 3))) (some (.neg (.con (.int 1)))))]) (.call 4 [(.idx (.var 0) (.neg (.con (.int 1))))]))], false⟩
def d10 : Df := ⟨mk "is_wait" 20 [] [], ["thing", "many"], ["thing", "many"], f10, true, false⟩
theorem b10 : BindP d10.d d10.ps := fun _ _ _ _ _ _ us hl => match us, hl with | [_, _], _ => rfl
/-- is_fork -/
def f11 : Fn := ⟨1, 1, [], [.ife (.or (.at (.cmp .NotEq (.bi .len (.var 0)) (.con (.int 5)))) (.or (.nt (.at (.call 2 [(.idx (.var 0) (.con (.int 1)))]))) (.or (.nt (.at (.call 2 [(.idx (.var 0) (.con (.int 2)))]))) (.nt (.at (.call 1 [(.idx (.var 0) (.con (.int 4)))])))))) [.ret (.con (.bl false))] [],
      .ret (.or (.call 2 [(.idx (.var 0) (.con (.int 3)))]) (.and (.isi (.idx (.var 0) (.con (.int 3))) [.str]) (.cmp .Eq (.idx (.var 0) (.con (.int 3))) (.glo 2))))], false⟩
def d11 : Df := ⟨mk "is_fork" 21 [] [], ["thing"], ["thing"], f11, true, false⟩
theorem b11 : BindP d11.d d11.ps := fun _ _ _ _ _ _ us hl => match us, hl with | [_], _ => rfl
/-- is_instruction -/
def f12 : Fn := ⟨1, 2, [], [.ife (.or (.nt (.at (.isi (.var 0) [.tuple]))) (.or (.at (.cmp .Eq (.bi .len (.var 0)) (.con (.int 0)))) (.nt (.at (.isi (.idx (.var 0) (.con (.int 0))) [.str]))))) [.ret (.con (.bl false))] [],
      .asg 1 (.idx (.var 0) (.con (.int 0))),
      .ife (.at (.cmp .Eq (.var 1) (.con (.str "go")))) [.ret (.and (.cmp .Eq (.bi .len (.var 0)) (.con (.int 2))) (.and (.call 5 [(.idx (.var 0) (.con (.int 1)))]) (.and (.cmp .Gt (.bi .len (.idx (.var 0) (.con (.int 1)))) (.con (.int 0))) (.call 3 [(.idx (.var 0) (.con (.int 1)))]))))] [],
      .ife (.at (.cmp .Eq (.var 1) (.con (.str "fork")))) [.ret (.call 11 [(.var 0)])] [],
      .ife (.at (.cmp .In (.var 1) (.glo 7))) [.ret (.call 10 [(.var 0), (.bin .Add (.con (.int 1)) (.ixg 7 (.var 1)))])] [],
      .ife (.at (.cmp .In (.var 1) (.glo 8))) [.ret (.and (.cmp .Eq (.bi .len (.var 0)) (.con (.int 3))) (.and (.call 2 [(.idx (.var 0) (.con (.int 1)))]) (.call 1 [(.idx (.var 0) (.con (.int 2)))])))] [],
      .ret (.and (.cmp .Eq (.var 1) (.con (.str "exit"))) (.and (.cmp .Eq (.bi .len (.var 0)) (.con (.int 2))) (.and (.call 1 [(.idx (.var 0) (.con (.int 1)))]) (.cmp .LtE (.idx (.var 0) (.con (.int 1))) (.con (.int 1))))))], false⟩
def d12 : Df := ⟨mk "is_instruction" 22 [] [], ["thing", "word"], ["thing"], f12, true, false⟩
theorem b12 : BindP d12.d d12.ps := fun _ _ _ _ _ _ us hl => match us, hl with | [_], _ => rfl
/-- has_kind_shape -/
def f13 : Fn := ⟨1, 1, [], [.ife (.or (.nt (.at (.call 6 [(.var 0), (.con (.int 3))]))) (.or (.nt (.at (.call 2 [(.idx (.var 0) (.con (.int 0)))]))) (.nt (.at (.call 4 [(.idx (.var 0) (.con (.int 1)))]))))) [.ret (.con (.bl false))] [],
      .ret (.and (.isi (.idx (.var 0) (.con (.int 2))) [.tuple]) (.cmp .Gt (.bi .len (.idx (.var 0) (.con (.int 2)))) (.con (.int 0))))], false⟩
def d13 : Df := ⟨mk "has_kind_shape" 23 [] [], ["thing"], ["thing"], f13, true, false⟩
theorem b13 : BindP d13.d d13.ps := fun _ _ _ _ _ _ us hl => match us, hl with | [_], _ => rfl
/-- is_kind -/
def f14 : Fn := ⟨1, 2, [], [.ret (.and (.call 13 [(.var 0)]) (.bi .all (.comp (.call 12 [(.var 1)]) (.nm 1) .seq [(.idx (.var 0) (.con (.int 2)))] none)))], false⟩
def d14 : Df := ⟨mk "is_kind" 24 [] [], ["thing", "one"], ["thing"], f14, true, false⟩
theorem b14 : BindP d14.d d14.ps := fun _ _ _ _ _ _ us hl => match us, hl with | [_], _ => rfl
/-- is_step -/
def f15 : Fn := ⟨1, 1, [], [.ife (.or (.nt (.at (.call 6 [(.var 0), (.con (.int 3))]))) (.nt (.at (.call 1 [(.idx (.var 0) (.con (.int 0)))])))) [.ret (.con (.bl false))] [],
      .ife (.or (.nt (.at (.isi (.idx (.var 0) (.con (.int 1))) [.str]))) (.at (.cmp .NotIn (.idx (.var 0) (.con (.int 1))) (.glo 5)))) [.ret (.con (.bl false))] [],
      .ife (.at (.cmp .In (.idx (.var 0) (.con (.int 1))) (.glo 6))) [.ret (.call 1 [(.idx (.var 0) (.con (.int 2)))])] [],
      .ret (.and (.call 0 [(.idx (.var 0) (.con (.int 2)))]) (.cmp .Eq (.idx (.var 0) (.con (.int 2))) (.neg (.con (.int 1)))))], false⟩
def d15 : Df := ⟨mk "is_step" 25 [] [], ["thing"], ["thing"], f15, true, false⟩
theorem b15 : BindP d15.d d15.ps := fun _ _ _ _ _ _ us hl => match us, hl with | [_], _ => rfl
/-- is_content -/
def f16 : Fn := ⟨1, 1, [], [.ife (.or (.nt (.at (.isi (.var 0) [.tuple]))) (.at (.cmp .Eq (.bi .len (.var 0)) (.con (.int 0))))) [.ret (.isi (.var 0) [.tuple])] [],
      .ret (.and (.cmp .Eq (.bi .len (.var 0)) (.con (.int 2))) (.and (.call 1 [(.idx (.var 0) (.con (.int 0)))]) (.and (.call 0 [(.idx (.var 0) (.con (.int 1)))]) (.chn .LtE .LtE (.glo 4) (.idx (.var 0) (.con (.int 1))) (.con (.int 2))))))], false⟩
def d16 : Df := ⟨mk "is_content" 26 [] [], ["thing"], ["thing"], f16, true, false⟩
theorem b16 : BindP d16.d d16.ps := fun _ _ _ _ _ _ us hl => match us, hl with | [_], _ => rfl
/-- is_state -/
def f17 : Fn := ⟨1, 2, [], [.ife (.or (.nt (.at (.call 6 [(.var 0), (.con (.int 2))]))) (.or (.nt (.at (.call 1 [(.idx (.var 0) (.con (.int 0)))]))) (.nt (.at (.isi (.idx (.var 0) (.con (.int 1))) [.tuple]))))) [.ret (.con (.bl false))] [],
      .ret (.bi .all (.comp (.call 16 [(.var 1)]) (.nm 1) .seq [(.idx (.var 0) (.con (.int 1)))] none))], false⟩
def d17 : Df := ⟨mk "is_state" 27 [] [], ["thing", "one"], ["thing"], f17, true, false⟩
theorem b17 : BindP d17.d d17.ps := fun _ _ _ _ _ _ us hl => match us, hl with | [_], _ => rfl
/-- _law_feed -/
def f18 : Fn := ⟨1, 1, [], [.ret (.lst [(.sli (.var 0) none (some (.con (.int 63)))), (.con (.int 0)), (.con (.int 0)), (.con (.int 0))])], false⟩
def d18 : Df := ⟨mk "_law_feed" 29 [] [], ["_law_script"], ["_law_script"], f18, true, false⟩
theorem b18 : BindP d18.d d18.ps := fun _ _ _ _ _ _ us hl => match us, hl with | [_], _ => rfl
/-- _law_draw -/
def f19 : Fn := ⟨2, 6, [true, false], [.set 0 (.con (.int 3)) (.bin .Add (.idx (.var 0) (.con (.int 3))) (.con (.int 1))),
      .ife (.at (.cmp .Gt (.idx (.var 0) (.con (.int 2))) (.con (.int 0)))) [.asg 2 (.bin .Mod (.bi .int (.idx (.var 0) (.con (.int 2)))) (.var 1)),
      .set 0 (.con (.int 2)) (.bin .FloorDiv (.idx (.var 0) (.con (.int 2))) (.var 1)),
      .ret (.var 2)] [],
      .asg 3 (.idx (.var 0) (.con (.int 1))),
      .set 0 (.con (.int 1)) (.bin .Add (.var 3) (.con (.int 1))),
      .asg 4 (.ite (.at (.cmp .NotEq (.idx (.var 0) (.con (.int 0))) (.lst []))) (.idx (.idx (.var 0) (.con (.int 0))) (.bin .Mod (.bi .int (.var 3)) (.bi .len (.idx (.var 0) (.con (.int 0)))))) (.con (.int 37))),
      .ife (.and (.at (.cmp .GtE (.var 4) (.bin .Pow (.con (.int 10)) (.con (.int 18))))) (.at (.cmp .Lt (.var 3) (.bi .len (.idx (.var 0) (.con (.int 0))))))) [.set 0 (.con (.int 2)) (.bin .FloorDiv (.var 4) (.var 1)),
      .ret (.bin .Mod (.bi .int (.var 4)) (.var 1))] [],
      .asg 5 (.bin .Mod (.bi .int (.bin .Add (.bin .Add (.bin .Mod (.bi .int (.var 4)) (.con (.int 1999999943))) (.bin .Mult (.con (.int 50153)) (.idx (.var 0) (.con (.int 3))))) (.con (.int 173)))) (.con (.int 2147483587))),
      .asg 5 (.bin .Mod (.bi .int (.bin .Add (.bin .Add (.bin .Mult (.var 5) (.var 5)) (.bin .Mult (.bin .Mult (.con (.int 7919)) (.idx (.var 0) (.con (.int 3)))) (.idx (.var 0) (.con (.int 3))))) (.con (.int 83)))) (.con (.int 2147483549))),
      .ret (.bin .Mod (.bi .int (.bin .FloorDiv (.bin .Mod (.bi .int (.bin .Add (.bin .Add (.bin .Mult (.var 5) (.var 5)) (.bin .Mult (.con (.int 311)) (.var 5))) (.con (.int 7)))) (.con (.int 2147483497))) (.con (.int 64)))) (.var 1))], false⟩
def d19 : Df := ⟨mk "_law_draw" 30 [] [], ["_law_feed_here", "_law_size", "_law_digit", "_law_spot", "_law_cell", "_law_mixed"], ["_law_feed_here", "_law_size"], f19, true, false⟩
theorem b19 : BindP d19.d d19.ps := fun _ _ _ _ _ _ us hl => match us, hl with | [_, _], _ => rfl
/-- _law_pick -/
def f20 : Fn := ⟨2, 2, [true, false], [.ret (.idx (.var 1) (.call 19 [(.var 0), (.bi .len (.var 1))]))], false⟩
def d20 : Df := ⟨mk "_law_pick" 31 [] [], ["_law_feed_here", "_law_some_here"], ["_law_feed_here", "_law_some_here"], f20, true, false⟩
theorem b20 : BindP d20.d d20.ps := fun _ _ _ _ _ _ us hl => match us, hl with | [_, _], _ => rfl
/-- _law_label -/
def f21 : Fn := ⟨1, 4, [true], [.ife (.at (.cmp .Gt (.call 19 [(.var 0), (.con (.int 3))]) (.con (.int 0)))) [.asg 1 (.lst [(.con (.str "a")), (.con (.str "b")), (.con (.str "c")), (.con (.str "main")), (.con (.str "work")), (.con (.str "go")), (.con (.str "kind")), (.con (.str "fork")), (.con (.str "exit")), (.con (.str "wait")), (.con (.str "poll")), (.con (.str "zzzzzzzz")), (.con (.str "ab")), (.con (.str "x"))]),
      .ret (.call 20 [(.var 0), (.var 1)])] [],
      .asg 2 (.con (.str "abcdefghijklmnopqrstuvwxyz")),
      .ret (.join "" (.comp (.idx (.var 2) (.call 19 [(.var 0), (.con (.int 26))])) (.nm 3) .rng [(.bin .Add (.con (.int 1)) (.call 19 [(.var 0), (.con (.int 8))]))] none))], false⟩
def d21 : Df := ⟨mk "_law_label" 32 [] [], ["_law_feed_here", "_law_some_here", "_law_signs", "_law_lap"], ["_law_feed_here"], f21, true, false⟩
theorem b21 : BindP d21.d d21.ps := fun _ _ _ _ _ _ us hl => match us, hl with | [_], _ => rfl
/-- _law_labels -/
def f22 : Fn := ⟨2, 3, [true, false], [.ret (.bi .tuple (.srs (.comp (.call 21 [(.var 0)]) (.nm 2) .rng [(.call 19 [(.var 0), (.bin .Add (.var 1) (.con (.int 1)))])] none)))], false⟩
def d22 : Df := ⟨mk "_law_labels" 33 [] [], ["_law_feed_here", "_law_most", "_law_lap"], ["_law_feed_here", "_law_most"], f22, true, false⟩
theorem b22 : BindP d22.d d22.ps := fun _ _ _ _ _ _ us hl => match us, hl with | [_, _], _ => rfl
/-- _law_is_int -/
def f23 : Fn := ⟨1, 1, [], [.ret (.and (.isi (.var 0) [.int]) (.nt (.isi (.var 0) [.bool])))], false⟩
def d23 : Df := ⟨mk "_law_is_int" 34 [] [], ["_law_thing"], ["_law_thing"], f23, true, false⟩
theorem b23 : BindP d23.d d23.ps := fun _ _ _ _ _ _ us hl => match us, hl with | [_], _ => rfl
/-- _law_is_num -/
def f24 : Fn := ⟨1, 1, [], [.ret (.and (.call 23 [(.var 0)]) (.cmp .GtE (.var 0) (.con (.int 0))))], false⟩
def d24 : Df := ⟨mk "_law_is_num" 35 [] [], ["_law_thing"], ["_law_thing"], f24, true, false⟩
theorem b24 : BindP d24.d d24.ps := fun _ _ _ _ _ _ us hl => match us, hl with | [_], _ => rfl
/-- _law_is_label -/
def f25 : Fn := ⟨1, 2, [], [.ife (.or (.nt (.at (.isi (.var 0) [.str]))) (.nt (.at (.chn .LtE .LtE (.con (.int 1)) (.bi .len (.var 0)) (.con (.int 8)))))) [.ret (.con (.bl false))] [],
      .ret (.cmp .Eq (.comp (.var 1) (.nm 1) .seq [(.var 0)] (some (.at (.cmp .NotIn (.var 1) (.con (.str "abcdefghijklmnopqrstuvwxyz")))))) (.lst []))], false⟩
def d25 : Df := ⟨mk "_law_is_label" 36 [] [], ["_law_thing", "_law_sign"], ["_law_thing"], f25, true, false⟩
theorem b25 : BindP d25.d d25.ps := fun _ _ _ _ _ _ us hl => match us, hl with | [_], _ => rfl
/-- _law_are_labels -/
def f26 : Fn := ⟨1, 2, [], [.ife (.or (.nt (.at (.isi (.var 0) [.tuple]))) (.at (.cmp .NotEq (.comp (.var 1) (.nm 1) .seq [(.var 0)] (some (.nt (.at (.call 25 [(.var 1)]))))) (.lst [])))) [.ret (.con (.bl false))] [],
      .ret (.cmp .Eq (.bi .list (.var 0)) (.srs (.var 0)))], false⟩
def d26 : Df := ⟨mk "_law_are_labels" 37 [] [], ["_law_thing", "_law_one"], ["_law_thing"], f26, true, false⟩
theorem b26 : BindP d26.d d26.ps := fun _ _ _ _ _ _ us hl => match us, hl with | [_], _ => rfl
/-- _law_is_rows -/
def f27 : Fn := ⟨1, 4, [], [.ife (.nt (.at (.isi (.var 0) [.tuple]))) [.ret (.con (.bl false))] [],
      .loop (.nm 1) .seq [(.var 0)] [.ife (.or (.nt (.at (.isi (.var 1) [.tuple]))) (.or (.at (.cmp .NotEq (.bi .len (.var 1)) (.con (.int 4)))) (.nt (.at (.call 25 [(.idx (.var 1) (.con (.int 0)))]))))) [.ret (.con (.bl false))] [],
      .ife (.at (.cmp .NotEq (.comp (.var 3) (.nm 3) .seq [(.sli (.var 1) (some (.con (.int 1))) none)] (some (.nt (.at (.call 24 [(.var 3)]))))) (.lst []))) [.ret (.con (.bl false))] []],
      .asg 2 (.comp (.idx (.var 1) (.con (.int 0))) (.nm 1) .seq [(.var 0)] none),
      .ret (.cmp .Eq (.var 2) (.srs (.var 2)))], false⟩
def d27 : Df := ⟨mk "_law_is_rows" 38 [] [], ["_law_thing", "_law_row", "_law_heads", "_law_one"], ["_law_thing"], f27, true, false⟩
theorem b27 : BindP d27.d d27.ps := fun _ _ _ _ _ _ us hl => match us, hl with | [_], _ => rfl
/-- _law_is_take -/
def f28 : Fn := ⟨1, 2, [], [.ife (.or (.nt (.at (.call 27 [(.idx (.var 0) (.con (.int 1)))]))) (.nt (.at (.call 26 [(.idx (.var 0) (.neg (.con (.int 1))))])))) [.ret (.con (.bl false))] [],
      .ife (.or (.at (.cmp .NotEq (.comp (.var 1) (.nm 1) .seq [(.sli (.var 0) (some (.con (.int 3))) (some (.neg (.con (.int 1)))))] (some (.nt (.at (.call 24 [(.var 1)]))))) (.lst []))) (.nt (.at (.call 23 [(.idx (.var 0) (.con (.int 2)))])))) [.ret (.con (.bl false))] [],
      .ret (.or (.cmp .GtE (.idx (.var 0) (.con (.int 2))) (.con (.int 0))) (.and (.cmp .Eq (.idx (.var 0) (.con (.int 2))) (.neg (.con (.int 1)))) (.cmp .NotEq (.idx (.var 0) (.con (.int 1))) (.tup []))))], false⟩
def d28 : Df := ⟨mk "_law_is_take" 39 [] [], ["_law_thing", "_law_one"], ["_law_thing"], f28, true, false⟩
theorem b28 : BindP d28.d d28.ps := fun _ _ _ _ _ _ us hl => match us, hl with | [_], _ => rfl
/-- _law_is_act -/
def f29 : Fn := ⟨1, 4, [], [.ife (.or (.nt (.at (.isi (.var 0) [.tuple]))) (.or (.at (.cmp .Lt (.bi .len (.var 0)) (.con (.int 2)))) (.nt (.at (.isi (.idx (.var 0) (.con (.int 0))) [.str]))))) [.ret (.con (.bl false))] [],
      .par 1 2 (.idx (.var 0) (.con (.int 0))) (.bi .len (.var 0)),
      .ife (.at (.cmp .Eq (.var 1) (.con (.str "go")))) [.ife (.or (.at (.cmp .NotEq (.var 2) (.con (.int 2)))) (.or (.nt (.at (.isi (.idx (.var 0) (.con (.int 1))) [.tuple]))) (.at (.cmp .Eq (.idx (.var 0) (.con (.int 1))) (.tup []))))) [.ret (.con (.bl false))] [],
      .ret (.and (.cmp .Eq (.comp (.var 3) (.nm 3) .seq [(.idx (.var 0) (.con (.int 1)))] (some (.nt (.at (.call 24 [(.var 3)]))))) (.lst [])) (.cmp .Eq (.bi .list (.idx (.var 0) (.con (.int 1)))) (.srs (.idx (.var 0) (.con (.int 1))))))] [],
      .ife (.at (.cmp .Eq (.var 1) (.con (.str "fork")))) [.ife (.or (.at (.cmp .NotEq (.var 2) (.con (.int 5)))) (.or (.nt (.at (.call 25 [(.idx (.var 0) (.con (.int 1)))]))) (.nt (.at (.call 25 [(.idx (.var 0) (.con (.int 2)))]))))) [.ret (.con (.bl false))] [],
      .ret (.and (.or (.cmp .Eq (.idx (.var 0) (.con (.int 3))) (.con (.str ""))) (.call 25 [(.idx (.var 0) (.con (.int 3)))])) (.call 24 [(.idx (.var 0) (.con (.int 4)))]))] [],
      .ife (.at (.cmp .In (.var 1) (.tup [(.con (.str "wait")), (.con (.str "poll"))]))) [.ret (.and (.cmp .Eq (.var 2) (.ite (.at (.cmp .Eq (.var 1) (.con (.str "wait")))) (.con (.int 5)) (.con (.int 6)))) (.call 28 [(.var 0)]))] [],
      .ife (.at (.cmp .In (.var 1) (.tup [(.con (.str "kill")), (.con (.str "release"))]))) [.ret (.and (.cmp .Eq (.var 2) (.con (.int 3))) (.and (.call 25 [(.idx (.var 0) (.con (.int 1)))]) (.call 24 [(.idx (.var 0) (.con (.int 2)))])))] [],
      .ret (.and (.cmp .Eq (.var 1) (.con (.str "exit"))) (.and (.cmp .Eq (.var 2) (.con (.int 2))) (.and (.call 23 [(.idx (.var 0) (.con (.int 1)))]) (.cmp .In (.idx (.var 0) (.con (.int 1))) (.tup [(.con (.int 0)), (.con (.int 1))])))))], false⟩
def d29 : Df := ⟨mk "_law_is_act" 40 [] [], ["_law_thing", "_law_word", "_law_many", "_law_one"], ["_law_thing"], f29, true, false⟩
theorem b29 : BindP d29.d d29.ps := fun _ _ _ _ _ _ us hl => match us, hl with | [_], _ => rfl
/-- _law_is_kind -/
def f30 : Fn := ⟨1, 2, [], [.ife (.or (.nt (.at (.isi (.var 0) [.tuple]))) (.or (.at (.cmp .NotEq (.bi .len (.var 0)) (.con (.int 3)))) (.nt (.at (.call 25 [(.idx (.var 0) (.con (.int 0)))]))))) [.ret (.con (.bl false))] [],
      .ife (.or (.nt (.at (.call 26 [(.idx (.var 0) (.con (.int 1)))]))) (.or (.nt (.at (.isi (.idx (.var 0) (.con (.int 2))) [.tuple]))) (.at (.cmp .Eq (.idx (.var 0) (.con (.int 2))) (.tup []))))) [.ret (.con (.bl false))] [],
      .ret (.cmp .Eq (.comp (.var 1) (.nm 1) .seq [(.idx (.var 0) (.con (.int 2)))] (some (.nt (.at (.call 29 [(.var 1)]))))) (.lst []))], false⟩
def d30 : Df := ⟨mk "_law_is_kind" 41 [] [], ["_law_thing", "_law_one"], ["_law_thing"], f30, true, false⟩
theorem b30 : BindP d30.d d30.ps := fun _ _ _ _ _ _ us hl => match us, hl with | [_], _ => rfl
/-- _law_is_step -/
def f31 : Fn := ⟨1, 2, [], [.ife (.or (.nt (.at (.isi (.var 0) [.tuple]))) (.or (.at (.cmp .NotEq (.bi .len (.var 0)) (.con (.int 3)))) (.or (.nt (.at (.call 24 [(.idx (.var 0) (.con (.int 0)))]))) (.nt (.at (.isi (.idx (.var 0) (.con (.int 1))) [.str])))))) [.ret (.con (.bl false))] [],
      .ife (.at (.cmp .In (.idx (.var 0) (.con (.int 1))) (.tup [(.con (.str "go")), (.con (.str "take"))]))) [.ret (.call 24 [(.idx (.var 0) (.con (.int 2)))])] [],
      .asg 1 (.tup [(.con (.str "fork")), (.con (.str "none")), (.con (.str "later")), (.con (.str "kill")), (.con (.str "release")), (.con (.str "exit"))]),
      .ret (.and (.cmp .In (.idx (.var 0) (.con (.int 1))) (.var 1)) (.and (.call 23 [(.idx (.var 0) (.con (.int 2)))]) (.cmp .Eq (.idx (.var 0) (.con (.int 2))) (.neg (.con (.int 1))))))], false⟩
def d31 : Df := ⟨mk "_law_is_step" 42 [] [], ["_law_thing", "_law_words"], ["_law_thing"], f31, true, false⟩
theorem b31 : BindP d31.d d31.ps := fun _ _ _ _ _ _ us hl => match us, hl with | [_], _ => rfl
/-- _law_is_content -/
def f32 : Fn := ⟨1, 1, [], [.ife (.or (.nt (.at (.isi (.var 0) [.tuple]))) (.at (.cmp .NotIn (.bi .len (.var 0)) (.tup [(.con (.int 0)), (.con (.int 2))])))) [.ret (.con (.bl false))] [],
      .ife (.at (.cmp .Eq (.var 0) (.tup []))) [.ret (.con (.bl true))] [],
      .ret (.and (.call 24 [(.idx (.var 0) (.con (.int 0)))]) (.and (.call 23 [(.idx (.var 0) (.con (.int 1)))]) (.cmp .In (.idx (.var 0) (.con (.int 1))) (.tup [(.neg (.con (.int 1))), (.con (.int 0)), (.con (.int 1)), (.con (.int 2))]))))], false⟩
def d32 : Df := ⟨mk "_law_is_content" 43 [] [], ["_law_thing"], ["_law_thing"], f32, true, false⟩
theorem b32 : BindP d32.d d32.ps := fun _ _ _ _ _ _ us hl => match us, hl with | [_], _ => rfl
/-- _law_is_state -/
def f33 : Fn := ⟨1, 2, [], [.ife (.or (.nt (.at (.isi (.var 0) [.tuple]))) (.or (.at (.cmp .NotEq (.bi .len (.var 0)) (.con (.int 2)))) (.nt (.at (.call 24 [(.idx (.var 0) (.con (.int 0)))]))))) [.ret (.con (.bl false))] [],
      .ret (.and (.isi (.idx (.var 0) (.con (.int 1))) [.tuple]) (.cmp .Eq (.comp (.var 1) (.nm 1) .seq [(.idx (.var 0) (.con (.int 1)))] (some (.nt (.at (.call 32 [(.var 1)]))))) (.lst [])))], false⟩
def d33 : Df := ⟨mk "_law_is_state" 44 [] [], ["_law_thing", "_law_one"], ["_law_thing"], f33, true, false⟩
theorem b33 : BindP d33.d d33.ps := fun _ _ _ _ _ _ us hl => match us, hl with | [_], _ => rfl
/-- _law_right -/
def f34 : Fn := ⟨1, 3, [], [.asg 1 (.lst [(.call 0 [(.var 0)]), (.call 1 [(.var 0)]), (.call 2 [(.var 0)]), (.call 4 [(.var 0)]), (.call 12 [(.var 0)])]),
      .asg 1 (.bin .Add (.var 1) (.lst [(.call 14 [(.var 0)]), (.call 15 [(.var 0)]), (.call 17 [(.var 0)])])),
      .asg 2 (.lst [(.call 23 [(.var 0)]), (.call 24 [(.var 0)]), (.call 25 [(.var 0)]), (.call 26 [(.var 0)]), (.call 29 [(.var 0)])]),
      .asg 2 (.bin .Add (.var 2) (.lst [(.call 30 [(.var 0)]), (.call 31 [(.var 0)]), (.call 33 [(.var 0)])])),
      .ret (.cmp .Eq (.rpr (.var 1)) (.rpr (.var 2)))], false⟩
def d34 : Df := ⟨mk "_law_right" 45 [] [], ["_law_thing", "_law_told", "_law_due"], ["_law_thing"], f34, true, false⟩
theorem b34 : BindP d34.d d34.ps := fun _ _ _ _ _ _ us hl => match us, hl with | [_], _ => rfl
/-- _law_some_act -/
def f35 : Fn := ⟨1, 6, [true], [.asgT [1, 2] (.tup [(.call 19 [(.var 0), (.con (.int 8))]), (.call 19 [(.var 0), (.con (.int 12))])]),
      .ife (.at (.cmp .Lt (.var 1) (.con (.int 2)))) [.ret (.tup [(.con (.str "go")), (.bi .tuple (.srs (.lst [(.var 2), (.call 19 [(.var 0), (.con (.int 12))]), (.call 19 [(.var 0), (.con (.int 40))])])))])] [],
      .ife (.at (.cmp .Eq (.var 1) (.con (.int 2)))) [.ret (.tup [(.con (.str "fork")), (.call 21 [(.var 0)]), (.call 21 [(.var 0)]), (.idx (.lst [(.con (.str "")), (.call 21 [(.var 0)])]) (.call 19 [(.var 0), (.con (.int 2))])), (.var 2)])] [],
      .ife (.at (.cmp .Lt (.var 1) (.con (.int 5)))) [.asg 3 (.bi .tuple (.comp (.tup [(.var 5), (.var 2), (.call 19 [(.var 0), (.con (.int 9))]), (.call 19 [(.var 0), (.con (.int 200))])]) (.nm 5) .seq [(.call 22 [(.var 0), (.con (.int 3))])] none)),
      .asg 4 (.ite (.at (.cmp .NotEq (.var 3) (.tup []))) (.bin .Sub (.call 19 [(.var 0), (.con (.int 9))]) (.con (.int 1))) (.var 2)),
      .ife (.at (.cmp .Eq (.var 1) (.con (.int 3)))) [.ret (.tup [(.con (.str "wait")), (.var 3), (.var 4), (.var 2), (.call 22 [(.var 0), (.con (.int 3))])])] [],
      .ret (.tup [(.con (.str "poll")), (.var 3), (.var 4), (.var 2), (.call 19 [(.var 0), (.con (.int 9))]), (.call 22 [(.var 0), (.con (.int 3))])])] [],
      .ife (.at (.cmp .Lt (.var 1) (.con (.int 7)))) [.ret (.tup [(.idx (.lst [(.con (.str "kill")), (.con (.str "release"))]) (.bin .Sub (.var 1) (.con (.int 5)))), (.call 21 [(.var 0)]), (.var 2)])] [],
      .ret (.tup [(.con (.str "exit")), (.call 19 [(.var 0), (.con (.int 2))])])], false⟩
def d35 : Df := ⟨mk "_law_some_act" 46 [] [], ["_law_feed_here", "_law_way", "_law_to", "_law_rows", "_law_pool", "_law_slot"], ["_law_feed_here"], f35, true, false⟩
theorem b35 : BindP d35.d d35.ps := fun _ _ _ _ _ _ us hl => match us, hl with | [_], _ => rfl
/-- _law_some -/
def f36 : Fn := ⟨1, 8, [true], [.par 1 2 (.call 19 [(.var 0), (.con (.int 9))]) (.call 19 [(.var 0), (.con (.int 300))]),
      .ife (.at (.cmp .Lt (.var 1) (.con (.int 4)))) [.ret (.call 35 [(.var 0)])] [],
      .ife (.at (.cmp .Eq (.var 1) (.con (.int 4)))) [.asg 3 (.bi .tuple (.comp (.call 35 [(.var 0)]) (.nm 7) .rng [(.bin .Add (.con (.int 1)) (.call 19 [(.var 0), (.con (.int 4))]))] none)),
      .ret (.tup [(.call 21 [(.var 0)]), (.call 22 [(.var 0), (.con (.int 3))]), (.var 3)])] [],
      .ife (.at (.cmp .Eq (.var 1) (.con (.int 5)))) [.asg 4 (.lst [(.con (.str "go")), (.con (.str "take")), (.con (.str "fork")), (.con (.str "none")), (.con (.str "later")), (.con (.str "kill")), (.con (.str "release")), (.con (.str "exit"))]),
      .asg 5 (.call 19 [(.var 0), (.con (.int 8))]),
      .ret (.tup [(.var 2), (.idx (.var 4) (.var 5)), (.ite (.at (.cmp .Lt (.var 5) (.con (.int 2)))) (.call 19 [(.var 0), (.con (.int 40))]) (.neg (.con (.int 1))))])] [],
      .ife (.at (.cmp .Lt (.var 1) (.con (.int 8)))) [.asg 6 (.lst [(.tup []), (.tup [(.var 2), (.neg (.con (.int 1)))]), (.tup [(.con (.int 0)), (.con (.int 0))]), (.tup [(.var 2), (.con (.int 1))]), (.tup [(.con (.int 7)), (.con (.int 2))])]),
      .ret (.tup [(.call 19 [(.var 0), (.con (.int 40))]), (.bi .tuple (.comp (.call 20 [(.var 0), (.var 6)]) (.nm 7) .rng [(.call 19 [(.var 0), (.con (.int 4))])] none))])] [],
      .ret (.idx (.lst [(.var 2), (.call 21 [(.var 0)]), (.call 22 [(.var 0), (.con (.int 4))])]) (.call 19 [(.var 0), (.con (.int 3))]))], false⟩
def d36 : Df := ⟨mk "_law_some" 47 [] [], ["_law_feed_here", "_law_way", "_law_number", "_law_places", "_law_words", "_law_at", "_law_some_here", "_law_lap"], ["_law_feed_here"], f36, true, false⟩
theorem b36 : BindP d36.d d36.ps := fun _ _ _ _ _ _ us hl => match us, hl with | [_], _ => rfl
/-- _law_odd -/
def f37 : Fn := ⟨1, 2, [true], [.asg 1 (.lst [(.con .non), (.con (.bl true)), (.con (.bl false)), (.con (.int 0)), (.con (.int 1)), (.con (.int 2)), (.con (.int 3)), (.neg (.con (.int 1))), (.neg (.con (.int 2))), (.bin .Pow (.con (.int 10)) (.con (.int 59))), (.neg (.bin .Pow (.con (.int 10)) (.con (.int 59)))), (.con (.str "")), (.con (.str "a")), (.con (.str "B")), (.con (.str "a b")), (.con (.str "a1")), (.con (.str "-")), (.con (.str "go")), (.con (.str "exit"))]),
      .asg 1 (.bin .Add (.var 1) (.lst [(.con (.str "abcdefgh")), (.con (.str "abcdefghi")), (.tup []), (.lst []), (.tup [(.con (.str "a"))]), (.lst [(.con (.str "a"))]), (.tup [(.con (.str "b")), (.con (.str "a"))]), (.tup [(.con (.str "a")), (.con (.str "a"))]), (.tup [(.con (.int 0))]), (.lst [(.con (.int 0))]), (.tup [(.con (.int 1)), (.con (.int 0))]), (.tup [(.con (.int 0)), (.neg (.con (.int 1)))])])),
      .ret (.call 20 [(.var 0), (.bin .Add (.var 1) (.lst [(.tup [(.con (.int 0)), (.con (.int 2))]), (.tup [(.con (.str "a")), (.con (.int 0)), (.con (.int 0)), (.con (.int 0))]), (.tup [(.tup [(.con (.str "a")), (.con (.int 0)), (.con (.int 0)), (.con (.int 0))])]), (.con (.str "wait")), (.tup [(.con (.bl true))]), (.tup [(.con (.int 0)), (.con (.bl true))])]))])], false⟩
def d37 : Df := ⟨mk "_law_odd" 48 [] [], ["_law_feed_here", "_law_some_here"], ["_law_feed_here"], f37, true, false⟩
theorem b37 : BindP d37.d d37.ps := fun _ _ _ _ _ _ us hl => match us, hl with | [_], _ => rfl
/-- _law_bent -/
def f38 : Fn := ⟨2, 4, [true, false], [.ife (.or (.nt (.at (.isi (.var 1) [.tuple]))) (.or (.at (.cmp .Eq (.var 1) (.tup []))) (.at (.cmp .Eq (.call 19 [(.var 0), (.con (.int 6))]) (.con (.int 0)))))) [.ret (.call 37 [(.var 0)])] [],
      .par 2 3 (.call 19 [(.var 0), (.bi .len (.var 1))]) (.call 19 [(.var 0), (.con (.int 9))]),
      .ife (.at (.cmp .Eq (.var 3) (.con (.int 0)))) [.ret (.bin .Add (.sli (.var 1) none (some (.var 2))) (.sli (.var 1) (some (.bin .Add (.var 2) (.con (.int 1)))) none))] [],
      .ife (.at (.cmp .Eq (.var 3) (.con (.int 1)))) [.ret (.bin .Add (.sli (.var 1) none (some (.bin .Add (.var 2) (.con (.int 1))))) (.sli (.var 1) (some (.var 2)) none))] [],
      .ife (.at (.cmp .Eq (.var 3) (.con (.int 2)))) [.ret (.bi .list (.var 1))] [],
      .ife (.at (.cmp .Eq (.var 3) (.con (.int 3)))) [.ret (.bin .Add (.bin .Add (.sli (.var 1) none (some (.var 2))) (.sli (.var 1) (some (.bin .Add (.var 2) (.con (.int 1)))) none)) (.sli (.var 1) (some (.var 2)) (some (.bin .Add (.var 2) (.con (.int 1))))))] [],
      .ret (.bin .Add (.bin .Add (.sli (.var 1) none (some (.var 2))) (.tup [(.call 38 [(.var 0), (.idx (.var 1) (.var 2))])])) (.sli (.var 1) (some (.bin .Add (.var 2) (.con (.int 1)))) none))], false⟩
def d38 : Df := ⟨mk "_law_bent" 49 [] [], ["_law_feed_here", "_law_thing", "_law_at", "_law_way"], ["_law_feed_here", "_law_thing"], f38, true, false⟩
theorem b38 : BindP d38.d d38.ps := fun _ _ _ _ _ _ us hl => match us, hl with | [_, _], _ => rfl
/-- _law_fixed -/
def f39 : Fn := ⟨0, 3, [], [.asg 0 (.tup []),
      .loop (.nm 1) .rng [(.con (.int 27))] [.asg 0 (.tup [(.var 0)])],
      .asg 2 (.lst [(.var 0), (.lst [(.var 0)]), (.con .non), (.con (.bl true)), (.con (.bl false)), (.con (.int 0)), (.neg (.con (.int 1))), (.bin .Pow (.con (.int 10)) (.con (.int 59))), (.con (.str "")), (.bin .Mult (.con (.str "a")) (.con (.int 8))), (.bin .Mult (.con (.str "a")) (.con (.int 9))), (.con (.str "z")), (.con (.str "Az")), (.con (.str "0"))]),
      .asg 2 (.bin .Add (.var 2) (.lst [(.tup []), (.lst []), (.tup [(.tup [])])])),
      .asg 2 (.bin .Add (.var 2) (.lst [(.tup [(.con (.str "a")), (.con (.str "b"))]), (.tup [(.con (.str "b")), (.con (.str "a"))]), (.tup [(.con (.str "a")), (.con (.str "a"))]), (.lst [(.con (.str "a"))]), (.tup [(.con (.str "a")), (.con (.str ""))]), (.tup [(.con (.str "go")), (.tup [])]), (.tup [(.con (.str "go")), (.tup [(.con (.int 0))])]), (.tup [(.con (.str "go")), (.tup [(.con (.int 1)), (.con (.int 0))])])])),
      .asg 2 (.bin .Add (.var 2) (.lst [(.tup [(.con (.str "go")), (.tup [(.con (.int 0)), (.con (.int 0))])]), (.tup [(.con (.str "go")), (.tup [(.con (.int 0)), (.con (.bl true))])]), (.tup [(.con (.str "go")), (.lst [(.con (.int 0))])]), (.tup [(.con (.str "go")), (.con (.int 0))]), (.tup [(.con (.str "exit")), (.con (.int 0))]), (.tup [(.con (.str "exit")), (.con (.int 2))])])),
      .asg 2 (.bin .Add (.var 2) (.lst [(.tup [(.con (.str "exit")), (.con (.bl true))]), (.tup [(.con (.str "wait")), (.tup []), (.neg (.con (.int 1))), (.con (.int 0)), (.tup [])]), (.tup [(.con (.str "wait")), (.tup []), (.con (.int 0)), (.con (.int 0)), (.tup [])])])),
      .asg 2 (.bin .Add (.var 2) (.lst [(.tup [(.con (.str "wait")), (.tup [(.tup [(.con (.str "a")), (.con (.int 0)), (.con (.int 0)), (.con (.int 0))])]), (.neg (.con (.int 1))), (.con (.int 0)), (.tup [])])])),
      .asg 2 (.bin .Add (.var 2) (.lst [(.tup [(.con (.str "wait")), (.tup [(.tup [(.con (.str "a")), (.con (.int 0)), (.con (.int 0)), (.con (.int 0))])]), (.neg (.con (.int 2))), (.con (.int 0)), (.tup [])]), (.tup [(.con (.str "wait")), (.tup [(.tup [(.con (.str "a")), (.con (.int 0)), (.con (.int 0)), (.con (.int 0))])]), (.con (.bl true)), (.con (.int 0)), (.tup [])]), (.tup [(.con (.str "wait"))])])),
      .asg 2 (.bin .Add (.var 2) (.lst [(.tup [(.con (.str "wait")), (.tup [(.tup [(.con (.str "")), (.con (.int 0)), (.con (.int 0)), (.con (.int 0))])]), (.con (.int 0)), (.con (.int 0)), (.tup [])]), (.tup [(.con (.str "poll")), (.tup []), (.con (.int 0)), (.con (.int 0)), (.tup [])]), (.tup [(.con (.str "poll")), (.tup []), (.con (.int 0)), (.con (.int 0)), (.con (.int 0)), (.tup [])])])),
      .asg 2 (.bin .Add (.var 2) (.lst [(.tup [(.con (.str "poll")), (.tup [(.tup [(.con (.str "b")), (.con (.int 0)), (.con (.int 0)), (.con (.int 0))]), (.tup [(.con (.str "a")), (.con (.int 0)), (.con (.int 0)), (.con (.int 0))])]), (.con (.int 0)), (.con (.int 0)), (.con (.int 0)), (.tup [])]), (.tup [(.con (.str "poll")), (.tup []), (.neg (.con (.int 1))), (.con (.int 0)), (.con (.int 0)), (.tup [])])])),
      .asg 2 (.bin .Add (.var 2) (.lst [(.tup [(.con (.str "fork")), (.con (.str "a")), (.con (.str "b")), (.con (.str "")), (.con (.int 0))]), (.tup [(.con (.str "fork")), (.con (.str "")), (.con (.str "b")), (.con (.str "")), (.con (.int 0))]), (.tup [(.con (.str "fork")), (.con (.str "a")), (.con (.str "")), (.con (.str "")), (.con (.int 0))]), (.tup [(.con (.str "kill")), (.con (.str "")), (.con (.int 0))])])),
      .asg 2 (.bin .Add (.var 2) (.lst [(.tup [(.con (.str "release")), (.con (.str "a")), (.neg (.con (.int 1)))]), (.tup [(.con (.str "a")), (.tup []), (.tup [])]), (.tup [(.con (.str "a")), (.tup []), (.tup [(.tup [(.con (.str "exit")), (.con (.int 0))])])]), (.tup [(.con (.str "")), (.tup []), (.tup [(.tup [(.con (.str "exit")), (.con (.int 0))])])])])),
      .asg 2 (.bin .Add (.var 2) (.lst [(.tup [(.con (.int 0)), (.con (.str "exit")), (.neg (.con (.int 1)))]), (.tup [(.con (.int 0)), (.con (.str "exit")), (.con (.int 0))]), (.tup [(.con (.int 0)), (.con (.str "go")), (.neg (.con (.int 1)))]), (.tup [(.con (.int 0)), (.con (.str "take")), (.con (.int 0))]), (.tup [(.con (.int 0)), (.con (.str "wait")), (.neg (.con (.int 1)))]), (.tup [(.con (.bl true)), (.con (.str "go")), (.con (.int 0))])])),
      .asg 2 (.bin .Add (.var 2) (.lst [(.tup [(.con (.int 0)), (.con (.str "later")), (.neg (.con (.int 1)))]), (.tup [(.con (.int 0)), (.con (.str "Go")), (.con (.int 0))]), (.tup [(.con (.int 0)), (.tup [])]), (.tup [(.con (.int 0)), (.tup [(.tup [])])]), (.tup [(.con (.int 0)), (.tup [(.tup [(.con (.int 0)), (.con (.int 2))])])]), (.tup [(.con (.int 0)), (.tup [(.tup [(.con (.int 0)), (.con (.int 3))])])])])),
      .asg 2 (.bin .Add (.var 2) (.lst [(.tup [(.con (.int 0)), (.tup [(.tup [(.con (.int 0)), (.neg (.con (.int 2)))])])]), (.tup [(.con (.int 0)), (.lst [(.tup [])])]), (.tup [(.con (.int 0)), (.tup [(.tup [(.con (.int 0)), (.con (.bl true))])])]), (.tup [(.con (.bl true)), (.tup [])]), (.tup [(.neg (.con (.int 1))), (.tup [])]), (.tup [(.con (.int 0)), (.tup [(.tup []), (.tup [(.con (.int 5)), (.neg (.con (.int 1)))])])])])),
      .ret (.bin .Add (.var 2) (.lst [(.tup [(.con (.int 0)), (.tup [(.tup [(.neg (.con (.int 1))), (.con (.int 0))])])]), (.tup [(.tup [(.con (.str "go")), (.con (.int 0))])])]))], false⟩
def d39 : Df := ⟨mk "_law_fixed" 50 [] [], ["_law_deep", "_law_lap", "_law_found"], [], f39, true, false⟩
theorem b39 : BindP d39.d d39.ps := fun _ _ _ _ _ _ us hl => match us, hl with | [], _ => rfl
/-- law -/
def f40 : Fn := ⟨1, 7, [], [.asg 1 (.call 18 [(.var 0)]),
      .loop (.nm 2) .seq [(.call 39 [])] [.ife (.nt (.at (.call 34 [(.var 2)]))) [.ret (.con (.bl false))] []],
      .loop (.nm 3) .rng [(.con (.int 12))] [.asg 2 (.call 36 [(.var 1)]),
      .asg 4 (.call 38 [(.var 1), (.var 2)]),
      .asg 5 (.call 38 [(.var 1), (.var 4)]),
      .loop (.nm 6) .seq [(.tup [(.var 2), (.var 4), (.var 5), (.call 38 [(.var 1), (.var 5)])])] [.ife (.nt (.at (.call 34 [(.var 6)]))) [.ret (.con (.bl false))] []]],
      .ret (.con (.bl true))], false⟩
def d40 : Df := ⟨mk "law" 51 [] [], ["_law_script", "_law_feed_here", "_law_thing", "_law_lap", "_law_once", "_law_twice", "_law_one"], ["_law_script"], f40, true, false⟩
theorem b40 : BindP d40.d d40.ps := fun _ _ _ _ _ _ us hl => match us, hl with | [_], _ => rfl
def ers : List (Er × Bool × Bool) := []
def pg : Pg := ⟨[d0, d1, d2, d3, d4, d5, d6, d7, d8, d9, d10, d11, d12, d13, d14, d15, d16, d17, d18, d19, d20, d21, d22, d23, d24, d25, d26, d27, d28, d29, d30, d31, d32, d33, d34, d35, d36, d37, d38, d39, d40],
  [("LETTERS", (.str "abcdefghijklmnopqrstuvwxyz")), ("LONGEST_NAME", (.int 8)), ("POOL", (.str "")), ("NO_PLACE", (.int (-1))), ("LIVING", (.int (-1))), ("STEP_WORDS", (.tup [(.str "go"), (.str "fork"), (.str "take"), (.str "none"), (.str "later"), (.str "kill"), (.str "release"), (.str "exit")])), ("NUMBERED_WORDS", (.tup [(.str "go"), (.str "take")])), ("WAIT_WORDS", (.tup [(.str "wait"), (.str "poll")])), ("SLOT_WORDS", (.tup [(.str "kill"), (.str "release")]))],
  [], ers, [], "", 0, PySem.Challenge.pw_forkyields_k01_kinds.main.file⟩
theorem bd : ∀ (i : Nat) x, pg.dfs[i]? = some x → x.po = true → x.fi.st = false → BindP x.d x.ps := fun _ x h =>
  ((List.forall_mem_cons.mpr ⟨(fun _ _ => b0), (List.forall_mem_cons.mpr ⟨(fun _ _ => b1), (List.forall_mem_cons.mpr ⟨(fun _ _ => b2), (List.forall_mem_cons.mpr ⟨(fun _ _ => b3), (List.forall_mem_cons.mpr ⟨(fun _ _ => b4), (List.forall_mem_cons.mpr ⟨(fun _ _ => b5), (List.forall_mem_cons.mpr ⟨(fun _ _ => b6), (List.forall_mem_cons.mpr ⟨(fun _ _ => b7), (List.forall_mem_cons.mpr ⟨(fun _ _ => b8), (List.forall_mem_cons.mpr ⟨(fun _ _ => b9), (List.forall_mem_cons.mpr ⟨(fun _ _ => b10), (List.forall_mem_cons.mpr ⟨(fun _ _ => b11), (List.forall_mem_cons.mpr ⟨(fun _ _ => b12), (List.forall_mem_cons.mpr ⟨(fun _ _ => b13), (List.forall_mem_cons.mpr ⟨(fun _ _ => b14), (List.forall_mem_cons.mpr ⟨(fun _ _ => b15), (List.forall_mem_cons.mpr ⟨(fun _ _ => b16), (List.forall_mem_cons.mpr ⟨(fun _ _ => b17), (List.forall_mem_cons.mpr ⟨(fun _ _ => b18), (List.forall_mem_cons.mpr ⟨(fun _ _ => b19), (List.forall_mem_cons.mpr ⟨(fun _ _ => b20), (List.forall_mem_cons.mpr ⟨(fun _ _ => b21), (List.forall_mem_cons.mpr ⟨(fun _ _ => b22), (List.forall_mem_cons.mpr ⟨(fun _ _ => b23), (List.forall_mem_cons.mpr ⟨(fun _ _ => b24), (List.forall_mem_cons.mpr ⟨(fun _ _ => b25), (List.forall_mem_cons.mpr ⟨(fun _ _ => b26), (List.forall_mem_cons.mpr ⟨(fun _ _ => b27), (List.forall_mem_cons.mpr ⟨(fun _ _ => b28), (List.forall_mem_cons.mpr ⟨(fun _ _ => b29), (List.forall_mem_cons.mpr ⟨(fun _ _ => b30), (List.forall_mem_cons.mpr ⟨(fun _ _ => b31), (List.forall_mem_cons.mpr ⟨(fun _ _ => b32), (List.forall_mem_cons.mpr ⟨(fun _ _ => b33), (List.forall_mem_cons.mpr ⟨(fun _ _ => b34), (List.forall_mem_cons.mpr ⟨(fun _ _ => b35), (List.forall_mem_cons.mpr ⟨(fun _ _ => b36), (List.forall_mem_cons.mpr ⟨(fun _ _ => b37), (List.forall_mem_cons.mpr ⟨(fun _ _ => b38), (List.forall_mem_cons.mpr ⟨(fun _ _ => b39), (List.forall_mem_cons.mpr ⟨(fun _ _ => b40), (List.forall_mem_nil _)⟩)⟩)⟩)⟩)⟩)⟩)⟩)⟩)⟩)⟩)⟩)⟩)⟩)⟩)⟩)⟩)⟩)⟩)⟩)⟩)⟩)⟩)⟩)⟩)⟩)⟩)⟩)⟩)⟩)⟩)⟩)⟩)⟩)⟩)⟩)⟩)⟩)⟩)⟩)⟩)⟩) : ∀ x ∈ pg.dfs, x.po = true → x.fi.st = false → BindP x.d x.ps) x (List.mem_of_getElem? h)
theorem bs0 : (pg.dfs.all fun x => !x.fi.st) = true := by decide +kernel
theorem bs : ∀ (i : Nat) x, pg.dfs[i]? = some x → x.fi.st = true → ∃ qs pv, x.ps = qs ++ [pv] ∧ BindS (x.d.name, x.d.qual, x.d.params, x.d.body, x.d.scope) qs pv := fun _ x h e => absurd (List.all_eq_true.mp bs0 x (List.mem_of_getElem? h)) (by simp [e])
theorem kw : ∀ (q : Nat) f, pg.kf[q]? = some f → ∃ x, pg.dfs[f.k]? = some x ∧ x.d.at_.1 = f.x ∧ x.fi.st = false ∧ KwP x.d x.ps f := fun _ f h =>
  ((List.forall_mem_nil _) : ∀ f ∈ pg.kf, ∃ x, pg.dfs[f.k]? = some x ∧ x.d.at_.1 = f.x ∧ x.fi.st = false ∧ KwP x.d x.ps f) f (List.mem_of_getElem? h)
theorem he : (∃ x ∈ pg.dfs, x.lam = true) → HearP pg := fun ⟨x, h, e⟩ => by simp [pg] at h; rcases h with rfl | rfl | rfl | rfl | rfl | rfl | rfl | rfl | rfl | rfl | rfl | rfl | rfl | rfl | rfl | rfl | rfl | rfl | rfl | rfl | rfl | rfl | rfl | rfl | rfl | rfl | rfl | rfl | rfl | rfl | rfl | rfl | rfl | rfl | rfl | rfl | rfl | rfl | rfl | rfl | rfl <;> cases e

theorem ok : pg.ok = true := by decide +kernel
theorem txt : pg.Txt (PySem.W.OpenLaw.prog PySem.Challenge.rw_forkyields_k01_kinds) := ⟨ok, bd, bs, kw, he, rfl, by decide +kernel⟩
end Q
set_option Elab.async false
set_option linter.all false
set_option maxRecDepth 100000
set_option maxHeartbeats 4000000
namespace Q
open PySem L2 Iq
abbrev Pn (n : Nat) : Pr := prN pg.fs (pg.pz true) n
theorem fn0 (n : Nat) : (Pn (n + 1)).fn 0 = fun as => Iq.run (Pn n) f0 (pack f0 as) := rfl
theorem fn1 (n : Nat) : (Pn (n + 1)).fn 1 = fun as => Iq.run (Pn n) f1 (pack f1 as) := rfl
theorem fn2 (n : Nat) : (Pn (n + 1)).fn 2 = fun as => Iq.run (Pn n) f2 (pack f2 as) := rfl
theorem fn3 (n : Nat) : (Pn (n + 1)).fn 3 = fun as => Iq.run (Pn n) f3 (pack f3 as) := rfl
theorem fn4 (n : Nat) : (Pn (n + 1)).fn 4 = fun as => Iq.run (Pn n) f4 (pack f4 as) := rfl
theorem fn5 (n : Nat) : (Pn (n + 1)).fn 5 = fun as => Iq.run (Pn n) f5 (pack f5 as) := rfl
theorem fn6 (n : Nat) : (Pn (n + 1)).fn 6 = fun as => Iq.run (Pn n) f6 (pack f6 as) := rfl
theorem fn7 (n : Nat) : (Pn (n + 1)).fn 7 = fun as => Iq.run (Pn n) f7 (pack f7 as) := rfl
theorem fn8 (n : Nat) : (Pn (n + 1)).fn 8 = fun as => Iq.run (Pn n) f8 (pack f8 as) := rfl
theorem fn9 (n : Nat) : (Pn (n + 1)).fn 9 = fun as => Iq.run (Pn n) f9 (pack f9 as) := rfl
theorem fn10 (n : Nat) : (Pn (n + 1)).fn 10 = fun as => Iq.run (Pn n) f10 (pack f10 as) := rfl
theorem fn11 (n : Nat) : (Pn (n + 1)).fn 11 = fun as => Iq.run (Pn n) f11 (pack f11 as) := rfl
theorem fn12 (n : Nat) : (Pn (n + 1)).fn 12 = fun as => Iq.run (Pn n) f12 (pack f12 as) := rfl
theorem fn13 (n : Nat) : (Pn (n + 1)).fn 13 = fun as => Iq.run (Pn n) f13 (pack f13 as) := rfl
theorem fn14 (n : Nat) : (Pn (n + 1)).fn 14 = fun as => Iq.run (Pn n) f14 (pack f14 as) := rfl
theorem fn15 (n : Nat) : (Pn (n + 1)).fn 15 = fun as => Iq.run (Pn n) f15 (pack f15 as) := rfl
theorem fn16 (n : Nat) : (Pn (n + 1)).fn 16 = fun as => Iq.run (Pn n) f16 (pack f16 as) := rfl
theorem fn17 (n : Nat) : (Pn (n + 1)).fn 17 = fun as => Iq.run (Pn n) f17 (pack f17 as) := rfl
theorem fn18 (n : Nat) : (Pn (n + 1)).fn 18 = fun as => Iq.run (Pn n) f18 (pack f18 as) := rfl
theorem fn19 (n : Nat) : (Pn (n + 1)).fn 19 = fun as => Iq.run (Pn n) f19 (pack f19 as) := rfl
theorem fn20 (n : Nat) : (Pn (n + 1)).fn 20 = fun as => Iq.run (Pn n) f20 (pack f20 as) := rfl
theorem fn21 (n : Nat) : (Pn (n + 1)).fn 21 = fun as => Iq.run (Pn n) f21 (pack f21 as) := rfl
theorem fn22 (n : Nat) : (Pn (n + 1)).fn 22 = fun as => Iq.run (Pn n) f22 (pack f22 as) := rfl
theorem fn23 (n : Nat) : (Pn (n + 1)).fn 23 = fun as => Iq.run (Pn n) f23 (pack f23 as) := rfl
theorem fn24 (n : Nat) : (Pn (n + 1)).fn 24 = fun as => Iq.run (Pn n) f24 (pack f24 as) := rfl
theorem fn25 (n : Nat) : (Pn (n + 1)).fn 25 = fun as => Iq.run (Pn n) f25 (pack f25 as) := rfl
theorem fn26 (n : Nat) : (Pn (n + 1)).fn 26 = fun as => Iq.run (Pn n) f26 (pack f26 as) := rfl
theorem fn27 (n : Nat) : (Pn (n + 1)).fn 27 = fun as => Iq.run (Pn n) f27 (pack f27 as) := rfl
theorem fn28 (n : Nat) : (Pn (n + 1)).fn 28 = fun as => Iq.run (Pn n) f28 (pack f28 as) := rfl
theorem fn29 (n : Nat) : (Pn (n + 1)).fn 29 = fun as => Iq.run (Pn n) f29 (pack f29 as) := rfl
theorem fn30 (n : Nat) : (Pn (n + 1)).fn 30 = fun as => Iq.run (Pn n) f30 (pack f30 as) := rfl
theorem fn31 (n : Nat) : (Pn (n + 1)).fn 31 = fun as => Iq.run (Pn n) f31 (pack f31 as) := rfl
theorem fn32 (n : Nat) : (Pn (n + 1)).fn 32 = fun as => Iq.run (Pn n) f32 (pack f32 as) := rfl
theorem fn33 (n : Nat) : (Pn (n + 1)).fn 33 = fun as => Iq.run (Pn n) f33 (pack f33 as) := rfl
theorem fn34 (n : Nat) : (Pn (n + 1)).fn 34 = fun as => Iq.run (Pn n) f34 (pack f34 as) := rfl
theorem fn35 (n : Nat) : (Pn (n + 1)).fn 35 = fun as => Iq.run (Pn n) f35 (pack f35 as) := rfl
theorem fn36 (n : Nat) : (Pn (n + 1)).fn 36 = fun as => Iq.run (Pn n) f36 (pack f36 as) := rfl
theorem fn37 (n : Nat) : (Pn (n + 1)).fn 37 = fun as => Iq.run (Pn n) f37 (pack f37 as) := rfl
theorem fn38 (n : Nat) : (Pn (n + 1)).fn 38 = fun as => Iq.run (Pn n) f38 (pack f38 as) := rfl
theorem fn39 (n : Nat) : (Pn (n + 1)).fn 39 = fun as => Iq.run (Pn n) f39 (pack f39 as) := rfl
theorem fn40 (n : Nat) : (Pn (n + 1)).fn 40 = fun as => Iq.run (Pn n) f40 (pack f40 as) := rfl
theorem io0 (n : Nat) : (Pn n).io 0 = [] := by cases n <;> rfl
theorem io1 (n : Nat) : (Pn n).io 1 = [] := by cases n <;> rfl
theorem io2 (n : Nat) : (Pn n).io 2 = [] := by cases n <;> rfl
theorem io3 (n : Nat) : (Pn n).io 3 = [] := by cases n <;> rfl
theorem io4 (n : Nat) : (Pn n).io 4 = [] := by cases n <;> rfl
theorem io5 (n : Nat) : (Pn n).io 5 = [] := by cases n <;> rfl
theorem io6 (n : Nat) : (Pn n).io 6 = [] := by cases n <;> rfl
theorem io7 (n : Nat) : (Pn n).io 7 = [] := by cases n <;> rfl
theorem io8 (n : Nat) : (Pn n).io 8 = [] := by cases n <;> rfl
theorem io9 (n : Nat) : (Pn n).io 9 = [] := by cases n <;> rfl
theorem io10 (n : Nat) : (Pn n).io 10 = [] := by cases n <;> rfl
theorem io11 (n : Nat) : (Pn n).io 11 = [] := by cases n <;> rfl
theorem io12 (n : Nat) : (Pn n).io 12 = [] := by cases n <;> rfl
theorem io13 (n : Nat) : (Pn n).io 13 = [] := by cases n <;> rfl
theorem io14 (n : Nat) : (Pn n).io 14 = [] := by cases n <;> rfl
theorem io15 (n : Nat) : (Pn n).io 15 = [] := by cases n <;> rfl
theorem io16 (n : Nat) : (Pn n).io 16 = [] := by cases n <;> rfl
theorem io17 (n : Nat) : (Pn n).io 17 = [] := by cases n <;> rfl
theorem io18 (n : Nat) : (Pn n).io 18 = [] := by cases n <;> rfl
theorem io19 (n : Nat) : (Pn n).io 19 = [true, false] := by cases n <;> rfl
theorem io20 (n : Nat) : (Pn n).io 20 = [true, false] := by cases n <;> rfl
theorem io21 (n : Nat) : (Pn n).io 21 = [true] := by cases n <;> rfl
theorem io22 (n : Nat) : (Pn n).io 22 = [true, false] := by cases n <;> rfl
theorem io23 (n : Nat) : (Pn n).io 23 = [] := by cases n <;> rfl
theorem io24 (n : Nat) : (Pn n).io 24 = [] := by cases n <;> rfl
theorem io25 (n : Nat) : (Pn n).io 25 = [] := by cases n <;> rfl
theorem io26 (n : Nat) : (Pn n).io 26 = [] := by cases n <;> rfl
theorem io27 (n : Nat) : (Pn n).io 27 = [] := by cases n <;> rfl
theorem io28 (n : Nat) : (Pn n).io 28 = [] := by cases n <;> rfl
theorem io29 (n : Nat) : (Pn n).io 29 = [] := by cases n <;> rfl
theorem io30 (n : Nat) : (Pn n).io 30 = [] := by cases n <;> rfl
theorem io31 (n : Nat) : (Pn n).io 31 = [] := by cases n <;> rfl
theorem io32 (n : Nat) : (Pn n).io 32 = [] := by cases n <;> rfl
theorem io33 (n : Nat) : (Pn n).io 33 = [] := by cases n <;> rfl
theorem io34 (n : Nat) : (Pn n).io 34 = [] := by cases n <;> rfl
theorem io35 (n : Nat) : (Pn n).io 35 = [true] := by cases n <;> rfl
theorem io36 (n : Nat) : (Pn n).io 36 = [true] := by cases n <;> rfl
theorem io37 (n : Nat) : (Pn n).io 37 = [true] := by cases n <;> rfl
theorem io38 (n : Nat) : (Pn n).io 38 = [true, false] := by cases n <;> rfl
theorem io39 (n : Nat) : (Pn n).io 39 = [] := by cases n <;> rfl
theorem io40 (n : Nat) : (Pn n).io 40 = [] := by cases n <;> rfl
theorem ty_beq (a b : Ty) : (a == b) = decide (a = b) := rfl
theorem rp_is (n : Nat) : (Pn n).rp = true := by cases n <;> rfl
def letters : Str := "abcdefghijklmnopqrstuvwxyz"
theorem cs0 (n : Nat) : (Pn n).cs[0]? = some (.str letters) := by cases n <;> rfl
theorem cs1 (n : Nat) : (Pn n).cs[1]? = some (.int 8) := by cases n <;> rfl
theorem cs2 (n : Nat) : (Pn n).cs[2]? = some (.str "") := by cases n <;> rfl
theorem cs3 (n : Nat) : (Pn n).cs[3]? = some (.int (-1)) := by cases n <;> rfl
theorem cs4 (n : Nat) : (Pn n).cs[4]? = some (.int (-1)) := by cases n <;> rfl
theorem cs5 (n : Nat) : (Pn n).cs[5]? = some (.tup ((["go", "fork", "take", "none", "later", "kill", "release", "exit"] : List Str).map D.str)) := by cases n <;> rfl
theorem cs6 (n : Nat) : (Pn n).cs[6]? = some (.tup ((["go", "take"] : List Str).map D.str)) := by cases n <;> rfl
theorem cs7 (n : Nat) : (Pn n).cs[7]? = some (.tup ((["wait", "poll"] : List Str).map D.str)) := by cases n <;> rfl
theorem cs8 (n : Nat) : (Pn n).cs[8]? = some (.tup ((["kill", "release"] : List Str).map D.str)) := by cases n <;> rfl
/-- small data -/
abbrev G (d : D) : Prop := okB 1000 60 d = true
theorem G.el {d : D} (h : okB 1000 59 d = true) : G d := okB_mono (Nat.le_refl _) (by omega) h
theorem G.tup {xs : List D} (h : G (.tup xs)) : (∀ x ∈ xs, G x) ∧ xs.length ≤ 1000 := by
  simp only [G, okB, Bool.and_eq_true, decide_eq_true_eq, List.all_eq_true] at h
  exact ⟨fun x hx => G.el (h.2 x hx), h.1⟩
theorem G.lst {xs : List D} (h : G (.lst xs)) : (∀ x ∈ xs, G x) ∧ xs.length ≤ 1000 := by
  simp only [G, okB, Bool.and_eq_true, decide_eq_true_eq, List.all_eq_true] at h
  exact ⟨fun x hx => G.el (h.2 x hx), h.1⟩
theorem G.str {x : Str} (h : G (.str x)) : x.length ≤ 1000 ∧ PyData.strOk x = true := by
  simp only [G, okB, okS, Bool.and_eq_true, decide_eq_true_eq] at h
  exact h
theorem G.dic {x} (h : G (.dic x)) : False := by simp [G, okB] at h
theorem G.fn {x} (h : G (.fn x)) : False := by simp [G, okB] at h
def intB : D → Bool
  | .int _ => true
  | _ => false
def numB : D → Bool
  | .int i => decide (0 ≤ i)
  | _ => false
def signB : D → Bool
  | .str a => !(Builtin.Str.occurrences letters a 0 letters.length 1).isEmpty
  | _ => false
def nameB : D → Bool
  | .str s => decide (1 ≤ (s.length : Int)) && (decide ((s.length : Int) ≤ 8) && (chars s).all signB)
  | _ => false
theorem big : (1000 : Nat) ≤ sizeLine := by decide
theorem c0 (n : Nat) {d : D} (h : G d) : (Pn (n + 1)).fn 0 [.shr d] = .ok (.bl (intB d), false, []) := by
  rw [fn0]
  cases d <;> first | exact h.dic.elim | exact h.fn.elim | simp [f0, pack, Iq.run, ioFit, evB, evS, evE.eq_1, evE.eq_2, evE.eq_3, evE.eq_4, evE.eq_5, evE.eq_6, evE.eq_7, evE.eq_8, evE.eq_9, evE.eq_10, evE.eq_11, evE.eq_12, evE.eq_13, evE.eq_14, evE.eq_15, evE.eq_16, evE.eq_17, evE.eq_18, evE.eq_19, evE.eq_20, evE.eq_21, evE.eq_22, evE.eq_24, evE.eq_25, evE.eq_26, evE.eq_27, evE.eq_28, evE.eq_29, evE.eq_30, evE.eq_31, evE.eq_32, evL, evA, evO, evT, Iq.hd, deref, R.bind_ok, R.bind_bad, truth, intOf, callG, hdS, argsS, argS, putOuts, setOwn, outs, isOwn, isTys, isTy, ty_beq, intB]
theorem c1 (n : Nat) {d : D} (h : G d) : (Pn (n + 2)).fn 1 [.shr d] = .ok (.bl (numB d), false, []) := by
  rw [fn1]
  have e := c0 n h
  cases d <;> simp only [intB] at e <;> first | exact h.dic.elim | exact h.fn.elim | simp [f1, pack, Iq.run, ioFit, evB, evS, evE.eq_1, evE.eq_2, evE.eq_3, evE.eq_4, evE.eq_5, evE.eq_6, evE.eq_7, evE.eq_8, evE.eq_9, evE.eq_10, evE.eq_11, evE.eq_12, evE.eq_13, evE.eq_14, evE.eq_15, evE.eq_16, evE.eq_17, evE.eq_18, evE.eq_19, evE.eq_20, evE.eq_21, evE.eq_22, evE.eq_24, evE.eq_25, evE.eq_26, evE.eq_27, evE.eq_28, evE.eq_29, evE.eq_30, evE.eq_31, evE.eq_32, evL, evA, evO, evT, Iq.hd, deref, R.bind_ok, R.bind_bad, truth, intOf, callG, hdS, argsS, argS, putOuts, setOwn, outs, isOwn, io0, e, numB, cmpD]
theorem c2 (n : Nat) {d : D} (h : G d) : (Pn (n + 1)).fn 2 [.shr d] = .ok (.bl (nameB d), false, []) := by
  rw [fn2]
  cases d with
  | fn _ => exact h.fn.elim
  | dic _ => exact h.dic.elim
  | str s =>
    have hz : s.length ≤ sizeLine := Nat.le_trans h.str.1 big
    by_cases g1 : (1 : Int) ≤ s.length
    · by_cases g2 : (s.length : Int) ≤ 8
      · have e' := comp1a (P := Pn n) (i := 1) (ς := [.shr (.str s), .no]) (src := .var 0) (e := .cmp .In (.var 1) (.glo 0)) (xs := chars s) (g := fun c => .bl (signB c)) (d0 := .str s) (fr0 := false) (by simp [Iq.run, ioFit, evB, evS, evE.eq_1, evE.eq_2, evE.eq_3, evE.eq_4, evE.eq_5, evE.eq_6, evE.eq_7, evE.eq_8, evE.eq_9, evE.eq_10, evE.eq_11, evE.eq_12, evE.eq_13, evE.eq_14, evE.eq_15, evE.eq_16, evE.eq_17, evE.eq_18, evE.eq_19, evE.eq_20, evE.eq_21, evE.eq_22, evE.eq_24, evE.eq_25, evE.eq_26, evE.eq_27, evE.eq_28, evE.eq_29, evE.eq_30, evE.eq_31, evE.eq_32, evL, evA, evO, evT, Iq.hd, deref, R.bind_ok, R.bind_bad, truth, intOf, callG, hdS, argsS, argS, putOuts, setOwn, outs, isOwn]) (by simp only [walk, hz, if_true]) (by simp) rfl fun x hx => by
          obtain ⟨c, _, rfl⟩ := mem_chars hx
          exact ⟨false, by simp [Iq.run, ioFit, evB, evS, evE.eq_1, evE.eq_2, evE.eq_3, evE.eq_4, evE.eq_5, evE.eq_6, evE.eq_7, evE.eq_8, evE.eq_9, evE.eq_10, evE.eq_11, evE.eq_12, evE.eq_13, evE.eq_14, evE.eq_15, evE.eq_16, evE.eq_17, evE.eq_18, evE.eq_19, evE.eq_20, evE.eq_21, evE.eq_22, evE.eq_24, evE.eq_25, evE.eq_26, evE.eq_27, evE.eq_28, evE.eq_29, evE.eq_30, evE.eq_31, evE.eq_32, evL, evA, evO, evT, Iq.hd, deref, R.bind_ok, R.bind_bad, truth, intOf, callG, hdS, argsS, argS, putOuts, setOwn, outs, isOwn, cs0, cmpD, inD, signB]⟩
        simp [f2, pack, Iq.run, ioFit, evB, evS, evE.eq_1, evE.eq_2, evE.eq_3, evE.eq_4, evE.eq_5, evE.eq_6, evE.eq_7, evE.eq_8, evE.eq_9, evE.eq_10, evE.eq_11, evE.eq_12, evE.eq_13, evE.eq_14, evE.eq_15, evE.eq_16, evE.eq_17, evE.eq_18, evE.eq_19, evE.eq_20, evE.eq_21, evE.eq_22, evE.eq_24, evE.eq_25, evE.eq_26, evE.eq_27, evE.eq_28, evE.eq_29, evE.eq_30, evE.eq_31, evE.eq_32, evL, evA, evO, evT, Iq.hd, deref, R.bind_ok, R.bind_bad, truth, intOf, callG, hdS, argsS, argS, putOuts, setOwn, outs, isOwn, isTys, isTy, ty_beq, biD, hz, cmpD, leI, g1, g2, cs1, e', bls_map, nameB, List.all_map, Function.comp_def]
      · simp [f2, pack, Iq.run, ioFit, evB, evS, evE.eq_1, evE.eq_2, evE.eq_3, evE.eq_4, evE.eq_5, evE.eq_6, evE.eq_7, evE.eq_8, evE.eq_9, evE.eq_10, evE.eq_11, evE.eq_12, evE.eq_13, evE.eq_14, evE.eq_15, evE.eq_16, evE.eq_17, evE.eq_18, evE.eq_19, evE.eq_20, evE.eq_21, evE.eq_22, evE.eq_24, evE.eq_25, evE.eq_26, evE.eq_27, evE.eq_28, evE.eq_29, evE.eq_30, evE.eq_31, evE.eq_32, evL, evA, evO, evT, Iq.hd, deref, R.bind_ok, R.bind_bad, truth, intOf, callG, hdS, argsS, argS, putOuts, setOwn, outs, isOwn, isTys, isTy, ty_beq, biD, hz, cmpD, leI, g1, g2, cs1, nameB]
    · simp [f2, pack, Iq.run, ioFit, evB, evS, evE.eq_1, evE.eq_2, evE.eq_3, evE.eq_4, evE.eq_5, evE.eq_6, evE.eq_7, evE.eq_8, evE.eq_9, evE.eq_10, evE.eq_11, evE.eq_12, evE.eq_13, evE.eq_14, evE.eq_15, evE.eq_16, evE.eq_17, evE.eq_18, evE.eq_19, evE.eq_20, evE.eq_21, evE.eq_22, evE.eq_24, evE.eq_25, evE.eq_26, evE.eq_27, evE.eq_28, evE.eq_29, evE.eq_30, evE.eq_31, evE.eq_32, evL, evA, evO, evT, Iq.hd, deref, R.bind_ok, R.bind_bad, truth, intOf, callG, hdS, argsS, argS, putOuts, setOwn, outs, isOwn, isTys, isTy, ty_beq, biD, hz, cmpD, leI, g1, cs1, nameB]
  | _ => simp [f2, pack, Iq.run, ioFit, evB, evS, evE.eq_1, evE.eq_2, evE.eq_3, evE.eq_4, evE.eq_5, evE.eq_6, evE.eq_7, evE.eq_8, evE.eq_9, evE.eq_10, evE.eq_11, evE.eq_12, evE.eq_13, evE.eq_14, evE.eq_15, evE.eq_16, evE.eq_17, evE.eq_18, evE.eq_19, evE.eq_20, evE.eq_21, evE.eq_22, evE.eq_24, evE.eq_25, evE.eq_26, evE.eq_27, evE.eq_28, evE.eq_29, evE.eq_30, evE.eq_31, evE.eq_32, evL, evA, evO, evT, Iq.hd, deref, R.bind_ok, R.bind_bad, truth, intOf, callG, hdS, argsS, argS, putOuts, setOwn, outs, isOwn, isTys, isTy, ty_beq, nameB]

/-! ### rising -/
def ltB (x y : D) : Bool := match ltD x y with
  | .ok t => t
  | .bad => false
def strB : D → Bool
  | .str _ => true
  | _ => false
def risD (xs : List D) : Bool := (xs.zip (xs.drop 1)).all fun p => ltB p.1 p.2
theorem lt_ok {x y : D} (h : (intB x = true ∧ intB y = true) ∨ (strB x = true ∧ strB y = true)) : ltD x y = .ok (ltB x y) := by
  rcases h with ⟨h1, h2⟩ | ⟨h1, h2⟩
  · cases x <;> simp only [intB] at h1 <;> try (cases h1; done)
    cases y <;> simp only [intB] at h2 <;> try (cases h2; done)
    rfl
  · cases x <;> simp only [strB] at h1 <;> try (cases h1; done)
    cases y <;> simp only [strB] at h2 <;> try (cases h2; done)
    rfl
theorem cut1 {xs : List D} : cutL xs (some 1) none = xs.drop 1 := by
  unfold cutL
  rw [HT.sIx_none, show (1 : Int) = ((1 : Nat) : Int) from rfl, HT.sIx_nat]
  by_cases h : 1 ≤ xs.length
  · rw [Nat.min_eq_left h]
    exact List.take_of_length_le (by simp)
  · have : xs = [] := List.length_eq_zero_iff.mp (by omega)
    subst this; simp
def Hom (xs : List D) : Prop := (∀ x ∈ xs, intB x = true) ∨ ∀ x ∈ xs, strB x = true
theorem Hom.lt {xs : List D} (h : Hom xs) {x : D × D} (hx : x ∈ xs.zip (xs.drop 1)) : ltD x.1 x.2 = .ok (ltB x.1 x.2) := by
  obtain ⟨h1, h2⟩ := List.of_mem_zip hx
  have h2 := List.mem_of_mem_drop h2
  exact lt_ok (h.imp (fun h => ⟨h _ h1, h _ h2⟩) fun h => ⟨h _ h1, h _ h2⟩)
theorem c3t (n : Nat) {xs : List D} (h : Hom xs) : (Pn (n + 1)).fn 3 [.shr (.tup xs)] = .ok (.bl (risD xs), false, []) := by
  rw [fn3]
  have es : evL (Pn n) [.var 0, .sli (.var 0) (some (.con (.int 1))) none] [.shr (.tup xs), .no, .no] = .ok ([.tup xs, .tup (xs.drop 1)], [.shr (.tup xs), .no, .no]) := by
    simp [Iq.run, ioFit, evB, evS, evE.eq_1, evE.eq_2, evE.eq_3, evE.eq_4, evE.eq_5, evE.eq_6, evE.eq_7, evE.eq_8, evE.eq_9, evE.eq_10, evE.eq_11, evE.eq_12, evE.eq_13, evE.eq_14, evE.eq_15, evE.eq_16, evE.eq_17, evE.eq_18, evE.eq_19, evE.eq_20, evE.eq_21, evE.eq_22, evE.eq_24, evE.eq_25, evE.eq_26, evE.eq_27, evE.eq_28, evE.eq_29, evE.eq_30, evE.eq_31, evE.eq_32, evL, evA, evO, evT, Iq.hd, deref, R.bind_ok, R.bind_bad, truth, intOf, callG, hdS, argsS, argS, putOuts, setOwn, outs, isOwn, sliD, cut1]
  have co := comp2 (P := Pn n) (i := 1) (j := 2) (ς := [.shr (.tup xs), .no, .no]) (a := .var 0) (b := .sli (.var 0) (some (.con (.int 1))) none) (e := .cmp .Lt (.var 1) (.var 2)) (xs := xs) (ys := xs.drop 1) (g := fun x y => .bl (ltB x y))
    (.inl es) (by decide) (by simp) (by simp) rfl rfl fun x hx => ⟨false, by simp [Iq.run, ioFit, evB, evS, evE.eq_1, evE.eq_2, evE.eq_3, evE.eq_4, evE.eq_5, evE.eq_6, evE.eq_7, evE.eq_8, evE.eq_9, evE.eq_10, evE.eq_11, evE.eq_12, evE.eq_13, evE.eq_14, evE.eq_15, evE.eq_16, evE.eq_17, evE.eq_18, evE.eq_19, evE.eq_20, evE.eq_21, evE.eq_22, evE.eq_24, evE.eq_25, evE.eq_26, evE.eq_27, evE.eq_28, evE.eq_29, evE.eq_30, evE.eq_31, evE.eq_32, evL, evA, evO, evT, Iq.hd, deref, R.bind_ok, R.bind_bad, truth, intOf, callG, hdS, argsS, argS, putOuts, setOwn, outs, isOwn, cmpD, h.lt hx]⟩
  simp [f3, pack, Iq.run, ioFit, evB, evS, evE.eq_1, evE.eq_2, evE.eq_3, evE.eq_4, evE.eq_5, evE.eq_6, evE.eq_7, evE.eq_8, evE.eq_9, evE.eq_10, evE.eq_11, evE.eq_12, evE.eq_13, evE.eq_14, evE.eq_15, evE.eq_16, evE.eq_17, evE.eq_18, evE.eq_19, evE.eq_20, evE.eq_21, evE.eq_22, evE.eq_24, evE.eq_25, evE.eq_26, evE.eq_27, evE.eq_28, evE.eq_29, evE.eq_30, evE.eq_31, evE.eq_32, evL, evA, evO, evT, Iq.hd, deref, R.bind_ok, R.bind_bad, truth, intOf, callG, hdS, argsS, argS, putOuts, setOwn, outs, isOwn, co, biD, bls_map, risD, List.all_map, Function.comp_def, -List.drop_one]
theorem c3l (n : Nat) {xs : List D} (h : Hom xs) : (Pn (n + 1)).fn 3 [.shr (.lst xs)] = .ok (.bl (risD xs), false, []) := by
  rw [fn3]
  have es : evL (Pn n) [.var 0, .sli (.var 0) (some (.con (.int 1))) none] [.shr (.lst xs), .no, .no] = .ok ([.lst xs, .lst (xs.drop 1)], [.shr (.lst xs), .no, .no]) := by
    simp [Iq.run, ioFit, evB, evS, evE.eq_1, evE.eq_2, evE.eq_3, evE.eq_4, evE.eq_5, evE.eq_6, evE.eq_7, evE.eq_8, evE.eq_9, evE.eq_10, evE.eq_11, evE.eq_12, evE.eq_13, evE.eq_14, evE.eq_15, evE.eq_16, evE.eq_17, evE.eq_18, evE.eq_19, evE.eq_20, evE.eq_21, evE.eq_22, evE.eq_24, evE.eq_25, evE.eq_26, evE.eq_27, evE.eq_28, evE.eq_29, evE.eq_30, evE.eq_31, evE.eq_32, evL, evA, evO, evT, Iq.hd, deref, R.bind_ok, R.bind_bad, truth, intOf, callG, hdS, argsS, argS, putOuts, setOwn, outs, isOwn, sliD, cut1]
  have co := comp2 (P := Pn n) (i := 1) (j := 2) (ς := [.shr (.lst xs), .no, .no]) (a := .var 0) (b := .sli (.var 0) (some (.con (.int 1))) none) (e := .cmp .Lt (.var 1) (.var 2)) (xs := xs) (ys := xs.drop 1) (g := fun x y => .bl (ltB x y))
    (.inr es) (by decide) (by simp) (by simp) rfl rfl fun x hx => ⟨false, by simp [Iq.run, ioFit, evB, evS, evE.eq_1, evE.eq_2, evE.eq_3, evE.eq_4, evE.eq_5, evE.eq_6, evE.eq_7, evE.eq_8, evE.eq_9, evE.eq_10, evE.eq_11, evE.eq_12, evE.eq_13, evE.eq_14, evE.eq_15, evE.eq_16, evE.eq_17, evE.eq_18, evE.eq_19, evE.eq_20, evE.eq_21, evE.eq_22, evE.eq_24, evE.eq_25, evE.eq_26, evE.eq_27, evE.eq_28, evE.eq_29, evE.eq_30, evE.eq_31, evE.eq_32, evL, evA, evO, evT, Iq.hd, deref, R.bind_ok, R.bind_bad, truth, intOf, callG, hdS, argsS, argS, putOuts, setOwn, outs, isOwn, cmpD, h.lt hx]⟩
  simp [f3, pack, Iq.run, ioFit, evB, evS, evE.eq_1, evE.eq_2, evE.eq_3, evE.eq_4, evE.eq_5, evE.eq_6, evE.eq_7, evE.eq_8, evE.eq_9, evE.eq_10, evE.eq_11, evE.eq_12, evE.eq_13, evE.eq_14, evE.eq_15, evE.eq_16, evE.eq_17, evE.eq_18, evE.eq_19, evE.eq_20, evE.eq_21, evE.eq_22, evE.eq_24, evE.eq_25, evE.eq_26, evE.eq_27, evE.eq_28, evE.eq_29, evE.eq_30, evE.eq_31, evE.eq_32, evL, evA, evO, evT, Iq.hd, deref, R.bind_ok, R.bind_bad, truth, intOf, callG, hdS, argsS, argS, putOuts, setOwn, outs, isOwn, co, biD, bls_map, risD, List.all_map, Function.comp_def, -List.drop_one]
def namesB : D → Bool
  | .tup xs => xs.all nameB && risD xs
  | _ => false
def numsB : D → Bool
  | .tup xs => xs.all numB
  | _ => false
theorem num_int {x : D} (h : numB x = true) : intB x = true := by
  cases x <;> simp only [numB] at h <;> first | rfl | cases h
theorem name_str {x : D} (h : nameB x = true) : strB x = true := by
  cases x <;> simp only [nameB] at h <;> first | rfl | cases h
theorem c4 (n : Nat) {d : D} (h : G d) : (Pn (n + 2)).fn 4 [.shr d] = .ok (.bl (namesB d), false, []) := by
  rw [fn4]
  cases d with
  | fn _ => exact h.fn.elim
  | dic _ => exact h.dic.elim
  | tup xs =>
    have co := comp1a (P := Pn (n + 1)) (e := .call 2 [.var 1]) (i := 1) (src := .var 0) (ς := [.shr (.tup xs), .no]) (d0 := .tup xs) (fr0 := false) (xs := xs) (g := fun x => .bl (nameB x)) (by simp [Iq.run, ioFit, evB, evS, evE.eq_1, evE.eq_2, evE.eq_3, evE.eq_4, evE.eq_5, evE.eq_6, evE.eq_7, evE.eq_8, evE.eq_9, evE.eq_10, evE.eq_11, evE.eq_12, evE.eq_13, evE.eq_14, evE.eq_15, evE.eq_16, evE.eq_17, evE.eq_18, evE.eq_19, evE.eq_20, evE.eq_21, evE.eq_22, evE.eq_24, evE.eq_25, evE.eq_26, evE.eq_27, evE.eq_28, evE.eq_29, evE.eq_30, evE.eq_31, evE.eq_32, evL, evA, evO, evT, Iq.hd, deref, R.bind_ok, R.bind_bad, truth, intOf, callG, hdS, argsS, argS, putOuts, setOwn, outs, isOwn]) rfl (by simp) rfl fun x hx => ⟨false, by
      have := c2 n (h.tup.1 x hx)
      simp [Iq.run, ioFit, evB, evS, evE.eq_1, evE.eq_2, evE.eq_3, evE.eq_4, evE.eq_5, evE.eq_6, evE.eq_7, evE.eq_8, evE.eq_9, evE.eq_10, evE.eq_11, evE.eq_12, evE.eq_13, evE.eq_14, evE.eq_15, evE.eq_16, evE.eq_17, evE.eq_18, evE.eq_19, evE.eq_20, evE.eq_21, evE.eq_22, evE.eq_24, evE.eq_25, evE.eq_26, evE.eq_27, evE.eq_28, evE.eq_29, evE.eq_30, evE.eq_31, evE.eq_32, evL, evA, evO, evT, Iq.hd, deref, R.bind_ok, R.bind_bad, truth, intOf, callG, hdS, argsS, argS, putOuts, setOwn, outs, isOwn, io2, this]⟩
    cases a : xs.all nameB with
    | false => simp [f4, pack, Iq.run, ioFit, evB, evS, evE.eq_1, evE.eq_2, evE.eq_3, evE.eq_4, evE.eq_5, evE.eq_6, evE.eq_7, evE.eq_8, evE.eq_9, evE.eq_10, evE.eq_11, evE.eq_12, evE.eq_13, evE.eq_14, evE.eq_15, evE.eq_16, evE.eq_17, evE.eq_18, evE.eq_19, evE.eq_20, evE.eq_21, evE.eq_22, evE.eq_24, evE.eq_25, evE.eq_26, evE.eq_27, evE.eq_28, evE.eq_29, evE.eq_30, evE.eq_31, evE.eq_32, evL, evA, evO, evT, Iq.hd, deref, R.bind_ok, R.bind_bad, truth, intOf, callG, hdS, argsS, argS, putOuts, setOwn, outs, isOwn, isTys, isTy, ty_beq, namesB, co, a, biD, bls_map, List.all_map, Function.comp_def, List.all_map]
    | true =>
      have e3 := c3t n (xs := xs) (.inr fun x hx => name_str (List.all_eq_true.mp a x hx))
      simp [f4, pack, Iq.run, ioFit, evB, evS, evE.eq_1, evE.eq_2, evE.eq_3, evE.eq_4, evE.eq_5, evE.eq_6, evE.eq_7, evE.eq_8, evE.eq_9, evE.eq_10, evE.eq_11, evE.eq_12, evE.eq_13, evE.eq_14, evE.eq_15, evE.eq_16, evE.eq_17, evE.eq_18, evE.eq_19, evE.eq_20, evE.eq_21, evE.eq_22, evE.eq_24, evE.eq_25, evE.eq_26, evE.eq_27, evE.eq_28, evE.eq_29, evE.eq_30, evE.eq_31, evE.eq_32, evL, evA, evO, evT, Iq.hd, deref, R.bind_ok, R.bind_bad, truth, intOf, callG, hdS, argsS, argS, putOuts, setOwn, outs, isOwn, isTys, isTy, ty_beq, namesB, co, a, io3, e3, biD, bls_map, List.all_map, Function.comp_def]
  | _ => simp [f4, pack, Iq.run, ioFit, evB, evS, evE.eq_1, evE.eq_2, evE.eq_3, evE.eq_4, evE.eq_5, evE.eq_6, evE.eq_7, evE.eq_8, evE.eq_9, evE.eq_10, evE.eq_11, evE.eq_12, evE.eq_13, evE.eq_14, evE.eq_15, evE.eq_16, evE.eq_17, evE.eq_18, evE.eq_19, evE.eq_20, evE.eq_21, evE.eq_22, evE.eq_24, evE.eq_25, evE.eq_26, evE.eq_27, evE.eq_28, evE.eq_29, evE.eq_30, evE.eq_31, evE.eq_32, evL, evA, evO, evT, Iq.hd, deref, R.bind_ok, R.bind_bad, truth, intOf, callG, hdS, argsS, argS, putOuts, setOwn, outs, isOwn, isTys, isTy, ty_beq, namesB]
theorem c5 (n : Nat) {d : D} (h : G d) : (Pn (n + 3)).fn 5 [.shr d] = .ok (.bl (numsB d), false, []) := by
  rw [fn5]
  cases d with
  | fn _ => exact h.fn.elim
  | dic _ => exact h.dic.elim
  | tup xs =>
    have co := comp1a (P := Pn (n + 2)) (e := .call 1 [.var 1]) (i := 1) (src := .var 0) (ς := [.shr (.tup xs), .no]) (d0 := .tup xs) (fr0 := false) (xs := xs) (g := fun x => .bl (numB x)) (by simp [Iq.run, ioFit, evB, evS, evE.eq_1, evE.eq_2, evE.eq_3, evE.eq_4, evE.eq_5, evE.eq_6, evE.eq_7, evE.eq_8, evE.eq_9, evE.eq_10, evE.eq_11, evE.eq_12, evE.eq_13, evE.eq_14, evE.eq_15, evE.eq_16, evE.eq_17, evE.eq_18, evE.eq_19, evE.eq_20, evE.eq_21, evE.eq_22, evE.eq_24, evE.eq_25, evE.eq_26, evE.eq_27, evE.eq_28, evE.eq_29, evE.eq_30, evE.eq_31, evE.eq_32, evL, evA, evO, evT, Iq.hd, deref, R.bind_ok, R.bind_bad, truth, intOf, callG, hdS, argsS, argS, putOuts, setOwn, outs, isOwn]) rfl (by simp) rfl fun x hx => ⟨false, by
      have := c1 n (h.tup.1 x hx)
      simp [Iq.run, ioFit, evB, evS, evE.eq_1, evE.eq_2, evE.eq_3, evE.eq_4, evE.eq_5, evE.eq_6, evE.eq_7, evE.eq_8, evE.eq_9, evE.eq_10, evE.eq_11, evE.eq_12, evE.eq_13, evE.eq_14, evE.eq_15, evE.eq_16, evE.eq_17, evE.eq_18, evE.eq_19, evE.eq_20, evE.eq_21, evE.eq_22, evE.eq_24, evE.eq_25, evE.eq_26, evE.eq_27, evE.eq_28, evE.eq_29, evE.eq_30, evE.eq_31, evE.eq_32, evL, evA, evO, evT, Iq.hd, deref, R.bind_ok, R.bind_bad, truth, intOf, callG, hdS, argsS, argS, putOuts, setOwn, outs, isOwn, io1, this]⟩
    simp [f5, pack, Iq.run, ioFit, evB, evS, evE.eq_1, evE.eq_2, evE.eq_3, evE.eq_4, evE.eq_5, evE.eq_6, evE.eq_7, evE.eq_8, evE.eq_9, evE.eq_10, evE.eq_11, evE.eq_12, evE.eq_13, evE.eq_14, evE.eq_15, evE.eq_16, evE.eq_17, evE.eq_18, evE.eq_19, evE.eq_20, evE.eq_21, evE.eq_22, evE.eq_24, evE.eq_25, evE.eq_26, evE.eq_27, evE.eq_28, evE.eq_29, evE.eq_30, evE.eq_31, evE.eq_32, evL, evA, evO, evT, Iq.hd, deref, R.bind_ok, R.bind_bad, truth, intOf, callG, hdS, argsS, argS, putOuts, setOwn, outs, isOwn, isTys, isTy, ty_beq, numsB, co, biD, bls_map, List.all_map, Function.comp_def]
  | _ => simp [f5, pack, Iq.run, ioFit, evB, evS, evE.eq_1, evE.eq_2, evE.eq_3, evE.eq_4, evE.eq_5, evE.eq_6, evE.eq_7, evE.eq_8, evE.eq_9, evE.eq_10, evE.eq_11, evE.eq_12, evE.eq_13, evE.eq_14, evE.eq_15, evE.eq_16, evE.eq_17, evE.eq_18, evE.eq_19, evE.eq_20, evE.eq_21, evE.eq_22, evE.eq_24, evE.eq_25, evE.eq_26, evE.eq_27, evE.eq_28, evE.eq_29, evE.eq_30, evE.eq_31, evE.eq_32, evL, evA, evO, evT, Iq.hd, deref, R.bind_ok, R.bind_bad, truth, intOf, callG, hdS, argsS, argS, putOuts, setOwn, outs, isOwn, isTys, isTy, ty_beq, numsB]
def tupN (k : Int) : D → Bool
  | .tup xs => (xs.length : Int) == k
  | _ => false
theorem c6 (n : Nat) {d : D} {k : Int} (h : G d) : (Pn (n + 1)).fn 6 [.shr d, .shr (.int k)] = .ok (.bl (tupN k d), false, []) := by
  rw [fn6]
  cases d <;> first | exact h.dic.elim | exact h.fn.elim | simp [f6, pack, Iq.run, ioFit, evB, evS, evE.eq_1, evE.eq_2, evE.eq_3, evE.eq_4, evE.eq_5, evE.eq_6, evE.eq_7, evE.eq_8, evE.eq_9, evE.eq_10, evE.eq_11, evE.eq_12, evE.eq_13, evE.eq_14, evE.eq_15, evE.eq_16, evE.eq_17, evE.eq_18, evE.eq_19, evE.eq_20, evE.eq_21, evE.eq_22, evE.eq_24, evE.eq_25, evE.eq_26, evE.eq_27, evE.eq_28, evE.eq_29, evE.eq_30, evE.eq_31, evE.eq_32, evL, evA, evO, evT, Iq.hd, deref, R.bind_ok, R.bind_bad, truth, intOf, callG, hdS, argsS, argS, putOuts, setOwn, outs, isOwn, isTys, isTy, ty_beq, tupN, biD, cmpD, int_eq]
def plcB : D → Bool
  | .int i => decide (-1 ≤ i)
  | _ => false
theorem c7 (n : Nat) {d : D} (h : G d) : (Pn (n + 2)).fn 7 [.shr d] = .ok (.bl (plcB d), false, []) := by
  rw [fn7]
  have e := c0 n h
  cases d <;> simp only [intB] at e <;> first | exact h.dic.elim | exact h.fn.elim | simp [f7, pack, Iq.run, ioFit, evB, evS, evE.eq_1, evE.eq_2, evE.eq_3, evE.eq_4, evE.eq_5, evE.eq_6, evE.eq_7, evE.eq_8, evE.eq_9, evE.eq_10, evE.eq_11, evE.eq_12, evE.eq_13, evE.eq_14, evE.eq_15, evE.eq_16, evE.eq_17, evE.eq_18, evE.eq_19, evE.eq_20, evE.eq_21, evE.eq_22, evE.eq_24, evE.eq_25, evE.eq_26, evE.eq_27, evE.eq_28, evE.eq_29, evE.eq_30, evE.eq_31, evE.eq_32, evL, evA, evO, evT, Iq.hd, deref, R.bind_ok, R.bind_bad, truth, intOf, callG, hdS, argsS, argS, putOuts, setOwn, outs, isOwn, io0, e, plcB, cmpD, cs3]
end Q
set_option Elab.async false
set_option linter.all false
set_option maxRecDepth 100000
set_option maxHeartbeats 4000000
namespace Q
open PySem L2 Iq
/-! ### rows -/
def rowB : D → Bool
  | .tup xs => decide (xs.length = 4) && (nameB (xs.getD 0 .non) && (xs.drop 1).all numB)
  | _ => false
def hd0 : D → D
  | .tup xs => xs.getD 0 .non
  | _ => .non
theorem tupN_is {xs : List D} {k : Nat} : tupN (k : Nat) (.tup xs) = decide (xs.length = k) := by
  simp only [tupN]
  rw [Bool.eq_iff_iff, beq_iff_eq, decide_eq_true_eq]
  omega
theorem c8 (n : Nat) {d : D} (h : G d) : (Pn (n + 4)).fn 8 [.shr d] = .ok (.bl (rowB d), false, []) := by
  rw [fn8]
  have t := c6 (n + 2) (k := 4) h
  cases d with
  | fn _ => exact h.fn.elim
  | dic _ => exact h.dic.elim
  | tup xs =>
    rw [show (4 : Int) = ((4 : Nat) : Int) from rfl, tupN_is] at t
    by_cases hl : xs.length = 4
    · match xs, hl with
      | [a, b, c, e], hl =>
        have ga := h.tup.1 a (by simp)
        have gr : G (.tup [b, c, e]) := by
          have h1 := h.tup.1
          simp only [G, okB, Bool.and_eq_true, decide_eq_true_eq, List.all_eq_true] at h ⊢
          exact ⟨by simp, fun x hx => h.2 x (List.mem_cons_of_mem _ hx)⟩
        have q1 := c2 (n + 2) ga
        have q2 := c5 n gr
        have cut : cutL [a, b, c, e] (some 1) none = [b, c, e] := by rw [cut1]; rfl
        have ix : atI [a, b, c, e] 0 = some a := rfl
        have t' : (Pn (n + 3)).fn 6 [.shr (.tup [a, b, c, e]), .shr (.int 4)] = .ok (.bl true, false, []) := t
        cases z : nameB a <;> simp [f8, pack, Iq.run, ioFit, evB, evS, evE.eq_1, evE.eq_2, evE.eq_3, evE.eq_4, evE.eq_5, evE.eq_6, evE.eq_7, evE.eq_8, evE.eq_9, evE.eq_10, evE.eq_11, evE.eq_12, evE.eq_13, evE.eq_14, evE.eq_15, evE.eq_16, evE.eq_17, evE.eq_18, evE.eq_19, evE.eq_20, evE.eq_21, evE.eq_22, evE.eq_24, evE.eq_25, evE.eq_26, evE.eq_27, evE.eq_28, evE.eq_29, evE.eq_30, evE.eq_31, evE.eq_32, evL, evA, evO, evT, Iq.hd, deref, R.bind_ok, R.bind_bad, truth, intOf, callG, hdS, argsS, argS, putOuts, setOwn, outs, isOwn, io6, io2, io5, t', idxD, ix, q1, z, sliD, cut, q2, rowB, numsB]
    · simp only [hl, decide_false] at t
      have t' : (Pn (n + 3)).fn 6 [.shr (.tup xs), .shr (.int 4)] = .ok (.bl false, false, []) := t
      simp [f8, pack, Iq.run, ioFit, evB, evS, evE.eq_1, evE.eq_2, evE.eq_3, evE.eq_4, evE.eq_5, evE.eq_6, evE.eq_7, evE.eq_8, evE.eq_9, evE.eq_10, evE.eq_11, evE.eq_12, evE.eq_13, evE.eq_14, evE.eq_15, evE.eq_16, evE.eq_17, evE.eq_18, evE.eq_19, evE.eq_20, evE.eq_21, evE.eq_22, evE.eq_24, evE.eq_25, evE.eq_26, evE.eq_27, evE.eq_28, evE.eq_29, evE.eq_30, evE.eq_31, evE.eq_32, evL, evA, evO, evT, Iq.hd, deref, R.bind_ok, R.bind_bad, truth, intOf, callG, hdS, argsS, argS, putOuts, setOwn, outs, isOwn, io6, t', rowB, hl]
  | _ =>
    simp only [tupN] at t
    simp [f8, pack, Iq.run, ioFit, evB, evS, evE.eq_1, evE.eq_2, evE.eq_3, evE.eq_4, evE.eq_5, evE.eq_6, evE.eq_7, evE.eq_8, evE.eq_9, evE.eq_10, evE.eq_11, evE.eq_12, evE.eq_13, evE.eq_14, evE.eq_15, evE.eq_16, evE.eq_17, evE.eq_18, evE.eq_19, evE.eq_20, evE.eq_21, evE.eq_22, evE.eq_24, evE.eq_25, evE.eq_26, evE.eq_27, evE.eq_28, evE.eq_29, evE.eq_30, evE.eq_31, evE.eq_32, evL, evA, evO, evT, Iq.hd, deref, R.bind_ok, R.bind_bad, truth, intOf, callG, hdS, argsS, argS, putOuts, setOwn, outs, isOwn, io6, t, rowB]
def rowsB : D → Bool
  | .tup xs => xs.all rowB && risD (xs.map hd0)
  | _ => false
theorem row_hd {x : D} (h : rowB x = true) : idxD x (.int 0) = .ok (hd0 x) ∧ strB (hd0 x) = true := by
  cases x with
  | tup xs =>
    simp only [rowB, Bool.and_eq_true, decide_eq_true_eq] at h
    match xs, h with
    | a :: r, h =>
      refine ⟨?_, name_str h.2.1⟩
      have : atI (a :: r) 0 = some a := by simp [atI, ixN]
      simp [idxD, this, hd0]
    | [], h => simp at h
  | _ => simp only [rowB] at h; cases h
theorem c9 (n : Nat) {d : D} (h : G d) : (Pn (n + 5)).fn 9 [.shr d] = .ok (.bl (rowsB d), false, []) := by
  rw [fn9]
  cases d with
  | fn _ => exact h.fn.elim
  | dic _ => exact h.dic.elim
  | tup xs =>
    have co := comp1a (P := Pn (n + 4)) (e := .call 8 [.var 2]) (i := 2) (src := .var 0) (ς := [.shr (.tup xs), .no, .no]) (d0 := .tup xs) (fr0 := false) (xs := xs) (g := fun x => .bl (rowB x)) (by simp [Iq.run, ioFit, evB, evS, evE.eq_1, evE.eq_2, evE.eq_3, evE.eq_4, evE.eq_5, evE.eq_6, evE.eq_7, evE.eq_8, evE.eq_9, evE.eq_10, evE.eq_11, evE.eq_12, evE.eq_13, evE.eq_14, evE.eq_15, evE.eq_16, evE.eq_17, evE.eq_18, evE.eq_19, evE.eq_20, evE.eq_21, evE.eq_22, evE.eq_24, evE.eq_25, evE.eq_26, evE.eq_27, evE.eq_28, evE.eq_29, evE.eq_30, evE.eq_31, evE.eq_32, evL, evA, evO, evT, Iq.hd, deref, R.bind_ok, R.bind_bad, truth, intOf, callG, hdS, argsS, argS, putOuts, setOwn, outs, isOwn]) rfl (by simp) rfl fun x hx => ⟨false, by
      have := c8 n (h.tup.1 x hx)
      simp [Iq.run, ioFit, evB, evS, evE.eq_1, evE.eq_2, evE.eq_3, evE.eq_4, evE.eq_5, evE.eq_6, evE.eq_7, evE.eq_8, evE.eq_9, evE.eq_10, evE.eq_11, evE.eq_12, evE.eq_13, evE.eq_14, evE.eq_15, evE.eq_16, evE.eq_17, evE.eq_18, evE.eq_19, evE.eq_20, evE.eq_21, evE.eq_22, evE.eq_24, evE.eq_25, evE.eq_26, evE.eq_27, evE.eq_28, evE.eq_29, evE.eq_30, evE.eq_31, evE.eq_32, evL, evA, evO, evT, Iq.hd, deref, R.bind_ok, R.bind_bad, truth, intOf, callG, hdS, argsS, argS, putOuts, setOwn, outs, isOwn, io8, this]⟩
    cases a : xs.all rowB with
    | false => simp [f9, pack, Iq.run, ioFit, evB, evS, evE.eq_1, evE.eq_2, evE.eq_3, evE.eq_4, evE.eq_5, evE.eq_6, evE.eq_7, evE.eq_8, evE.eq_9, evE.eq_10, evE.eq_11, evE.eq_12, evE.eq_13, evE.eq_14, evE.eq_15, evE.eq_16, evE.eq_17, evE.eq_18, evE.eq_19, evE.eq_20, evE.eq_21, evE.eq_22, evE.eq_24, evE.eq_25, evE.eq_26, evE.eq_27, evE.eq_28, evE.eq_29, evE.eq_30, evE.eq_31, evE.eq_32, evL, evA, evO, evT, Iq.hd, deref, R.bind_ok, R.bind_bad, truth, intOf, callG, hdS, argsS, argS, putOuts, setOwn, outs, isOwn, isTys, isTy, ty_beq, rowsB, co, a, biD, bls_map, List.all_map, Function.comp_def]
    | true =>
      have ha := List.all_eq_true.mp a
      have co2 := comp1a (P := Pn (n + 4)) (e := .idx (.var 1) (.con (.int 0))) (i := 1) (src := .var 0) (ς := [.shr (.tup xs), .no, .no]) (d0 := .tup xs) (fr0 := false) (xs := xs) (g := hd0) (by simp [Iq.run, ioFit, evB, evS, evE.eq_1, evE.eq_2, evE.eq_3, evE.eq_4, evE.eq_5, evE.eq_6, evE.eq_7, evE.eq_8, evE.eq_9, evE.eq_10, evE.eq_11, evE.eq_12, evE.eq_13, evE.eq_14, evE.eq_15, evE.eq_16, evE.eq_17, evE.eq_18, evE.eq_19, evE.eq_20, evE.eq_21, evE.eq_22, evE.eq_24, evE.eq_25, evE.eq_26, evE.eq_27, evE.eq_28, evE.eq_29, evE.eq_30, evE.eq_31, evE.eq_32, evL, evA, evO, evT, Iq.hd, deref, R.bind_ok, R.bind_bad, truth, intOf, callG, hdS, argsS, argS, putOuts, setOwn, outs, isOwn]) rfl (by simp) rfl fun x hx => ⟨false, by
        simp [Iq.run, ioFit, evB, evS, evE.eq_1, evE.eq_2, evE.eq_3, evE.eq_4, evE.eq_5, evE.eq_6, evE.eq_7, evE.eq_8, evE.eq_9, evE.eq_10, evE.eq_11, evE.eq_12, evE.eq_13, evE.eq_14, evE.eq_15, evE.eq_16, evE.eq_17, evE.eq_18, evE.eq_19, evE.eq_20, evE.eq_21, evE.eq_22, evE.eq_24, evE.eq_25, evE.eq_26, evE.eq_27, evE.eq_28, evE.eq_29, evE.eq_30, evE.eq_31, evE.eq_32, evL, evA, evO, evT, Iq.hd, deref, R.bind_ok, R.bind_bad, truth, intOf, callG, hdS, argsS, argS, putOuts, setOwn, outs, isOwn, (row_hd (ha x hx)).1]⟩
      have e3 := c3l (n + 3) (xs := xs.map hd0) (.inr fun x hx => by
        obtain ⟨y, hy, rfl⟩ := List.mem_map.mp hx
        exact (row_hd (ha y hy)).2)
      simp [f9, pack, Iq.run, ioFit, evB, evS, evE.eq_1, evE.eq_2, evE.eq_3, evE.eq_4, evE.eq_5, evE.eq_6, evE.eq_7, evE.eq_8, evE.eq_9, evE.eq_10, evE.eq_11, evE.eq_12, evE.eq_13, evE.eq_14, evE.eq_15, evE.eq_16, evE.eq_17, evE.eq_18, evE.eq_19, evE.eq_20, evE.eq_21, evE.eq_22, evE.eq_24, evE.eq_25, evE.eq_26, evE.eq_27, evE.eq_28, evE.eq_29, evE.eq_30, evE.eq_31, evE.eq_32, evL, evA, evO, evT, Iq.hd, deref, R.bind_ok, R.bind_bad, truth, intOf, callG, hdS, argsS, argS, putOuts, setOwn, outs, isOwn, isTys, isTy, ty_beq, rowsB, co, co2, a, io3, e3, biD, bls_map, List.all_map, Function.comp_def]
  | _ => simp [f9, pack, Iq.run, ioFit, evB, evS, evE.eq_1, evE.eq_2, evE.eq_3, evE.eq_4, evE.eq_5, evE.eq_6, evE.eq_7, evE.eq_8, evE.eq_9, evE.eq_10, evE.eq_11, evE.eq_12, evE.eq_13, evE.eq_14, evE.eq_15, evE.eq_16, evE.eq_17, evE.eq_18, evE.eq_19, evE.eq_20, evE.eq_21, evE.eq_22, evE.eq_24, evE.eq_25, evE.eq_26, evE.eq_27, evE.eq_28, evE.eq_29, evE.eq_30, evE.eq_31, evE.eq_32, evL, evA, evO, evT, Iq.hd, deref, R.bind_ok, R.bind_bad, truth, intOf, callG, hdS, argsS, argS, putOuts, setOwn, outs, isOwn, isTys, isTy, ty_beq, rowsB]
def m1B : D → Bool
  | .int i => i == -1
  | _ => false
def takB (r p : D) : Bool := rowsB r && (plcB p && !(nilT r && m1B p))
theorem G.sub {xs ys : List D} (h : G (.tup xs)) (s : ∀ y ∈ ys, y ∈ xs) (l : ys.length ≤ xs.length) : G (.tup ys) := by
  simp only [G, okB, Bool.and_eq_true, decide_eq_true_eq, List.all_eq_true] at h ⊢
  exact ⟨by omega, fun x hx => h.2 x (s x hx)⟩
theorem rows_tup {r : D} (h : rowsB r = true) : ∃ rs, r = .tup rs := by
  cases r <;> simp only [rowsB] at h <;> first | exact ⟨_, rfl⟩ | cases h
theorem plc_int {r : D} (h : plcB r = true) : ∃ i, r = .int i := by
  cases r <;> simp only [plcB] at h <;> first | exact ⟨_, rfl⟩ | cases h
theorem len0 {rs : List D} : ((rs.length : Int) == 0) = nilT (.tup rs) := by
  cases rs with
  | nil => rfl
  | cons a r =>
    simp only [nilT, List.length_cons]
    exact beq_eq_false_iff_ne.mpr (by omega)
theorem c10a (n : Nat) {w r p t g : D} (h : G (.tup [w, r, p, t, g])) : (Pn (n + 6)).fn 10 [.shr (.tup [w, r, p, t, g]), .shr (.int 1)] = .ok (.bl (takB r p && (numsB (.tup [t]) && namesB g)), false, []) := by
  rw [fn10]
  have q9 := c9 n (h.tup.1 r (by simp))
  have q7 := c7 (n + 3) (h.tup.1 p (by simp))
  have q4 := c4 (n + 3) (h.tup.1 g (by simp))
  have q5 := c5 (n + 2) (h.sub (ys := [t]) (by simp) (by simp))
  have i1 : atI [w, r, p, t, g] 1 = some r := rfl
  have i2 : atI [w, r, p, t, g] 2 = some p := rfl
  have i5 : atI [w, r, p, t, g] (-1) = some g := rfl
  have cut : cutL [w, r, p, t, g] (some 3) (some (-1)) = [t] := rfl
  cases a : rowsB r with
  | false => simp [f10, pack, Iq.run, ioFit, evB, evS, evE.eq_1, evE.eq_2, evE.eq_3, evE.eq_4, evE.eq_5, evE.eq_6, evE.eq_7, evE.eq_8, evE.eq_9, evE.eq_10, evE.eq_11, evE.eq_12, evE.eq_13, evE.eq_14, evE.eq_15, evE.eq_16, evE.eq_17, evE.eq_18, evE.eq_19, evE.eq_20, evE.eq_21, evE.eq_22, evE.eq_24, evE.eq_25, evE.eq_26, evE.eq_27, evE.eq_28, evE.eq_29, evE.eq_30, evE.eq_31, evE.eq_32, evL, evA, evO, evT, Iq.hd, deref, R.bind_ok, R.bind_bad, truth, intOf, callG, hdS, argsS, argS, putOuts, setOwn, outs, isOwn, biD, add_ok, cmpD, int_eq, notR, io9, idxD, i1, q9, a, takB]
  | true =>
    obtain ⟨rs, rfl⟩ := rows_tup a
    cases b : plcB p with
    | false => simp [f10, pack, Iq.run, ioFit, evB, evS, evE.eq_1, evE.eq_2, evE.eq_3, evE.eq_4, evE.eq_5, evE.eq_6, evE.eq_7, evE.eq_8, evE.eq_9, evE.eq_10, evE.eq_11, evE.eq_12, evE.eq_13, evE.eq_14, evE.eq_15, evE.eq_16, evE.eq_17, evE.eq_18, evE.eq_19, evE.eq_20, evE.eq_21, evE.eq_22, evE.eq_24, evE.eq_25, evE.eq_26, evE.eq_27, evE.eq_28, evE.eq_29, evE.eq_30, evE.eq_31, evE.eq_32, evL, evA, evO, evT, Iq.hd, deref, R.bind_ok, R.bind_bad, truth, intOf, callG, hdS, argsS, argS, putOuts, setOwn, outs, isOwn, biD, add_ok, cmpD, int_eq, notR, io9, io7, idxD, i1, i2, q9, q7, a, b, takB]
    | true =>
      obtain ⟨i, rfl⟩ := plc_int b
      cases c : nilT (.tup rs) with
      | false => cases e : numsB (.tup [t]) <;> simp [f10, pack, Iq.run, ioFit, evB, evS, evE.eq_1, evE.eq_2, evE.eq_3, evE.eq_4, evE.eq_5, evE.eq_6, evE.eq_7, evE.eq_8, evE.eq_9, evE.eq_10, evE.eq_11, evE.eq_12, evE.eq_13, evE.eq_14, evE.eq_15, evE.eq_16, evE.eq_17, evE.eq_18, evE.eq_19, evE.eq_20, evE.eq_21, evE.eq_22, evE.eq_24, evE.eq_25, evE.eq_26, evE.eq_27, evE.eq_28, evE.eq_29, evE.eq_30, evE.eq_31, evE.eq_32, evL, evA, evO, evT, Iq.hd, deref, R.bind_ok, R.bind_bad, truth, intOf, callG, hdS, argsS, argS, putOuts, setOwn, outs, isOwn, biD, add_ok, cmpD, int_eq, notR, io9, io7, io5, io4, idxD, i1, i2, i5, q9, q7, a, b, c, takB, len0, sliD, cut, q5, q4, e]
      | true =>
        cases f : (i == -1) with
        | true => simp [f10, pack, Iq.run, ioFit, evB, evS, evE.eq_1, evE.eq_2, evE.eq_3, evE.eq_4, evE.eq_5, evE.eq_6, evE.eq_7, evE.eq_8, evE.eq_9, evE.eq_10, evE.eq_11, evE.eq_12, evE.eq_13, evE.eq_14, evE.eq_15, evE.eq_16, evE.eq_17, evE.eq_18, evE.eq_19, evE.eq_20, evE.eq_21, evE.eq_22, evE.eq_24, evE.eq_25, evE.eq_26, evE.eq_27, evE.eq_28, evE.eq_29, evE.eq_30, evE.eq_31, evE.eq_32, evL, evA, evO, evT, Iq.hd, deref, R.bind_ok, R.bind_bad, truth, intOf, callG, hdS, argsS, argS, putOuts, setOwn, outs, isOwn, biD, add_ok, cmpD, int_eq, notR, io9, io7, idxD, i1, i2, q9, q7, a, b, c, takB, len0, cs3, f, m1B]
        | false => cases e : numsB (.tup [t]) <;> simp [f10, pack, Iq.run, ioFit, evB, evS, evE.eq_1, evE.eq_2, evE.eq_3, evE.eq_4, evE.eq_5, evE.eq_6, evE.eq_7, evE.eq_8, evE.eq_9, evE.eq_10, evE.eq_11, evE.eq_12, evE.eq_13, evE.eq_14, evE.eq_15, evE.eq_16, evE.eq_17, evE.eq_18, evE.eq_19, evE.eq_20, evE.eq_21, evE.eq_22, evE.eq_24, evE.eq_25, evE.eq_26, evE.eq_27, evE.eq_28, evE.eq_29, evE.eq_30, evE.eq_31, evE.eq_32, evL, evA, evO, evT, Iq.hd, deref, R.bind_ok, R.bind_bad, truth, intOf, callG, hdS, argsS, argS, putOuts, setOwn, outs, isOwn, biD, add_ok, cmpD, int_eq, notR, io9, io7, io5, io4, idxD, i1, i2, i5, q9, q7, a, b, c, takB, len0, cs3, f, m1B, sliD, cut, q5, q4, e]
theorem c10b (n : Nat) {w r p t u g : D} (h : G (.tup [w, r, p, t, u, g])) : (Pn (n + 6)).fn 10 [.shr (.tup [w, r, p, t, u, g]), .shr (.int 2)] = .ok (.bl (takB r p && (numsB (.tup [t, u]) && namesB g)), false, []) := by
  rw [fn10]
  have q9 := c9 n (h.tup.1 r (by simp))
  have q7 := c7 (n + 3) (h.tup.1 p (by simp))
  have q4 := c4 (n + 3) (h.tup.1 g (by simp))
  have q5 := c5 (n + 2) (h.sub (ys := [t, u]) (by simp) (by simp))
  have i1 : atI [w, r, p, t, u, g] 1 = some r := rfl
  have i2 : atI [w, r, p, t, u, g] 2 = some p := rfl
  have i5 : atI [w, r, p, t, u, g] (-1) = some g := rfl
  have cut : cutL [w, r, p, t, u, g] (some 3) (some (-1)) = [t, u] := rfl
  cases a : rowsB r with
  | false => simp [f10, pack, Iq.run, ioFit, evB, evS, evE.eq_1, evE.eq_2, evE.eq_3, evE.eq_4, evE.eq_5, evE.eq_6, evE.eq_7, evE.eq_8, evE.eq_9, evE.eq_10, evE.eq_11, evE.eq_12, evE.eq_13, evE.eq_14, evE.eq_15, evE.eq_16, evE.eq_17, evE.eq_18, evE.eq_19, evE.eq_20, evE.eq_21, evE.eq_22, evE.eq_24, evE.eq_25, evE.eq_26, evE.eq_27, evE.eq_28, evE.eq_29, evE.eq_30, evE.eq_31, evE.eq_32, evL, evA, evO, evT, Iq.hd, deref, R.bind_ok, R.bind_bad, truth, intOf, callG, hdS, argsS, argS, putOuts, setOwn, outs, isOwn, biD, add_ok, cmpD, int_eq, notR, io9, idxD, i1, q9, a, takB]
  | true =>
    obtain ⟨rs, rfl⟩ := rows_tup a
    cases b : plcB p with
    | false => simp [f10, pack, Iq.run, ioFit, evB, evS, evE.eq_1, evE.eq_2, evE.eq_3, evE.eq_4, evE.eq_5, evE.eq_6, evE.eq_7, evE.eq_8, evE.eq_9, evE.eq_10, evE.eq_11, evE.eq_12, evE.eq_13, evE.eq_14, evE.eq_15, evE.eq_16, evE.eq_17, evE.eq_18, evE.eq_19, evE.eq_20, evE.eq_21, evE.eq_22, evE.eq_24, evE.eq_25, evE.eq_26, evE.eq_27, evE.eq_28, evE.eq_29, evE.eq_30, evE.eq_31, evE.eq_32, evL, evA, evO, evT, Iq.hd, deref, R.bind_ok, R.bind_bad, truth, intOf, callG, hdS, argsS, argS, putOuts, setOwn, outs, isOwn, biD, add_ok, cmpD, int_eq, notR, io9, io7, idxD, i1, i2, q9, q7, a, b, takB]
    | true =>
      obtain ⟨i, rfl⟩ := plc_int b
      cases c : nilT (.tup rs) with
      | false => cases e : numsB (.tup [t, u]) <;> simp [f10, pack, Iq.run, ioFit, evB, evS, evE.eq_1, evE.eq_2, evE.eq_3, evE.eq_4, evE.eq_5, evE.eq_6, evE.eq_7, evE.eq_8, evE.eq_9, evE.eq_10, evE.eq_11, evE.eq_12, evE.eq_13, evE.eq_14, evE.eq_15, evE.eq_16, evE.eq_17, evE.eq_18, evE.eq_19, evE.eq_20, evE.eq_21, evE.eq_22, evE.eq_24, evE.eq_25, evE.eq_26, evE.eq_27, evE.eq_28, evE.eq_29, evE.eq_30, evE.eq_31, evE.eq_32, evL, evA, evO, evT, Iq.hd, deref, R.bind_ok, R.bind_bad, truth, intOf, callG, hdS, argsS, argS, putOuts, setOwn, outs, isOwn, biD, add_ok, cmpD, int_eq, notR, io9, io7, io5, io4, idxD, i1, i2, i5, q9, q7, a, b, c, takB, len0, sliD, cut, q5, q4, e]
      | true =>
        cases f : (i == -1) with
        | true => simp [f10, pack, Iq.run, ioFit, evB, evS, evE.eq_1, evE.eq_2, evE.eq_3, evE.eq_4, evE.eq_5, evE.eq_6, evE.eq_7, evE.eq_8, evE.eq_9, evE.eq_10, evE.eq_11, evE.eq_12, evE.eq_13, evE.eq_14, evE.eq_15, evE.eq_16, evE.eq_17, evE.eq_18, evE.eq_19, evE.eq_20, evE.eq_21, evE.eq_22, evE.eq_24, evE.eq_25, evE.eq_26, evE.eq_27, evE.eq_28, evE.eq_29, evE.eq_30, evE.eq_31, evE.eq_32, evL, evA, evO, evT, Iq.hd, deref, R.bind_ok, R.bind_bad, truth, intOf, callG, hdS, argsS, argS, putOuts, setOwn, outs, isOwn, biD, add_ok, cmpD, int_eq, notR, io9, io7, idxD, i1, i2, q9, q7, a, b, c, takB, len0, cs3, f, m1B]
        | false => cases e : numsB (.tup [t, u]) <;> simp [f10, pack, Iq.run, ioFit, evB, evS, evE.eq_1, evE.eq_2, evE.eq_3, evE.eq_4, evE.eq_5, evE.eq_6, evE.eq_7, evE.eq_8, evE.eq_9, evE.eq_10, evE.eq_11, evE.eq_12, evE.eq_13, evE.eq_14, evE.eq_15, evE.eq_16, evE.eq_17, evE.eq_18, evE.eq_19, evE.eq_20, evE.eq_21, evE.eq_22, evE.eq_24, evE.eq_25, evE.eq_26, evE.eq_27, evE.eq_28, evE.eq_29, evE.eq_30, evE.eq_31, evE.eq_32, evL, evA, evO, evT, Iq.hd, deref, R.bind_ok, R.bind_bad, truth, intOf, callG, hdS, argsS, argS, putOuts, setOwn, outs, isOwn, biD, add_ok, cmpD, int_eq, notR, io9, io7, io5, io4, idxD, i1, i2, i5, q9, q7, a, b, c, takB, len0, cs3, f, m1B, sliD, cut, q5, q4, e]
theorem c10n (n : Nat) {xs : List D} {m : Int} (hm : m = 1 ∨ m = 2) (hl : (xs.length : Int) ≠ m + 4) : (Pn (n + 6)).fn 10 [.shr (.tup xs), .shr (.int m)] = .ok (.bl false, false, []) := by
  rw [fn10]
  have z : ((xs.length : Int) == m + 4) = false := beq_eq_false_iff_ne.mpr hl
  simp [f10, pack, Iq.run, ioFit, evB, evS, evE.eq_1, evE.eq_2, evE.eq_3, evE.eq_4, evE.eq_5, evE.eq_6, evE.eq_7, evE.eq_8, evE.eq_9, evE.eq_10, evE.eq_11, evE.eq_12, evE.eq_13, evE.eq_14, evE.eq_15, evE.eq_16, evE.eq_17, evE.eq_18, evE.eq_19, evE.eq_20, evE.eq_21, evE.eq_22, evE.eq_24, evE.eq_25, evE.eq_26, evE.eq_27, evE.eq_28, evE.eq_29, evE.eq_30, evE.eq_31, evE.eq_32, evL, evA, evO, evT, Iq.hd, deref, R.bind_ok, R.bind_bad, truth, intOf, callG, hdS, argsS, argS, putOuts, setOwn, outs, isOwn, biD, add_ok, cmpD, int_eq, notR, z]
/-! ### a fork -/
def nilS : D → Bool
  | .str s => decide (s = "")
  | _ => false
def forkB : List D → Bool
  | [_, a, b, c, e] => nameB a && (nameB b && (numB e && (nameB c || nilS c)))
  | _ => false
theorem c11 (n : Nat) {xs : List D} (h : G (.tup xs)) : (Pn (n + 4)).fn 11 [.shr (.tup xs)] = .ok (.bl (forkB xs), false, []) := by
  rw [fn11]
  by_cases hl : xs.length = 5
  · match xs, hl with
    | [w, a, b, c, e], _ =>
      have qa := c2 (n + 2) (h.tup.1 a (by simp))
      have qb := c2 (n + 2) (h.tup.1 b (by simp))
      have gc := h.tup.1 c (by simp)
      have qc := c2 (n + 2) gc
      have qe := c1 (n + 1) (h.tup.1 e (by simp))
      have i1 : atI [w, a, b, c, e] 1 = some a := rfl
      have i2 : atI [w, a, b, c, e] 2 = some b := rfl
      have i3 : atI [w, a, b, c, e] 3 = some c := rfl
      have i4 : atI [w, a, b, c, e] 4 = some e := rfl
      have e0 : PyData.strOk "" = true := by decide +kernel
      cases za : nameB a <;> cases zb : nameB b <;> cases ze : numB e <;> cases zc : nameB c <;> simp [f11, pack, Iq.run, ioFit, evB, evS, evE.eq_1, evE.eq_2, evE.eq_3, evE.eq_4, evE.eq_5, evE.eq_6, evE.eq_7, evE.eq_8, evE.eq_9, evE.eq_10, evE.eq_11, evE.eq_12, evE.eq_13, evE.eq_14, evE.eq_15, evE.eq_16, evE.eq_17, evE.eq_18, evE.eq_19, evE.eq_20, evE.eq_21, evE.eq_22, evE.eq_24, evE.eq_25, evE.eq_26, evE.eq_27, evE.eq_28, evE.eq_29, evE.eq_30, evE.eq_31, evE.eq_32, evL, evA, evO, evT, Iq.hd, deref, R.bind_ok, R.bind_bad, truth, intOf, callG, hdS, argsS, argS, putOuts, setOwn, outs, isOwn, biD, cmpD, int_eq, notR, io2, io1, idxD, i1, i2, i3, i4, qa, qb, qc, qe, za, zb, zc, ze, forkB, isTys, cs2]
      cases c with
      | fn _ => exact gc.fn.elim
      | dic _ => exact gc.dic.elim
      | str s => simp [isTy, ty_beq, nilS, str_eq gc.str.2 e0, bq, i3, R.bind_ok, deref]
      | _ => simp [isTy, ty_beq, nilS]
  · have z : ((xs.length : Int) == 5) = false := beq_eq_false_iff_ne.mpr (by omega)
    have f : forkB xs = false := by
      unfold forkB
      split
      · simp at hl
      · rfl
    simp [f11, pack, Iq.run, ioFit, evB, evS, evE.eq_1, evE.eq_2, evE.eq_3, evE.eq_4, evE.eq_5, evE.eq_6, evE.eq_7, evE.eq_8, evE.eq_9, evE.eq_10, evE.eq_11, evE.eq_12, evE.eq_13, evE.eq_14, evE.eq_15, evE.eq_16, evE.eq_17, evE.eq_18, evE.eq_19, evE.eq_20, evE.eq_21, evE.eq_22, evE.eq_24, evE.eq_25, evE.eq_26, evE.eq_27, evE.eq_28, evE.eq_29, evE.eq_30, evE.eq_31, evE.eq_32, evL, evA, evO, evT, Iq.hd, deref, R.bind_ok, R.bind_bad, truth, intOf, callG, hdS, argsS, argS, putOuts, setOwn, outs, isOwn, biD, cmpD, int_eq, notR, z, f]
end Q
set_option Elab.async false
set_option linter.all false
set_option maxRecDepth 100000
set_option maxHeartbeats 4000000
namespace Q
open PySem L2 Iq
/-! ### instructions -/
theorem flats_strs : ∀ ws : List Str, flats (ws.map D.str) = some (ws.map V.str)
  | [] => rfl
  | w :: ws => by simp only [List.map_cons, flats, flat, flats_strs ws]
theorem in_strs {s : Str} (ws : List Str) : inD (.str s) (.tup (ws.map D.str)) = .ok (decide (s ∈ ws)) := by
  have : ∀ ws : List Str, inV (.str s) (ws.map V.str) = decide (s ∈ ws) := fun ws => by
    induction ws with
    | nil => rfl
    | cons w ws ih =>
      have e : L2.eqV (.str s) (.str w) = decide (s = w) ∧ L2.eqV (.str w) (.str s) = decide (s = w) := by
        constructor
        · exact bq s w
        · exact (bq w s).trans (by rw [Bool.eq_iff_iff, decide_eq_true_eq, decide_eq_true_eq]; exact eq_comm)
      simp only [inV, List.map_cons, List.any_cons, e.1, e.2] at ih ⊢
      rw [ih, Bool.eq_iff_iff]
      simp only [Bool.or_eq_true, decide_eq_true_eq, List.mem_cons]
  simp only [inD, inSeq, flat, flats_strs, this]
def goB : List D → Bool
  | [_, .tup ys] => ys.all numB && (!ys.isEmpty && risD ys)
  | _ => false
def waitB : List D → Bool
  | [_, r, p, t, g] => takB r p && (numsB (.tup [t]) && namesB g)
  | _ => false
def pollB : List D → Bool
  | [_, r, p, t, u, g] => takB r p && (numsB (.tup [t, u]) && namesB g)
  | _ => false
def slotB : List D → Bool
  | [_, a, b] => nameB a && numB b
  | _ => false
def exitB : List D → Bool
  | [_, .int i] => decide (0 ≤ i) && decide (i ≤ 1)
  | _ => false
def actW (s : Str) (xs : List D) : Bool :=
  if s = "go" then goB xs else if s = "fork" then forkB xs else if s = "wait" then waitB xs else if s = "poll" then pollB xs else if s = "kill" then slotB xs else if s = "release" then slotB xs else if s = "exit" then exitB xs else false
def actB : D → Bool
  | .tup (.str s :: xs) => actW s (.str s :: xs)
  | _ => false

abbrev B12 (i : Nat) : Sm := f12.body.getD i .nev
abbrev S12 (s : Str) (xs : List D) : List Sl := [.shr (.tup (.str s :: xs)), .shr (.str s)]
theorem at0 {x : D} {xs : List D} : atI (x :: xs) 0 = some x := by simp [atI, ixN]
theorem ok_go : PyData.strOk "go" = true := by decide +kernel
theorem ok_fork : PyData.strOk "fork" = true := by decide +kernel
theorem ok_exit : PyData.strOk "exit" = true := by decide +kernel
theorem w_0 (n : Nat) {s : Str} {xs : List D} {u : Sl} : evS (Pn n) (B12 0) [.shr (.tup (.str s :: xs)), u] = .ok (.nx, [.shr (.tup (.str s :: xs)), u]) := by
  have z : ((xs.length : Int) + 1 == 0) = false := beq_eq_false_iff_ne.mpr (by omega)
  simp [B12, f12, Iq.run, ioFit, evB, evS, evE.eq_1, evE.eq_2, evE.eq_3, evE.eq_4, evE.eq_5, evE.eq_6, evE.eq_7, evE.eq_8, evE.eq_9, evE.eq_10, evE.eq_11, evE.eq_12, evE.eq_13, evE.eq_14, evE.eq_15, evE.eq_16, evE.eq_17, evE.eq_18, evE.eq_19, evE.eq_20, evE.eq_21, evE.eq_22, evE.eq_24, evE.eq_25, evE.eq_26, evE.eq_27, evE.eq_28, evE.eq_29, evE.eq_30, evE.eq_31, evE.eq_32, evL, evA, evO, evT, Iq.hd, deref, R.bind_ok, R.bind_bad, truth, intOf, callG, hdS, argsS, argS, putOuts, setOwn, outs, isOwn, isTys, isTy, ty_beq, biD, cmpD, int_eq, idxD, at0, z]
theorem w_1 (n : Nat) {s : Str} {xs : List D} : evS (Pn n) (B12 1) [.shr (.tup (.str s :: xs)), .no] = .ok (.nx, S12 s xs) := by
  simp [B12, f12, Iq.run, ioFit, evB, evS, evE.eq_1, evE.eq_2, evE.eq_3, evE.eq_4, evE.eq_5, evE.eq_6, evE.eq_7, evE.eq_8, evE.eq_9, evE.eq_10, evE.eq_11, evE.eq_12, evE.eq_13, evE.eq_14, evE.eq_15, evE.eq_16, evE.eq_17, evE.eq_18, evE.eq_19, evE.eq_20, evE.eq_21, evE.eq_22, evE.eq_24, evE.eq_25, evE.eq_26, evE.eq_27, evE.eq_28, evE.eq_29, evE.eq_30, evE.eq_31, evE.eq_32, evL, evA, evO, evT, Iq.hd, deref, R.bind_ok, R.bind_bad, truth, intOf, callG, hdS, argsS, argS, putOuts, setOwn, outs, isOwn, idxD, at0]
theorem w_2 (n : Nat) {s : Str} {xs : List D} (hs : PyData.strOk s = true) (h : s ≠ "go") : evS (Pn n) (B12 2) (S12 s xs) = .ok (.nx, S12 s xs) := by
  simp [B12, f12, Iq.run, ioFit, evB, evS, evE.eq_1, evE.eq_2, evE.eq_3, evE.eq_4, evE.eq_5, evE.eq_6, evE.eq_7, evE.eq_8, evE.eq_9, evE.eq_10, evE.eq_11, evE.eq_12, evE.eq_13, evE.eq_14, evE.eq_15, evE.eq_16, evE.eq_17, evE.eq_18, evE.eq_19, evE.eq_20, evE.eq_21, evE.eq_22, evE.eq_24, evE.eq_25, evE.eq_26, evE.eq_27, evE.eq_28, evE.eq_29, evE.eq_30, evE.eq_31, evE.eq_32, evL, evA, evO, evT, Iq.hd, deref, R.bind_ok, R.bind_bad, truth, intOf, callG, hdS, argsS, argS, putOuts, setOwn, outs, isOwn, cmpD, str_eq hs ok_go, bq, h]
theorem w_3 (n : Nat) {s : Str} {xs : List D} (hs : PyData.strOk s = true) (h : s ≠ "fork") : evS (Pn n) (B12 3) (S12 s xs) = .ok (.nx, S12 s xs) := by
  simp [B12, f12, Iq.run, ioFit, evB, evS, evE.eq_1, evE.eq_2, evE.eq_3, evE.eq_4, evE.eq_5, evE.eq_6, evE.eq_7, evE.eq_8, evE.eq_9, evE.eq_10, evE.eq_11, evE.eq_12, evE.eq_13, evE.eq_14, evE.eq_15, evE.eq_16, evE.eq_17, evE.eq_18, evE.eq_19, evE.eq_20, evE.eq_21, evE.eq_22, evE.eq_24, evE.eq_25, evE.eq_26, evE.eq_27, evE.eq_28, evE.eq_29, evE.eq_30, evE.eq_31, evE.eq_32, evL, evA, evO, evT, Iq.hd, deref, R.bind_ok, R.bind_bad, truth, intOf, callG, hdS, argsS, argS, putOuts, setOwn, outs, isOwn, cmpD, str_eq hs ok_fork, bq, h]
theorem w_4 (n : Nat) {s : Str} {xs : List D} (h : s ∉ (["wait", "poll"] : List Str)) : evS (Pn n) (B12 4) (S12 s xs) = .ok (.nx, S12 s xs) := by
  have q : inD (.str s) (.tup [.str "wait", .str "poll"]) = .ok false := by
    have := in_strs (s := s) ["wait", "poll"]
    rw [decide_eq_false h] at this
    exact this
  simp [B12, f12, Iq.run, ioFit, evB, evS, evE.eq_1, evE.eq_2, evE.eq_3, evE.eq_4, evE.eq_5, evE.eq_6, evE.eq_7, evE.eq_8, evE.eq_9, evE.eq_10, evE.eq_11, evE.eq_12, evE.eq_13, evE.eq_14, evE.eq_15, evE.eq_16, evE.eq_17, evE.eq_18, evE.eq_19, evE.eq_20, evE.eq_21, evE.eq_22, evE.eq_24, evE.eq_25, evE.eq_26, evE.eq_27, evE.eq_28, evE.eq_29, evE.eq_30, evE.eq_31, evE.eq_32, evL, evA, evO, evT, Iq.hd, deref, R.bind_ok, R.bind_bad, truth, intOf, callG, hdS, argsS, argS, putOuts, setOwn, outs, isOwn, cmpD, cs7, q]
theorem w_5 (n : Nat) {s : Str} {xs : List D} (h : s ∉ (["kill", "release"] : List Str)) : evS (Pn n) (B12 5) (S12 s xs) = .ok (.nx, S12 s xs) := by
  have q : inD (.str s) (.tup [.str "kill", .str "release"]) = .ok false := by
    have := in_strs (s := s) ["kill", "release"]
    rw [decide_eq_false h] at this
    exact this
  simp [B12, f12, Iq.run, ioFit, evB, evS, evE.eq_1, evE.eq_2, evE.eq_3, evE.eq_4, evE.eq_5, evE.eq_6, evE.eq_7, evE.eq_8, evE.eq_9, evE.eq_10, evE.eq_11, evE.eq_12, evE.eq_13, evE.eq_14, evE.eq_15, evE.eq_16, evE.eq_17, evE.eq_18, evE.eq_19, evE.eq_20, evE.eq_21, evE.eq_22, evE.eq_24, evE.eq_25, evE.eq_26, evE.eq_27, evE.eq_28, evE.eq_29, evE.eq_30, evE.eq_31, evE.eq_32, evL, evA, evO, evT, Iq.hd, deref, R.bind_ok, R.bind_bad, truth, intOf, callG, hdS, argsS, argS, putOuts, setOwn, outs, isOwn, cmpD, cs8, q]
theorem nums_tup {y : D} (h : numsB y = true) : ∃ ys, y = .tup ys := by
  cases y <;> simp only [numsB] at h <;> first | exact ⟨_, rfl⟩ | cases h
theorem g_2 (n : Nat) {xs : List D} (h : G (.tup (.str "go" :: xs))) : evS (Pn (n + 6)) (B12 2) (S12 "go" xs) = .ok (.rt (.bl (goB (.str "go" :: xs))) false, S12 "go" xs) := by
  by_cases hl : xs.length = 1
  · match xs, hl with
    | [y], _ =>
      have gy := h.tup.1 y (by simp)
      have q5 := c5 (n + 3) gy
      have i1 : atI [D.str "go", y] 1 = some y := rfl
      cases a : numsB y with
      | false =>
        have f : goB [.str "go", y] = false := by
          unfold goB
          split
          · rename_i e
            injection e with _ e; injection e with e _
            subst e
            simp only [numsB] at a
            simp [a]
          · rfl
        simp [B12, f12, Iq.run, ioFit, evB, evS, evE.eq_1, evE.eq_2, evE.eq_3, evE.eq_4, evE.eq_5, evE.eq_6, evE.eq_7, evE.eq_8, evE.eq_9, evE.eq_10, evE.eq_11, evE.eq_12, evE.eq_13, evE.eq_14, evE.eq_15, evE.eq_16, evE.eq_17, evE.eq_18, evE.eq_19, evE.eq_20, evE.eq_21, evE.eq_22, evE.eq_24, evE.eq_25, evE.eq_26, evE.eq_27, evE.eq_28, evE.eq_29, evE.eq_30, evE.eq_31, evE.eq_32, evL, evA, evO, evT, Iq.hd, deref, R.bind_ok, R.bind_bad, truth, intOf, callG, hdS, argsS, argS, putOuts, setOwn, outs, isOwn, cmpD, str_eq ok_go ok_go, bq, biD, int_eq, io5, idxD, i1, q5, a, f]
      | true =>
        obtain ⟨ys, rfl⟩ := nums_tup a
        have q3 := c3t (n + 5) (xs := ys) (.inl fun x hx => num_int (List.all_eq_true.mp a x hx))
        have i1' : atI [D.str "go", .tup ys] 1 = some (.tup ys) := rfl
        cases ys with
        | nil => simp [B12, f12, Iq.run, ioFit, evB, evS, evE.eq_1, evE.eq_2, evE.eq_3, evE.eq_4, evE.eq_5, evE.eq_6, evE.eq_7, evE.eq_8, evE.eq_9, evE.eq_10, evE.eq_11, evE.eq_12, evE.eq_13, evE.eq_14, evE.eq_15, evE.eq_16, evE.eq_17, evE.eq_18, evE.eq_19, evE.eq_20, evE.eq_21, evE.eq_22, evE.eq_24, evE.eq_25, evE.eq_26, evE.eq_27, evE.eq_28, evE.eq_29, evE.eq_30, evE.eq_31, evE.eq_32, evL, evA, evO, evT, Iq.hd, deref, R.bind_ok, R.bind_bad, truth, intOf, callG, hdS, argsS, argS, putOuts, setOwn, outs, isOwn, cmpD, str_eq ok_go ok_go, bq, biD, int_eq, io5, io3, idxD, i1', q5, goB, numsB]
        | cons y ys =>
          have z : (0 : Int) < ys.length + 1 := by omega
          obtain ⟨a1, a2⟩ : numB y = true ∧ ys.all numB = true := by
            simp only [numsB, List.all_cons, Bool.and_eq_true] at a
            exact a
          simp only [numsB, List.all_cons, a1, a2, Bool.and_self] at q5
          simp [B12, f12, Iq.run, ioFit, evB, evS, evE.eq_1, evE.eq_2, evE.eq_3, evE.eq_4, evE.eq_5, evE.eq_6, evE.eq_7, evE.eq_8, evE.eq_9, evE.eq_10, evE.eq_11, evE.eq_12, evE.eq_13, evE.eq_14, evE.eq_15, evE.eq_16, evE.eq_17, evE.eq_18, evE.eq_19, evE.eq_20, evE.eq_21, evE.eq_22, evE.eq_24, evE.eq_25, evE.eq_26, evE.eq_27, evE.eq_28, evE.eq_29, evE.eq_30, evE.eq_31, evE.eq_32, evL, evA, evO, evT, Iq.hd, deref, R.bind_ok, R.bind_bad, truth, intOf, callG, hdS, argsS, argS, putOuts, setOwn, outs, isOwn, cmpD, str_eq ok_go ok_go, bq, biD, int_eq, io5, io3, idxD, i1', q5, q3, goB, a1, a2, z]
  · have z : ¬ (xs.length : Int) + 1 = 2 := by omega
    have f : goB (.str "go" :: xs) = false := by
      match xs, hl with
      | [], _ => rfl
      | [_], hl => simp at hl
      | _ :: _ :: _, _ => simp only [goB]
    simp [B12, f12, Iq.run, ioFit, evB, evS, evE.eq_1, evE.eq_2, evE.eq_3, evE.eq_4, evE.eq_5, evE.eq_6, evE.eq_7, evE.eq_8, evE.eq_9, evE.eq_10, evE.eq_11, evE.eq_12, evE.eq_13, evE.eq_14, evE.eq_15, evE.eq_16, evE.eq_17, evE.eq_18, evE.eq_19, evE.eq_20, evE.eq_21, evE.eq_22, evE.eq_24, evE.eq_25, evE.eq_26, evE.eq_27, evE.eq_28, evE.eq_29, evE.eq_30, evE.eq_31, evE.eq_32, evL, evA, evO, evT, Iq.hd, deref, R.bind_ok, R.bind_bad, truth, intOf, callG, hdS, argsS, argS, putOuts, setOwn, outs, isOwn, cmpD, str_eq ok_go ok_go, bq, biD, int_eq, z, f]

theorem g_3 (n : Nat) {xs : List D} (h : G (.tup (.str "fork" :: xs))) : evS (Pn (n + 6)) (B12 3) (S12 "fork" xs) = .ok (.rt (.bl (forkB (.str "fork" :: xs))) false, S12 "fork" xs) := by
  have q := c11 (n + 2) h
  simp [B12, f12, Iq.run, ioFit, evB, evS, evE.eq_1, evE.eq_2, evE.eq_3, evE.eq_4, evE.eq_5, evE.eq_6, evE.eq_7, evE.eq_8, evE.eq_9, evE.eq_10, evE.eq_11, evE.eq_12, evE.eq_13, evE.eq_14, evE.eq_15, evE.eq_16, evE.eq_17, evE.eq_18, evE.eq_19, evE.eq_20, evE.eq_21, evE.eq_22, evE.eq_24, evE.eq_25, evE.eq_26, evE.eq_27, evE.eq_28, evE.eq_29, evE.eq_30, evE.eq_31, evE.eq_32, evL, evA, evO, evT, Iq.hd, deref, R.bind_ok, R.bind_bad, truth, intOf, callG, hdS, argsS, argS, putOuts, setOwn, outs, isOwn, cmpD, str_eq ok_fork ok_fork, bq, io11, q]
theorem g_4a (n : Nat) {xs : List D} (h : G (.tup (.str "wait" :: xs))) : evS (Pn (n + 6)) (B12 4) (S12 "wait" xs) = .ok (.rt (.bl (waitB (.str "wait" :: xs))) false, S12 "wait" xs) := by
  have q : inD (.str "wait") (.tup [.str "wait", .str "poll"]) = .ok true := by
    have := in_strs (s := "wait") ["wait", "poll"]
    rw [decide_eq_true (by simp)] at this
    exact this
  have ix : ixmD (.tup [.str "wait", .str "poll"]) (.str "wait") = .ok (.int 0) := by rfl
  have r : (Pn (n + 6)).fn 10 [.shr (.tup (.str "wait" :: xs)), .shr (.int 1)] = .ok (.bl (waitB (.str "wait" :: xs)), false, []) := by
    by_cases hl : xs.length = 4
    · match xs, hl with
      | [r, p, t, g], _ => exact c10a n h
    · rw [c10n n (.inl rfl) (by simp; omega)]
      have : waitB (.str "wait" :: xs) = false := by
        unfold waitB
        split
        · rename_i e; injection e with _ e; subst e; simp at hl
        · rfl
      rw [this]
  simp [B12, f12, Iq.run, ioFit, evB, evS, evE.eq_1, evE.eq_2, evE.eq_3, evE.eq_4, evE.eq_5, evE.eq_6, evE.eq_7, evE.eq_8, evE.eq_9, evE.eq_10, evE.eq_11, evE.eq_12, evE.eq_13, evE.eq_14, evE.eq_15, evE.eq_16, evE.eq_17, evE.eq_18, evE.eq_19, evE.eq_20, evE.eq_21, evE.eq_22, evE.eq_24, evE.eq_25, evE.eq_26, evE.eq_27, evE.eq_28, evE.eq_29, evE.eq_30, evE.eq_31, evE.eq_32, evL, evA, evO, evT, Iq.hd, deref, R.bind_ok, R.bind_bad, truth, intOf, callG, hdS, argsS, argS, putOuts, setOwn, outs, isOwn, cmpD, cs7, q, ix, io10, add_ok, r]
theorem g_4b (n : Nat) {xs : List D} (h : G (.tup (.str "poll" :: xs))) : evS (Pn (n + 6)) (B12 4) (S12 "poll" xs) = .ok (.rt (.bl (pollB (.str "poll" :: xs))) false, S12 "poll" xs) := by
  have q : inD (.str "poll") (.tup [.str "wait", .str "poll"]) = .ok true := by
    have := in_strs (s := "poll") ["wait", "poll"]
    rw [decide_eq_true (by simp)] at this
    exact this
  have ix : ixmD (.tup [.str "wait", .str "poll"]) (.str "poll") = .ok (.int 1) := by rfl
  have r : (Pn (n + 6)).fn 10 [.shr (.tup (.str "poll" :: xs)), .shr (.int 2)] = .ok (.bl (pollB (.str "poll" :: xs)), false, []) := by
    by_cases hl : xs.length = 5
    · match xs, hl with
      | [r, p, t, u, g], _ => exact c10b n h
    · rw [c10n n (.inr rfl) (by simp; omega)]
      have : pollB (.str "poll" :: xs) = false := by
        unfold pollB
        split
        · rename_i e; injection e with _ e; subst e; simp at hl
        · rfl
      rw [this]
  simp [B12, f12, Iq.run, ioFit, evB, evS, evE.eq_1, evE.eq_2, evE.eq_3, evE.eq_4, evE.eq_5, evE.eq_6, evE.eq_7, evE.eq_8, evE.eq_9, evE.eq_10, evE.eq_11, evE.eq_12, evE.eq_13, evE.eq_14, evE.eq_15, evE.eq_16, evE.eq_17, evE.eq_18, evE.eq_19, evE.eq_20, evE.eq_21, evE.eq_22, evE.eq_24, evE.eq_25, evE.eq_26, evE.eq_27, evE.eq_28, evE.eq_29, evE.eq_30, evE.eq_31, evE.eq_32, evL, evA, evO, evT, Iq.hd, deref, R.bind_ok, R.bind_bad, truth, intOf, callG, hdS, argsS, argS, putOuts, setOwn, outs, isOwn, cmpD, cs7, q, ix, io10, add_ok, r]
theorem g_5 (n : Nat) {w : Str} {xs : List D} (hw : w ∈ (["kill", "release"] : List Str)) (h : G (.tup (.str w :: xs))) : evS (Pn (n + 6)) (B12 5) (S12 w xs) = .ok (.rt (.bl (slotB (.str w :: xs))) false, S12 w xs) := by
  have q : inD (.str w) (.tup [.str "kill", .str "release"]) = .ok true := by
    have := in_strs (s := w) ["kill", "release"]
    rw [decide_eq_true hw] at this
    exact this
  by_cases hl : xs.length = 2
  · match xs, hl with
    | [a, b], _ =>
      have qa := c2 (n + 5) (h.tup.1 a (by simp))
      have qb := c1 (n + 4) (h.tup.1 b (by simp))
      have i1 : atI [D.str w, a, b] 1 = some a := rfl
      have i2 : atI [D.str w, a, b] 2 = some b := rfl
      cases za : nameB a <;> simp [B12, f12, Iq.run, ioFit, evB, evS, evE.eq_1, evE.eq_2, evE.eq_3, evE.eq_4, evE.eq_5, evE.eq_6, evE.eq_7, evE.eq_8, evE.eq_9, evE.eq_10, evE.eq_11, evE.eq_12, evE.eq_13, evE.eq_14, evE.eq_15, evE.eq_16, evE.eq_17, evE.eq_18, evE.eq_19, evE.eq_20, evE.eq_21, evE.eq_22, evE.eq_24, evE.eq_25, evE.eq_26, evE.eq_27, evE.eq_28, evE.eq_29, evE.eq_30, evE.eq_31, evE.eq_32, evL, evA, evO, evT, Iq.hd, deref, R.bind_ok, R.bind_bad, truth, intOf, callG, hdS, argsS, argS, putOuts, setOwn, outs, isOwn, cmpD, cs8, q, biD, int_eq, io2, io1, idxD, i1, i2, qa, qb, za, slotB]
  · have z : ((xs.length : Int) + 1 == 3) = false := beq_eq_false_iff_ne.mpr (by omega)
    have f : slotB (.str w :: xs) = false := by
      unfold slotB
      split
      · rename_i e; injection e with _ e; subst e; simp at hl
      · rfl
    simp [B12, f12, Iq.run, ioFit, evB, evS, evE.eq_1, evE.eq_2, evE.eq_3, evE.eq_4, evE.eq_5, evE.eq_6, evE.eq_7, evE.eq_8, evE.eq_9, evE.eq_10, evE.eq_11, evE.eq_12, evE.eq_13, evE.eq_14, evE.eq_15, evE.eq_16, evE.eq_17, evE.eq_18, evE.eq_19, evE.eq_20, evE.eq_21, evE.eq_22, evE.eq_24, evE.eq_25, evE.eq_26, evE.eq_27, evE.eq_28, evE.eq_29, evE.eq_30, evE.eq_31, evE.eq_32, evL, evA, evO, evT, Iq.hd, deref, R.bind_ok, R.bind_bad, truth, intOf, callG, hdS, argsS, argS, putOuts, setOwn, outs, isOwn, cmpD, cs8, q, biD, int_eq, z, f]
theorem g_6 (n : Nat) {w : Str} {xs : List D} (h : G (.tup (.str w :: xs))) : evS (Pn (n + 6)) (B12 6) (S12 w xs) = .ok (.rt (.bl (decide (w = "exit") && exitB (.str w :: xs))) false, S12 w xs) := by
  by_cases hw : w = "exit"
  · subst hw
    have e1 : eqD (.str "exit") (.str "exit") = .ok true := by rw [str_eq ok_exit ok_exit]; simp
    by_cases hl : xs.length = 1
    · match xs, hl with
      | [a], _ =>
        have qb := c1 (n + 4) (h.tup.1 a (by simp))
        have i1 : atI [D.str "exit", a] 1 = some a := rfl
        cases a with
        | int i => by_cases z : 0 ≤ i <;> simp [B12, f12, Iq.run, ioFit, evB, evS, evE.eq_1, evE.eq_2, evE.eq_3, evE.eq_4, evE.eq_5, evE.eq_6, evE.eq_7, evE.eq_8, evE.eq_9, evE.eq_10, evE.eq_11, evE.eq_12, evE.eq_13, evE.eq_14, evE.eq_15, evE.eq_16, evE.eq_17, evE.eq_18, evE.eq_19, evE.eq_20, evE.eq_21, evE.eq_22, evE.eq_24, evE.eq_25, evE.eq_26, evE.eq_27, evE.eq_28, evE.eq_29, evE.eq_30, evE.eq_31, evE.eq_32, evL, evA, evO, evT, Iq.hd, deref, R.bind_ok, R.bind_bad, truth, intOf, callG, hdS, argsS, argS, putOuts, setOwn, outs, isOwn, cmpD, e1, biD, int_eq, io1, idxD, i1, qb, exitB, numB, z, leI]
        | _ => simp [B12, f12, Iq.run, ioFit, evB, evS, evE.eq_1, evE.eq_2, evE.eq_3, evE.eq_4, evE.eq_5, evE.eq_6, evE.eq_7, evE.eq_8, evE.eq_9, evE.eq_10, evE.eq_11, evE.eq_12, evE.eq_13, evE.eq_14, evE.eq_15, evE.eq_16, evE.eq_17, evE.eq_18, evE.eq_19, evE.eq_20, evE.eq_21, evE.eq_22, evE.eq_24, evE.eq_25, evE.eq_26, evE.eq_27, evE.eq_28, evE.eq_29, evE.eq_30, evE.eq_31, evE.eq_32, evL, evA, evO, evT, Iq.hd, deref, R.bind_ok, R.bind_bad, truth, intOf, callG, hdS, argsS, argS, putOuts, setOwn, outs, isOwn, cmpD, e1, biD, int_eq, io1, idxD, i1, qb, exitB, numB]
    · have z : ((xs.length : Int) + 1 == 2) = false := beq_eq_false_iff_ne.mpr (by omega)
      have f : exitB (.str "exit" :: xs) = false := by
        unfold exitB
        split
        · rename_i e; injection e with _ e; subst e; simp at hl
        · rfl
      simp [B12, f12, Iq.run, ioFit, evB, evS, evE.eq_1, evE.eq_2, evE.eq_3, evE.eq_4, evE.eq_5, evE.eq_6, evE.eq_7, evE.eq_8, evE.eq_9, evE.eq_10, evE.eq_11, evE.eq_12, evE.eq_13, evE.eq_14, evE.eq_15, evE.eq_16, evE.eq_17, evE.eq_18, evE.eq_19, evE.eq_20, evE.eq_21, evE.eq_22, evE.eq_24, evE.eq_25, evE.eq_26, evE.eq_27, evE.eq_28, evE.eq_29, evE.eq_30, evE.eq_31, evE.eq_32, evL, evA, evO, evT, Iq.hd, deref, R.bind_ok, R.bind_bad, truth, intOf, callG, hdS, argsS, argS, putOuts, setOwn, outs, isOwn, cmpD, e1, biD, int_eq, z, f]
  · have e1 : eqD (.str w) (.str "exit") = .ok false := by rw [str_eq (h.tup.1 (.str w) (by simp)).str.2 ok_exit, bq]; simp [hw]
    simp [B12, f12, Iq.run, ioFit, evB, evS, evE.eq_1, evE.eq_2, evE.eq_3, evE.eq_4, evE.eq_5, evE.eq_6, evE.eq_7, evE.eq_8, evE.eq_9, evE.eq_10, evE.eq_11, evE.eq_12, evE.eq_13, evE.eq_14, evE.eq_15, evE.eq_16, evE.eq_17, evE.eq_18, evE.eq_19, evE.eq_20, evE.eq_21, evE.eq_22, evE.eq_24, evE.eq_25, evE.eq_26, evE.eq_27, evE.eq_28, evE.eq_29, evE.eq_30, evE.eq_31, evE.eq_32, evL, evA, evO, evT, Iq.hd, deref, R.bind_ok, R.bind_bad, truth, intOf, callG, hdS, argsS, argS, putOuts, setOwn, outs, isOwn, cmpD, e1, hw]
end Q
set_option Elab.async false
set_option linter.all false
set_option maxRecDepth 100000
set_option maxHeartbeats 4000000
namespace Q
open PySem L2 Iq
theorem run_rt {P : Pr} {f : Fn} {as : List Sl} {d : D} {fr : Bool} {ς' : List Sl} (h1 : as.length = f.np ∧ f.np ≤ f.nl ∧ f.io.length ≤ f.np ∧ ioFit f.io as = true) (h2 : f.io = []) (e : evB P f.body (as ++ List.replicate (f.nl - f.np) .no) = .ok (.rt d fr, ς')) : Iq.run P f as = .ok (d, fr, []) := by
  unfold Iq.run
  rw [if_pos h1, e, h2]
  rfl
theorem c12 (n : Nat) {d : D} (h : G d) : (Pn (n + 7)).fn 12 [.shr d] = .ok (.bl (actB d), false, []) := by
  rw [fn12]
  show Iq.run (Pn (n + 6)) f12 [.shr d] = _
  cases d with
  | fn _ => exact h.fn.elim
  | dic _ => exact h.dic.elim
  | tup xs =>
    cases xs with
    | nil => simp [f12, Iq.run, ioFit, evB, evS, evE.eq_1, evE.eq_2, evE.eq_3, evE.eq_4, evE.eq_5, evE.eq_6, evE.eq_7, evE.eq_8, evE.eq_9, evE.eq_10, evE.eq_11, evE.eq_12, evE.eq_13, evE.eq_14, evE.eq_15, evE.eq_16, evE.eq_17, evE.eq_18, evE.eq_19, evE.eq_20, evE.eq_21, evE.eq_22, evE.eq_24, evE.eq_25, evE.eq_26, evE.eq_27, evE.eq_28, evE.eq_29, evE.eq_30, evE.eq_31, evE.eq_32, evL, evA, evO, evT, Iq.hd, deref, R.bind_ok, R.bind_bad, truth, intOf, callG, hdS, argsS, argS, putOuts, setOwn, outs, isOwn, isTys, isTy, ty_beq, biD, cmpD, int_eq, actB]
    | cons x xs =>
      have z : ¬ (xs.length : Int) + 1 = 0 := by omega
      have gx := h.tup.1 x (by simp)
      cases x with
      | fn _ => exact gx.fn.elim
      | dic _ => exact gx.dic.elim
      | str s =>
        refine run_rt (ς' := S12 s xs) ⟨rfl, by decide, by decide, rfl⟩ rfl ?_
        show evB (Pn (n + 6)) [B12 0, B12 1, B12 2, B12 3, B12 4, B12 5, B12 6] [.shr (.tup (.str s :: xs)), .no] = .ok (.rt (.bl (actW s (.str s :: xs))) false, S12 s xs)
        refine ev_nx (w_0 _) (ev_nx (w_1 _) ?_)
        have ss := gx.str.2
        by_cases a1 : s = "go"
        · subst a1
          exact ev_rt (g_2 n h)
        refine ev_nx (w_2 _ ss a1) ?_
        by_cases a2 : s = "fork"
        · subst a2
          exact ev_rt (g_3 n h)
        refine ev_nx (w_3 _ ss a2) ?_
        by_cases a3 : s = "wait"
        · subst a3
          exact ev_rt (g_4a n h)
        by_cases a4 : s = "poll"
        · subst a4
          exact ev_rt (g_4b n h)
        refine ev_nx (w_4 _ (by simp [a3, a4])) ?_
        by_cases a5 : s = "kill"
        · subst a5
          exact ev_rt (g_5 n (by simp) h)
        by_cases a6 : s = "release"
        · subst a6
          exact ev_rt (g_5 n (by simp) h)
        refine ev_nx (w_5 _ (by simp [a5, a6])) (ev_rt ?_)
        rw [g_6 n h]
        simp only [actW, a1, a2, a3, a4, a5, a6, if_false]
        by_cases a7 : s = "exit" <;> simp [a7]
      | _ => simp [f12, Iq.run, ioFit, evB, evS, evE.eq_1, evE.eq_2, evE.eq_3, evE.eq_4, evE.eq_5, evE.eq_6, evE.eq_7, evE.eq_8, evE.eq_9, evE.eq_10, evE.eq_11, evE.eq_12, evE.eq_13, evE.eq_14, evE.eq_15, evE.eq_16, evE.eq_17, evE.eq_18, evE.eq_19, evE.eq_20, evE.eq_21, evE.eq_22, evE.eq_24, evE.eq_25, evE.eq_26, evE.eq_27, evE.eq_28, evE.eq_29, evE.eq_30, evE.eq_31, evE.eq_32, evL, evA, evO, evT, Iq.hd, deref, R.bind_ok, R.bind_bad, truth, intOf, callG, hdS, argsS, argS, putOuts, setOwn, outs, isOwn, isTys, isTy, ty_beq, biD, cmpD, int_eq, bq, z, idxD, at0, actB]
  | _ => simp [f12, Iq.run, ioFit, evB, evS, evE.eq_1, evE.eq_2, evE.eq_3, evE.eq_4, evE.eq_5, evE.eq_6, evE.eq_7, evE.eq_8, evE.eq_9, evE.eq_10, evE.eq_11, evE.eq_12, evE.eq_13, evE.eq_14, evE.eq_15, evE.eq_16, evE.eq_17, evE.eq_18, evE.eq_19, evE.eq_20, evE.eq_21, evE.eq_22, evE.eq_24, evE.eq_25, evE.eq_26, evE.eq_27, evE.eq_28, evE.eq_29, evE.eq_30, evE.eq_31, evE.eq_32, evL, evA, evO, evT, Iq.hd, deref, R.bind_ok, R.bind_bad, truth, intOf, callG, hdS, argsS, argS, putOuts, setOwn, outs, isOwn, isTys, isTy, ty_beq, actB]
/-! ### kinds -/
def shapeB : D → Bool
  | .tup [a, b, .tup (_ :: _)] => nameB a && namesB b
  | _ => false
def kindB : D → Bool
  | .tup [a, b, .tup (x :: xs)] => (nameB a && namesB b) && (x :: xs).all actB
  | _ => false
def tupL (k : Nat) : D → Bool
  | .tup xs => decide (xs.length = k)
  | _ => false
theorem c6k (n k : Nat) (i : Int) (hi : i = k) {d : D} (h : G d) : (Pn (n + 1)).fn 6 [.shr d, .shr (.int i)] = .ok (.bl (tupL k d), false, []) := by
  subst hi
  rw [c6 n h]
  cases d <;> first | rw [tupN_is, tupL] | rfl
theorem ixs3 {a b c : D} : atI [a, b, c] 0 = some a ∧ atI [a, b, c] 1 = some b ∧ atI [a, b, c] 2 = some c := ⟨rfl, rfl, rfl⟩
theorem ixs2 {a b : D} : atI [a, b] 0 = some a ∧ atI [a, b] 1 = some b := ⟨rfl, rfl⟩
theorem c13 (n : Nat) {d : D} (h : G d) : (Pn (n + 5)).fn 13 [.shr d] = .ok (.bl (shapeB d), false, []) := by
  rw [fn13]
  have t := c6k (n + 3) 3 3 rfl h
  cases d with
  | fn _ => exact h.fn.elim
  | dic _ => exact h.dic.elim
  | tup xs =>
    by_cases hl : xs.length = 3
    · match xs, hl with
      | [a, b, c], _ =>
        have qa := c2 (n + 3) (h.tup.1 a (by simp))
        have qb := c4 (n + 2) (h.tup.1 b (by simp))
        have gc := h.tup.1 c (by simp)
        obtain ⟨i0, i1, i2⟩ := ixs3 (a := a) (b := b) (c := c)
        cases za : nameB a <;> cases zb : namesB b <;> cases c with
        | fn _ => exact gc.fn.elim
        | dic _ => exact gc.dic.elim
        | tup ys => cases ys <;> simp [f13, pack, Iq.run, ioFit, evB, evS, evE.eq_1, evE.eq_2, evE.eq_3, evE.eq_4, evE.eq_5, evE.eq_6, evE.eq_7, evE.eq_8, evE.eq_9, evE.eq_10, evE.eq_11, evE.eq_12, evE.eq_13, evE.eq_14, evE.eq_15, evE.eq_16, evE.eq_17, evE.eq_18, evE.eq_19, evE.eq_20, evE.eq_21, evE.eq_22, evE.eq_24, evE.eq_25, evE.eq_26, evE.eq_27, evE.eq_28, evE.eq_29, evE.eq_30, evE.eq_31, evE.eq_32, evL, evA, evO, evT, Iq.hd, deref, R.bind_ok, R.bind_bad, truth, intOf, callG, hdS, argsS, argS, putOuts, setOwn, outs, isOwn, io6, io2, io4, t, tupL, idxD, i0, i1, i2, qa, qb, za, zb, shapeB, isTys, isTy, ty_beq, biD, cmpD] <;> omega
        | _ => simp [f13, pack, Iq.run, ioFit, evB, evS, evE.eq_1, evE.eq_2, evE.eq_3, evE.eq_4, evE.eq_5, evE.eq_6, evE.eq_7, evE.eq_8, evE.eq_9, evE.eq_10, evE.eq_11, evE.eq_12, evE.eq_13, evE.eq_14, evE.eq_15, evE.eq_16, evE.eq_17, evE.eq_18, evE.eq_19, evE.eq_20, evE.eq_21, evE.eq_22, evE.eq_24, evE.eq_25, evE.eq_26, evE.eq_27, evE.eq_28, evE.eq_29, evE.eq_30, evE.eq_31, evE.eq_32, evL, evA, evO, evT, Iq.hd, deref, R.bind_ok, R.bind_bad, truth, intOf, callG, hdS, argsS, argS, putOuts, setOwn, outs, isOwn, io6, io2, io4, t, tupL, idxD, i0, i1, i2, qa, qb, za, zb, shapeB, isTys, isTy, ty_beq, biD, cmpD]
    · have f : shapeB (.tup xs) = false := by
        unfold shapeB
        split
        · rename_i e; injection e with e; subst e; simp at hl
        · rfl
      simp [f13, pack, Iq.run, ioFit, evB, evS, evE.eq_1, evE.eq_2, evE.eq_3, evE.eq_4, evE.eq_5, evE.eq_6, evE.eq_7, evE.eq_8, evE.eq_9, evE.eq_10, evE.eq_11, evE.eq_12, evE.eq_13, evE.eq_14, evE.eq_15, evE.eq_16, evE.eq_17, evE.eq_18, evE.eq_19, evE.eq_20, evE.eq_21, evE.eq_22, evE.eq_24, evE.eq_25, evE.eq_26, evE.eq_27, evE.eq_28, evE.eq_29, evE.eq_30, evE.eq_31, evE.eq_32, evL, evA, evO, evT, Iq.hd, deref, R.bind_ok, R.bind_bad, truth, intOf, callG, hdS, argsS, argS, putOuts, setOwn, outs, isOwn, io6, t, tupL, hl, f]
  | _ => simp [f13, pack, Iq.run, ioFit, evB, evS, evE.eq_1, evE.eq_2, evE.eq_3, evE.eq_4, evE.eq_5, evE.eq_6, evE.eq_7, evE.eq_8, evE.eq_9, evE.eq_10, evE.eq_11, evE.eq_12, evE.eq_13, evE.eq_14, evE.eq_15, evE.eq_16, evE.eq_17, evE.eq_18, evE.eq_19, evE.eq_20, evE.eq_21, evE.eq_22, evE.eq_24, evE.eq_25, evE.eq_26, evE.eq_27, evE.eq_28, evE.eq_29, evE.eq_30, evE.eq_31, evE.eq_32, evL, evA, evO, evT, Iq.hd, deref, R.bind_ok, R.bind_bad, truth, intOf, callG, hdS, argsS, argS, putOuts, setOwn, outs, isOwn, io6, t, tupL, shapeB]
end Q
set_option Elab.async false
set_option linter.all false
set_option maxRecDepth 100000
set_option maxHeartbeats 4000000
namespace Q
open PySem L2 Iq
theorem c14 (n : Nat) {d : D} (h : G d) : (Pn (n + 8)).fn 14 [.shr d] = .ok (.bl (kindB d), false, []) := by
  rw [fn14]
  have q := c13 (n + 2) h
  cases s : shapeB d with
  | false =>
    have f : kindB d = false := by
      unfold kindB
      split
      · rename_i a b x xs
        simp only [shapeB] at s
        simp [s]
      · rfl
    simp [f14, pack, Iq.run, ioFit, evB, evS, evE.eq_1, evE.eq_2, evE.eq_3, evE.eq_4, evE.eq_5, evE.eq_6, evE.eq_7, evE.eq_8, evE.eq_9, evE.eq_10, evE.eq_11, evE.eq_12, evE.eq_13, evE.eq_14, evE.eq_15, evE.eq_16, evE.eq_17, evE.eq_18, evE.eq_19, evE.eq_20, evE.eq_21, evE.eq_22, evE.eq_24, evE.eq_25, evE.eq_26, evE.eq_27, evE.eq_28, evE.eq_29, evE.eq_30, evE.eq_31, evE.eq_32, evL, evA, evO, evT, Iq.hd, deref, R.bind_ok, R.bind_bad, truth, intOf, callG, hdS, argsS, argS, putOuts, setOwn, outs, isOwn, io13, q, s, f]
  | true =>
    unfold shapeB at s
    split at s
    · rename_i a b x xs
      have i2 : atI [a, b, D.tup (x :: xs)] 2 = some (.tup (x :: xs)) := rfl
      have gc := (h.tup.1 (.tup (x :: xs)) (by simp)).tup.1
      have co := comp1a (P := Pn (n + 7)) (e := .call 12 [.var 1]) (i := 1) (src := .idx (.var 0) (.con (.int 2))) (ς := [.shr (.tup [a, b, .tup (x :: xs)]), .no]) (d0 := .tup (x :: xs)) (fr0 := false) (xs := x :: xs) (g := fun x => .bl (actB x)) (by simp [Iq.run, ioFit, evB, evS, evE.eq_1, evE.eq_2, evE.eq_3, evE.eq_4, evE.eq_5, evE.eq_6, evE.eq_7, evE.eq_8, evE.eq_9, evE.eq_10, evE.eq_11, evE.eq_12, evE.eq_13, evE.eq_14, evE.eq_15, evE.eq_16, evE.eq_17, evE.eq_18, evE.eq_19, evE.eq_20, evE.eq_21, evE.eq_22, evE.eq_24, evE.eq_25, evE.eq_26, evE.eq_27, evE.eq_28, evE.eq_29, evE.eq_30, evE.eq_31, evE.eq_32, evL, evA, evO, evT, Iq.hd, deref, R.bind_ok, R.bind_bad, truth, intOf, callG, hdS, argsS, argS, putOuts, setOwn, outs, isOwn, idxD, i2]) rfl (by simp) rfl fun y hy => ⟨false, by
        have := c12 n (gc y hy)
        simp [Iq.run, ioFit, evB, evS, evE.eq_1, evE.eq_2, evE.eq_3, evE.eq_4, evE.eq_5, evE.eq_6, evE.eq_7, evE.eq_8, evE.eq_9, evE.eq_10, evE.eq_11, evE.eq_12, evE.eq_13, evE.eq_14, evE.eq_15, evE.eq_16, evE.eq_17, evE.eq_18, evE.eq_19, evE.eq_20, evE.eq_21, evE.eq_22, evE.eq_24, evE.eq_25, evE.eq_26, evE.eq_27, evE.eq_28, evE.eq_29, evE.eq_30, evE.eq_31, evE.eq_32, evL, evA, evO, evT, Iq.hd, deref, R.bind_ok, R.bind_bad, truth, intOf, callG, hdS, argsS, argS, putOuts, setOwn, outs, isOwn, io12, this]⟩
      have q' : shapeB (.tup [a, b, .tup (x :: xs)]) = true := s
      have hb : bls (D.bl (actB x) :: xs.map fun y => D.bl (actB y)) = some (actB x :: xs.map actB) := bls_map (x :: xs)
      rw [List.map_cons] at co
      simp [f14, pack, Iq.run, ioFit, evB, evS, evE.eq_1, evE.eq_2, evE.eq_3, evE.eq_4, evE.eq_5, evE.eq_6, evE.eq_7, evE.eq_8, evE.eq_9, evE.eq_10, evE.eq_11, evE.eq_12, evE.eq_13, evE.eq_14, evE.eq_15, evE.eq_16, evE.eq_17, evE.eq_18, evE.eq_19, evE.eq_20, evE.eq_21, evE.eq_22, evE.eq_24, evE.eq_25, evE.eq_26, evE.eq_27, evE.eq_28, evE.eq_29, evE.eq_30, evE.eq_31, evE.eq_32, evL, evA, evO, evT, Iq.hd, deref, R.bind_ok, R.bind_bad, truth, intOf, callG, hdS, argsS, argS, putOuts, setOwn, outs, isOwn, io13, q, q', kindB, s, biD, co, hb, List.all_map, Function.comp_def]
    · cases s

/-! ### steps -/
def stepB : D → Bool
  | .tup [a, .str w, c] => numB a && (if w = "go" ∨ w = "take" then numB c else decide (w ∈ (["go", "fork", "take", "none", "later", "kill", "release", "exit"] : List Str)) && m1B c)
  | _ => false
theorem c15 (n : Nat) {d : D} (h : G d) : (Pn (n + 4)).fn 15 [.shr d] = .ok (.bl (stepB d), false, []) := by
  rw [fn15]
  have t := c6k (n + 2) 3 3 rfl h
  cases d with
  | fn _ => exact h.fn.elim
  | dic _ => exact h.dic.elim
  | tup xs =>
    by_cases hl : xs.length = 3
    · match xs, hl with
      | [a, b, c], _ =>
        have qa := c1 (n + 1) (h.tup.1 a (by simp))
        have gb := h.tup.1 b (by simp)
        have gc := h.tup.1 c (by simp)
        obtain ⟨i0, i1, i2⟩ := ixs3 (a := a) (b := b) (c := c)
        cases za : numB a with
        | false =>
          have f : stepB (.tup [a, b, c]) = false := by
            unfold stepB
            split
            · rename_i e; injection e with e; injection e with e1 e; subst e1; simp [za]
            · rfl
          simp [f15, pack, Iq.run, ioFit, evB, evS, evE.eq_1, evE.eq_2, evE.eq_3, evE.eq_4, evE.eq_5, evE.eq_6, evE.eq_7, evE.eq_8, evE.eq_9, evE.eq_10, evE.eq_11, evE.eq_12, evE.eq_13, evE.eq_14, evE.eq_15, evE.eq_16, evE.eq_17, evE.eq_18, evE.eq_19, evE.eq_20, evE.eq_21, evE.eq_22, evE.eq_24, evE.eq_25, evE.eq_26, evE.eq_27, evE.eq_28, evE.eq_29, evE.eq_30, evE.eq_31, evE.eq_32, evL, evA, evO, evT, Iq.hd, deref, R.bind_ok, R.bind_bad, truth, intOf, callG, hdS, argsS, argS, putOuts, setOwn, outs, isOwn, io6, io1, t, tupL, idxD, i0, qa, za, f]
        | true =>
          cases b with
          | fn _ => exact gb.fn.elim
          | dic _ => exact gb.dic.elim
          | str w =>
            have s1 := in_strs (s := w) ["go", "fork", "take", "none", "later", "kill", "release", "exit"]
            have s2 := in_strs (s := w) ["go", "take"]
            simp only [List.map_cons, List.map_nil] at s1 s2
            have q1 := c1 (n + 1) gc
            have q0 := c0 (n + 2) gc
            by_cases m1 : w ∈ (["go", "fork", "take", "none", "later", "kill", "release", "exit"] : List Str)
            · rw [decide_eq_true m1] at s1
              by_cases m2 : w ∈ (["go", "take"] : List Str)
              · rw [decide_eq_true m2] at s2
                have m2' : w = "go" ∨ w = "take" := by simpa using m2
                simp [f15, pack, Iq.run, ioFit, evB, evS, evE.eq_1, evE.eq_2, evE.eq_3, evE.eq_4, evE.eq_5, evE.eq_6, evE.eq_7, evE.eq_8, evE.eq_9, evE.eq_10, evE.eq_11, evE.eq_12, evE.eq_13, evE.eq_14, evE.eq_15, evE.eq_16, evE.eq_17, evE.eq_18, evE.eq_19, evE.eq_20, evE.eq_21, evE.eq_22, evE.eq_24, evE.eq_25, evE.eq_26, evE.eq_27, evE.eq_28, evE.eq_29, evE.eq_30, evE.eq_31, evE.eq_32, evL, evA, evO, evT, Iq.hd, deref, R.bind_ok, R.bind_bad, truth, intOf, callG, hdS, argsS, argS, putOuts, setOwn, outs, isOwn, io6, io1, t, tupL, idxD, i0, i1, i2, qa, za, isTys, isTy, ty_beq, cmpD, notR, cs5, cs6, s1, s2, q1, stepB, m2']
              · rw [decide_eq_false m2] at s2
                have m2' : ¬ (w = "go" ∨ w = "take") := by simpa using m2
                simp only [stepB, if_neg m2', decide_eq_true m1, za, Bool.true_and]
                cases c <;> simp [f15, pack, Iq.run, ioFit, evB, evS, evE.eq_1, evE.eq_2, evE.eq_3, evE.eq_4, evE.eq_5, evE.eq_6, evE.eq_7, evE.eq_8, evE.eq_9, evE.eq_10, evE.eq_11, evE.eq_12, evE.eq_13, evE.eq_14, evE.eq_15, evE.eq_16, evE.eq_17, evE.eq_18, evE.eq_19, evE.eq_20, evE.eq_21, evE.eq_22, evE.eq_24, evE.eq_25, evE.eq_26, evE.eq_27, evE.eq_28, evE.eq_29, evE.eq_30, evE.eq_31, evE.eq_32, evL, evA, evO, evT, Iq.hd, deref, R.bind_ok, R.bind_bad, truth, intOf, callG, hdS, argsS, argS, putOuts, setOwn, outs, isOwn, io6, io1, io0, t, tupL, idxD, i0, i1, i2, qa, za, isTys, isTy, ty_beq, cmpD, notR, cs5, cs6, s1, s2, q0, intB, m1B, int_eq]
            · rw [decide_eq_false m1] at s1
              have m2' : ¬ (w = "go" ∨ w = "take") := fun e => m1 (by rcases e with rfl | rfl <;> simp)
              simp only [stepB, if_neg m2', decide_eq_false m1, Bool.false_and, Bool.and_false]
              simp [f15, pack, Iq.run, ioFit, evB, evS, evE.eq_1, evE.eq_2, evE.eq_3, evE.eq_4, evE.eq_5, evE.eq_6, evE.eq_7, evE.eq_8, evE.eq_9, evE.eq_10, evE.eq_11, evE.eq_12, evE.eq_13, evE.eq_14, evE.eq_15, evE.eq_16, evE.eq_17, evE.eq_18, evE.eq_19, evE.eq_20, evE.eq_21, evE.eq_22, evE.eq_24, evE.eq_25, evE.eq_26, evE.eq_27, evE.eq_28, evE.eq_29, evE.eq_30, evE.eq_31, evE.eq_32, evL, evA, evO, evT, Iq.hd, deref, R.bind_ok, R.bind_bad, truth, intOf, callG, hdS, argsS, argS, putOuts, setOwn, outs, isOwn, io6, io1, t, tupL, idxD, i0, i1, i2, qa, za, isTys, isTy, ty_beq, cmpD, notR, cs5, cs6, s1]
          | _ => simp [f15, pack, Iq.run, ioFit, evB, evS, evE.eq_1, evE.eq_2, evE.eq_3, evE.eq_4, evE.eq_5, evE.eq_6, evE.eq_7, evE.eq_8, evE.eq_9, evE.eq_10, evE.eq_11, evE.eq_12, evE.eq_13, evE.eq_14, evE.eq_15, evE.eq_16, evE.eq_17, evE.eq_18, evE.eq_19, evE.eq_20, evE.eq_21, evE.eq_22, evE.eq_24, evE.eq_25, evE.eq_26, evE.eq_27, evE.eq_28, evE.eq_29, evE.eq_30, evE.eq_31, evE.eq_32, evL, evA, evO, evT, Iq.hd, deref, R.bind_ok, R.bind_bad, truth, intOf, callG, hdS, argsS, argS, putOuts, setOwn, outs, isOwn, io6, io1, t, tupL, idxD, i0, i1, qa, za, isTys, isTy, ty_beq, stepB]
    · have f : stepB (.tup xs) = false := by
        unfold stepB
        split
        · rename_i e; injection e with e; subst e; simp at hl
        · rfl
      simp [f15, pack, Iq.run, ioFit, evB, evS, evE.eq_1, evE.eq_2, evE.eq_3, evE.eq_4, evE.eq_5, evE.eq_6, evE.eq_7, evE.eq_8, evE.eq_9, evE.eq_10, evE.eq_11, evE.eq_12, evE.eq_13, evE.eq_14, evE.eq_15, evE.eq_16, evE.eq_17, evE.eq_18, evE.eq_19, evE.eq_20, evE.eq_21, evE.eq_22, evE.eq_24, evE.eq_25, evE.eq_26, evE.eq_27, evE.eq_28, evE.eq_29, evE.eq_30, evE.eq_31, evE.eq_32, evL, evA, evO, evT, Iq.hd, deref, R.bind_ok, R.bind_bad, truth, intOf, callG, hdS, argsS, argS, putOuts, setOwn, outs, isOwn, io6, t, tupL, hl, f]
  | _ => simp [f15, pack, Iq.run, ioFit, evB, evS, evE.eq_1, evE.eq_2, evE.eq_3, evE.eq_4, evE.eq_5, evE.eq_6, evE.eq_7, evE.eq_8, evE.eq_9, evE.eq_10, evE.eq_11, evE.eq_12, evE.eq_13, evE.eq_14, evE.eq_15, evE.eq_16, evE.eq_17, evE.eq_18, evE.eq_19, evE.eq_20, evE.eq_21, evE.eq_22, evE.eq_24, evE.eq_25, evE.eq_26, evE.eq_27, evE.eq_28, evE.eq_29, evE.eq_30, evE.eq_31, evE.eq_32, evL, evA, evO, evT, Iq.hd, deref, R.bind_ok, R.bind_bad, truth, intOf, callG, hdS, argsS, argS, putOuts, setOwn, outs, isOwn, io6, t, tupL, stepB]
/-! ### states -/
def contB : D → Bool
  | .tup [] => true
  | .tup [a, .int i] => numB a && (decide (-1 ≤ i) && decide (i ≤ 2))
  | _ => false
theorem c16 (n : Nat) {d : D} (h : G d) : (Pn (n + 3)).fn 16 [.shr d] = .ok (.bl (contB d), false, []) := by
  rw [fn16]
  cases d with
  | fn _ => exact h.fn.elim
  | dic _ => exact h.dic.elim
  | tup xs =>
    match xs, h with
    | [], h => simp [f16, pack, Iq.run, ioFit, evB, evS, evE.eq_1, evE.eq_2, evE.eq_3, evE.eq_4, evE.eq_5, evE.eq_6, evE.eq_7, evE.eq_8, evE.eq_9, evE.eq_10, evE.eq_11, evE.eq_12, evE.eq_13, evE.eq_14, evE.eq_15, evE.eq_16, evE.eq_17, evE.eq_18, evE.eq_19, evE.eq_20, evE.eq_21, evE.eq_22, evE.eq_24, evE.eq_25, evE.eq_26, evE.eq_27, evE.eq_28, evE.eq_29, evE.eq_30, evE.eq_31, evE.eq_32, evL, evA, evO, evT, Iq.hd, deref, R.bind_ok, R.bind_bad, truth, intOf, callG, hdS, argsS, argS, putOuts, setOwn, outs, isOwn, isTys, isTy, ty_beq, biD, cmpD, int_eq, contB]
    | [a], h => simp [f16, pack, Iq.run, ioFit, evB, evS, evE.eq_1, evE.eq_2, evE.eq_3, evE.eq_4, evE.eq_5, evE.eq_6, evE.eq_7, evE.eq_8, evE.eq_9, evE.eq_10, evE.eq_11, evE.eq_12, evE.eq_13, evE.eq_14, evE.eq_15, evE.eq_16, evE.eq_17, evE.eq_18, evE.eq_19, evE.eq_20, evE.eq_21, evE.eq_22, evE.eq_24, evE.eq_25, evE.eq_26, evE.eq_27, evE.eq_28, evE.eq_29, evE.eq_30, evE.eq_31, evE.eq_32, evL, evA, evO, evT, Iq.hd, deref, R.bind_ok, R.bind_bad, truth, intOf, callG, hdS, argsS, argS, putOuts, setOwn, outs, isOwn, isTys, isTy, ty_beq, biD, cmpD, int_eq, bq, contB]
    | [a, b], h =>
      have qa := c1 n (h.tup.1 a (by simp))
      have gb := h.tup.1 b (by simp)
      have qb := c0 (n + 1) gb
      obtain ⟨i0, i1⟩ := ixs2 (a := a) (b := b)
      cases za : numB a <;> cases b with
      | fn _ => exact gb.fn.elim
      | dic _ => exact gb.dic.elim
      | int i => by_cases z : -1 ≤ i <;> simp [f16, pack, Iq.run, ioFit, evB, evS, evE.eq_1, evE.eq_2, evE.eq_3, evE.eq_4, evE.eq_5, evE.eq_6, evE.eq_7, evE.eq_8, evE.eq_9, evE.eq_10, evE.eq_11, evE.eq_12, evE.eq_13, evE.eq_14, evE.eq_15, evE.eq_16, evE.eq_17, evE.eq_18, evE.eq_19, evE.eq_20, evE.eq_21, evE.eq_22, evE.eq_24, evE.eq_25, evE.eq_26, evE.eq_27, evE.eq_28, evE.eq_29, evE.eq_30, evE.eq_31, evE.eq_32, evL, evA, evO, evT, Iq.hd, deref, R.bind_ok, R.bind_bad, truth, intOf, callG, hdS, argsS, argS, putOuts, setOwn, outs, isOwn, isTys, isTy, ty_beq, biD, cmpD, int_eq, bq, io1, io0, idxD, i0, i1, qa, qb, za, intB, contB, leI, cs4, z]
      | _ => simp [f16, pack, Iq.run, ioFit, evB, evS, evE.eq_1, evE.eq_2, evE.eq_3, evE.eq_4, evE.eq_5, evE.eq_6, evE.eq_7, evE.eq_8, evE.eq_9, evE.eq_10, evE.eq_11, evE.eq_12, evE.eq_13, evE.eq_14, evE.eq_15, evE.eq_16, evE.eq_17, evE.eq_18, evE.eq_19, evE.eq_20, evE.eq_21, evE.eq_22, evE.eq_24, evE.eq_25, evE.eq_26, evE.eq_27, evE.eq_28, evE.eq_29, evE.eq_30, evE.eq_31, evE.eq_32, evL, evA, evO, evT, Iq.hd, deref, R.bind_ok, R.bind_bad, truth, intOf, callG, hdS, argsS, argS, putOuts, setOwn, outs, isOwn, isTys, isTy, ty_beq, biD, cmpD, int_eq, bq, io1, io0, idxD, i0, i1, qa, qb, za, intB, contB, leI, cs4]
    | a :: b :: c :: r, h =>
      have z : ¬ (r.length : Int) + 1 + 1 + 1 = 2 := by omega
      have z0 : ¬ (r.length : Int) + 1 + 1 + 1 = 0 := by omega
      simp [f16, pack, Iq.run, ioFit, evB, evS, evE.eq_1, evE.eq_2, evE.eq_3, evE.eq_4, evE.eq_5, evE.eq_6, evE.eq_7, evE.eq_8, evE.eq_9, evE.eq_10, evE.eq_11, evE.eq_12, evE.eq_13, evE.eq_14, evE.eq_15, evE.eq_16, evE.eq_17, evE.eq_18, evE.eq_19, evE.eq_20, evE.eq_21, evE.eq_22, evE.eq_24, evE.eq_25, evE.eq_26, evE.eq_27, evE.eq_28, evE.eq_29, evE.eq_30, evE.eq_31, evE.eq_32, evL, evA, evO, evT, Iq.hd, deref, R.bind_ok, R.bind_bad, truth, intOf, callG, hdS, argsS, argS, putOuts, setOwn, outs, isOwn, isTys, isTy, ty_beq, biD, cmpD, int_eq, bq, contB, z, z0]
  | _ => simp [f16, pack, Iq.run, ioFit, evB, evS, evE.eq_1, evE.eq_2, evE.eq_3, evE.eq_4, evE.eq_5, evE.eq_6, evE.eq_7, evE.eq_8, evE.eq_9, evE.eq_10, evE.eq_11, evE.eq_12, evE.eq_13, evE.eq_14, evE.eq_15, evE.eq_16, evE.eq_17, evE.eq_18, evE.eq_19, evE.eq_20, evE.eq_21, evE.eq_22, evE.eq_24, evE.eq_25, evE.eq_26, evE.eq_27, evE.eq_28, evE.eq_29, evE.eq_30, evE.eq_31, evE.eq_32, evL, evA, evO, evT, Iq.hd, deref, R.bind_ok, R.bind_bad, truth, intOf, callG, hdS, argsS, argS, putOuts, setOwn, outs, isOwn, isTys, isTy, ty_beq, contB]
def stateB : D → Bool
  | .tup [a, .tup xs] => numB a && xs.all contB
  | _ => false
theorem c17 (n : Nat) {d : D} (h : G d) : (Pn (n + 4)).fn 17 [.shr d] = .ok (.bl (stateB d), false, []) := by
  rw [fn17]
  have t := c6k (n + 2) 2 2 rfl h
  cases d with
  | fn _ => exact h.fn.elim
  | dic _ => exact h.dic.elim
  | tup xs =>
    by_cases hl : xs.length = 2
    · match xs, hl with
      | [a, b], _ =>
        have qa := c1 (n + 1) (h.tup.1 a (by simp))
        have gb := h.tup.1 b (by simp)
        obtain ⟨i0, i1⟩ := ixs2 (a := a) (b := b)
        cases za : numB a <;> cases b with
        | fn _ => exact gb.fn.elim
        | dic _ => exact gb.dic.elim
        | tup ys =>
          have co := comp1a (P := Pn (n + 3)) (e := .call 16 [.var 1]) (i := 1) (src := .idx (.var 0) (.con (.int 1))) (ς := [.shr (.tup [a, .tup ys]), .no]) (d0 := .tup ys) (fr0 := false) (xs := ys) (g := fun x => .bl (contB x)) (by simp [Iq.run, ioFit, evB, evS, evE.eq_1, evE.eq_2, evE.eq_3, evE.eq_4, evE.eq_5, evE.eq_6, evE.eq_7, evE.eq_8, evE.eq_9, evE.eq_10, evE.eq_11, evE.eq_12, evE.eq_13, evE.eq_14, evE.eq_15, evE.eq_16, evE.eq_17, evE.eq_18, evE.eq_19, evE.eq_20, evE.eq_21, evE.eq_22, evE.eq_24, evE.eq_25, evE.eq_26, evE.eq_27, evE.eq_28, evE.eq_29, evE.eq_30, evE.eq_31, evE.eq_32, evL, evA, evO, evT, Iq.hd, deref, R.bind_ok, R.bind_bad, truth, intOf, callG, hdS, argsS, argS, putOuts, setOwn, outs, isOwn, idxD, i1]) rfl (by simp) rfl fun y hy => ⟨false, by
            have := c16 n (gb.tup.1 y hy)
            simp [Iq.run, ioFit, evB, evS, evE.eq_1, evE.eq_2, evE.eq_3, evE.eq_4, evE.eq_5, evE.eq_6, evE.eq_7, evE.eq_8, evE.eq_9, evE.eq_10, evE.eq_11, evE.eq_12, evE.eq_13, evE.eq_14, evE.eq_15, evE.eq_16, evE.eq_17, evE.eq_18, evE.eq_19, evE.eq_20, evE.eq_21, evE.eq_22, evE.eq_24, evE.eq_25, evE.eq_26, evE.eq_27, evE.eq_28, evE.eq_29, evE.eq_30, evE.eq_31, evE.eq_32, evL, evA, evO, evT, Iq.hd, deref, R.bind_ok, R.bind_bad, truth, intOf, callG, hdS, argsS, argS, putOuts, setOwn, outs, isOwn, io16, this]⟩
          simp [f17, pack, Iq.run, ioFit, evB, evS, evE.eq_1, evE.eq_2, evE.eq_3, evE.eq_4, evE.eq_5, evE.eq_6, evE.eq_7, evE.eq_8, evE.eq_9, evE.eq_10, evE.eq_11, evE.eq_12, evE.eq_13, evE.eq_14, evE.eq_15, evE.eq_16, evE.eq_17, evE.eq_18, evE.eq_19, evE.eq_20, evE.eq_21, evE.eq_22, evE.eq_24, evE.eq_25, evE.eq_26, evE.eq_27, evE.eq_28, evE.eq_29, evE.eq_30, evE.eq_31, evE.eq_32, evL, evA, evO, evT, Iq.hd, deref, R.bind_ok, R.bind_bad, truth, intOf, callG, hdS, argsS, argS, putOuts, setOwn, outs, isOwn, io6, io1, t, tupL, idxD, i0, i1, qa, za, isTys, isTy, ty_beq, stateB, co, biD, bls_map, List.all_map, Function.comp_def]
        | _ => simp [f17, pack, Iq.run, ioFit, evB, evS, evE.eq_1, evE.eq_2, evE.eq_3, evE.eq_4, evE.eq_5, evE.eq_6, evE.eq_7, evE.eq_8, evE.eq_9, evE.eq_10, evE.eq_11, evE.eq_12, evE.eq_13, evE.eq_14, evE.eq_15, evE.eq_16, evE.eq_17, evE.eq_18, evE.eq_19, evE.eq_20, evE.eq_21, evE.eq_22, evE.eq_24, evE.eq_25, evE.eq_26, evE.eq_27, evE.eq_28, evE.eq_29, evE.eq_30, evE.eq_31, evE.eq_32, evL, evA, evO, evT, Iq.hd, deref, R.bind_ok, R.bind_bad, truth, intOf, callG, hdS, argsS, argS, putOuts, setOwn, outs, isOwn, io6, io1, t, tupL, idxD, i0, i1, qa, za, isTys, isTy, ty_beq, stateB]
    · have f : stateB (.tup xs) = false := by
        unfold stateB
        split
        · rename_i e; injection e with e; subst e; simp at hl
        · rfl
      simp [f17, pack, Iq.run, ioFit, evB, evS, evE.eq_1, evE.eq_2, evE.eq_3, evE.eq_4, evE.eq_5, evE.eq_6, evE.eq_7, evE.eq_8, evE.eq_9, evE.eq_10, evE.eq_11, evE.eq_12, evE.eq_13, evE.eq_14, evE.eq_15, evE.eq_16, evE.eq_17, evE.eq_18, evE.eq_19, evE.eq_20, evE.eq_21, evE.eq_22, evE.eq_24, evE.eq_25, evE.eq_26, evE.eq_27, evE.eq_28, evE.eq_29, evE.eq_30, evE.eq_31, evE.eq_32, evL, evA, evO, evT, Iq.hd, deref, R.bind_ok, R.bind_bad, truth, intOf, callG, hdS, argsS, argS, putOuts, setOwn, outs, isOwn, io6, t, tupL, hl, f]
  | _ => simp [f17, pack, Iq.run, ioFit, evB, evS, evE.eq_1, evE.eq_2, evE.eq_3, evE.eq_4, evE.eq_5, evE.eq_6, evE.eq_7, evE.eq_8, evE.eq_9, evE.eq_10, evE.eq_11, evE.eq_12, evE.eq_13, evE.eq_14, evE.eq_15, evE.eq_16, evE.eq_17, evE.eq_18, evE.eq_19, evE.eq_20, evE.eq_21, evE.eq_22, evE.eq_24, evE.eq_25, evE.eq_26, evE.eq_27, evE.eq_28, evE.eq_29, evE.eq_30, evE.eq_31, evE.eq_32, evL, evA, evO, evT, Iq.hd, deref, R.bind_ok, R.bind_bad, truth, intOf, callG, hdS, argsS, argS, putOuts, setOwn, outs, isOwn, io6, t, tupL, stateB]
end Q
set_option Elab.async false
set_option linter.all false
set_option maxRecDepth 100000
set_option maxHeartbeats 4000000
namespace Q
open PySem L2 Iq
/-! ### the law's own reading -/
theorem eq_filter {xs : List D} {q : D → Bool} (h : ∀ x ∈ xs, G x) (hl : xs.length ≤ 1000) : eqD (.lst (xs.filter fun x => !q x)) (.lst []) = .ok (xs.all q) := by
  have g : okB 1000 61 (.lst (xs.filter fun x => !q x)) = true := by
    simp only [okB, Bool.and_eq_true, decide_eq_true_eq, List.all_eq_true]
    exact ⟨Nat.le_trans (List.length_filter_le _ _) hl, fun x hx => h x ((List.mem_filter.mp hx).1)⟩
  rw [eq_nilL g (by decide)]
  congr 1
  cases a : xs.all q with
  | true =>
    have : xs.filter (fun x => !q x) = [] := List.filter_eq_nil_iff.mpr fun x hx => by simp [List.all_eq_true.mp a x hx]
    rw [this]; rfl
  | false =>
    obtain ⟨x, hx, hq⟩ := List.all_eq_false.mp a
    have m : x ∈ xs.filter fun x => !q x := List.mem_filter.mpr ⟨hx, by simp [hq]⟩
    cases z : xs.filter fun x => !q x with
    | nil => rw [z] at m; cases m
    | cons _ _ => rfl
theorem str1 {s : Str} (h : PyData.strOk s = true) {c : Nat} (hc : c ∈ s.cps.toList) : PyData.strOk ⟨#[c]⟩ = true := by
  simp only [PyData.strOk] at h ⊢
  have := Array.all_eq_true_iff_forall_mem.mp h c (by simpa using hc)
  simpa using this
theorem chars_g {s : Str} (h : PyData.strOk s = true) : ∀ x ∈ chars s, G x := fun x hx => by
  obtain ⟨c, hc, rfl⟩ := mem_chars hx
  simp only [G, okB, okS, str1 h hc, Bool.and_true, decide_eq_true_eq]
  show 1 ≤ 1000
  omega
theorem c23 (n : Nat) {d : D} (h : G d) : (Pn (n + 1)).fn 23 [.shr d] = .ok (.bl (intB d), false, []) := by
  rw [fn23]
  cases d <;> first | exact h.dic.elim | exact h.fn.elim | simp [f23, pack, Iq.run, ioFit, evB, evS, evE.eq_1, evE.eq_2, evE.eq_3, evE.eq_4, evE.eq_5, evE.eq_6, evE.eq_7, evE.eq_8, evE.eq_9, evE.eq_10, evE.eq_11, evE.eq_12, evE.eq_13, evE.eq_14, evE.eq_15, evE.eq_16, evE.eq_17, evE.eq_18, evE.eq_19, evE.eq_20, evE.eq_21, evE.eq_22, evE.eq_24, evE.eq_25, evE.eq_26, evE.eq_27, evE.eq_28, evE.eq_29, evE.eq_30, evE.eq_31, evE.eq_32, evL, evA, evO, evT, Iq.hd, deref, R.bind_ok, R.bind_bad, truth, intOf, callG, hdS, argsS, argS, putOuts, setOwn, outs, isOwn, isTys, isTy, ty_beq, intB]
theorem c24 (n : Nat) {d : D} (h : G d) : (Pn (n + 2)).fn 24 [.shr d] = .ok (.bl (numB d), false, []) := by
  rw [fn24]
  have e := c23 n h
  cases d <;> simp only [intB] at e <;> first | exact h.dic.elim | exact h.fn.elim | simp [f24, pack, Iq.run, ioFit, evB, evS, evE.eq_1, evE.eq_2, evE.eq_3, evE.eq_4, evE.eq_5, evE.eq_6, evE.eq_7, evE.eq_8, evE.eq_9, evE.eq_10, evE.eq_11, evE.eq_12, evE.eq_13, evE.eq_14, evE.eq_15, evE.eq_16, evE.eq_17, evE.eq_18, evE.eq_19, evE.eq_20, evE.eq_21, evE.eq_22, evE.eq_24, evE.eq_25, evE.eq_26, evE.eq_27, evE.eq_28, evE.eq_29, evE.eq_30, evE.eq_31, evE.eq_32, evL, evA, evO, evT, Iq.hd, deref, R.bind_ok, R.bind_bad, truth, intOf, callG, hdS, argsS, argS, putOuts, setOwn, outs, isOwn, io23, e, numB, cmpD]
theorem c25 (n : Nat) {d : D} (h : G d) : (Pn (n + 1)).fn 25 [.shr d] = .ok (.bl (nameB d), false, []) := by
  rw [fn25]
  cases d with
  | fn _ => exact h.fn.elim
  | dic _ => exact h.dic.elim
  | str s =>
    have hz : s.length ≤ sizeLine := Nat.le_trans h.str.1 big
    by_cases g1 : (1 : Int) ≤ s.length
    · by_cases g2 : (s.length : Int) ≤ 8
      · have e' := comp1 (P := Pn n) (i := 1) (ς := [.shr (.str s), .no]) (src := .var 0) (e := .var 1) (c := some (.at (.cmp .NotIn (.var 1) (.con (.str letters))))) (xs := chars s) (p := fun c => !signB c) (g := fun c => c) (d0 := .str s) (fr0 := false) (by simp [Iq.run, ioFit, evB, evS, evE.eq_1, evE.eq_2, evE.eq_3, evE.eq_4, evE.eq_5, evE.eq_6, evE.eq_7, evE.eq_8, evE.eq_9, evE.eq_10, evE.eq_11, evE.eq_12, evE.eq_13, evE.eq_14, evE.eq_15, evE.eq_16, evE.eq_17, evE.eq_18, evE.eq_19, evE.eq_20, evE.eq_21, evE.eq_22, evE.eq_24, evE.eq_25, evE.eq_26, evE.eq_27, evE.eq_28, evE.eq_29, evE.eq_30, evE.eq_31, evE.eq_32, evL, evA, evO, evT, Iq.hd, deref, R.bind_ok, R.bind_bad, truth, intOf, callG, hdS, argsS, argS, putOuts, setOwn, outs, isOwn]) (by simp only [walk, hz, if_true]) (by simp) rfl
          (fun x hx => by
            obtain ⟨c, _, rfl⟩ := mem_chars hx
            simp [evQ, Iq.run, ioFit, evB, evS, evE.eq_1, evE.eq_2, evE.eq_3, evE.eq_4, evE.eq_5, evE.eq_6, evE.eq_7, evE.eq_8, evE.eq_9, evE.eq_10, evE.eq_11, evE.eq_12, evE.eq_13, evE.eq_14, evE.eq_15, evE.eq_16, evE.eq_17, evE.eq_18, evE.eq_19, evE.eq_20, evE.eq_21, evE.eq_22, evE.eq_24, evE.eq_25, evE.eq_26, evE.eq_27, evE.eq_28, evE.eq_29, evE.eq_30, evE.eq_31, evE.eq_32, evL, evA, evO, evT, Iq.hd, deref, R.bind_ok, R.bind_bad, truth, intOf, callG, hdS, argsS, argS, putOuts, setOwn, outs, isOwn, cmpD, inD, notR, signB])
          fun x hx _ => ⟨false, by simp [Iq.run, ioFit, evB, evS, evE.eq_1, evE.eq_2, evE.eq_3, evE.eq_4, evE.eq_5, evE.eq_6, evE.eq_7, evE.eq_8, evE.eq_9, evE.eq_10, evE.eq_11, evE.eq_12, evE.eq_13, evE.eq_14, evE.eq_15, evE.eq_16, evE.eq_17, evE.eq_18, evE.eq_19, evE.eq_20, evE.eq_21, evE.eq_22, evE.eq_24, evE.eq_25, evE.eq_26, evE.eq_27, evE.eq_28, evE.eq_29, evE.eq_30, evE.eq_31, evE.eq_32, evL, evA, evO, evT, Iq.hd, deref, R.bind_ok, R.bind_bad, truth, intOf, callG, hdS, argsS, argS, putOuts, setOwn, outs, isOwn]⟩
        have ef := eq_filter (q := signB) (chars_g h.str.2) (by simp only [chars, List.length_map]; have : s.cps.toList.length = s.length := (by simp [Str.length]); omega)
        simp only [List.map_id'] at e'
        simp only [letters] at e'
        simp [f25, pack, Iq.run, ioFit, evB, evS, evE.eq_1, evE.eq_2, evE.eq_3, evE.eq_4, evE.eq_5, evE.eq_6, evE.eq_7, evE.eq_8, evE.eq_9, evE.eq_10, evE.eq_11, evE.eq_12, evE.eq_13, evE.eq_14, evE.eq_15, evE.eq_16, evE.eq_17, evE.eq_18, evE.eq_19, evE.eq_20, evE.eq_21, evE.eq_22, evE.eq_24, evE.eq_25, evE.eq_26, evE.eq_27, evE.eq_28, evE.eq_29, evE.eq_30, evE.eq_31, evE.eq_32, evL, evA, evO, evT, Iq.hd, deref, R.bind_ok, R.bind_bad, truth, intOf, callG, hdS, argsS, argS, putOuts, setOwn, outs, isOwn, isTys, isTy, ty_beq, biD, hz, cmpD, leI, g1, g2, e', ef, nameB]
      · simp [f25, pack, Iq.run, ioFit, evB, evS, evE.eq_1, evE.eq_2, evE.eq_3, evE.eq_4, evE.eq_5, evE.eq_6, evE.eq_7, evE.eq_8, evE.eq_9, evE.eq_10, evE.eq_11, evE.eq_12, evE.eq_13, evE.eq_14, evE.eq_15, evE.eq_16, evE.eq_17, evE.eq_18, evE.eq_19, evE.eq_20, evE.eq_21, evE.eq_22, evE.eq_24, evE.eq_25, evE.eq_26, evE.eq_27, evE.eq_28, evE.eq_29, evE.eq_30, evE.eq_31, evE.eq_32, evL, evA, evO, evT, Iq.hd, deref, R.bind_ok, R.bind_bad, truth, intOf, callG, hdS, argsS, argS, putOuts, setOwn, outs, isOwn, isTys, isTy, ty_beq, biD, hz, cmpD, leI, g1, g2, nameB]
    · simp [f25, pack, Iq.run, ioFit, evB, evS, evE.eq_1, evE.eq_2, evE.eq_3, evE.eq_4, evE.eq_5, evE.eq_6, evE.eq_7, evE.eq_8, evE.eq_9, evE.eq_10, evE.eq_11, evE.eq_12, evE.eq_13, evE.eq_14, evE.eq_15, evE.eq_16, evE.eq_17, evE.eq_18, evE.eq_19, evE.eq_20, evE.eq_21, evE.eq_22, evE.eq_24, evE.eq_25, evE.eq_26, evE.eq_27, evE.eq_28, evE.eq_29, evE.eq_30, evE.eq_31, evE.eq_32, evL, evA, evO, evT, Iq.hd, deref, R.bind_ok, R.bind_bad, truth, intOf, callG, hdS, argsS, argS, putOuts, setOwn, outs, isOwn, isTys, isTy, ty_beq, biD, hz, cmpD, leI, g1, nameB]
  | _ => simp [f25, pack, Iq.run, ioFit, evB, evS, evE.eq_1, evE.eq_2, evE.eq_3, evE.eq_4, evE.eq_5, evE.eq_6, evE.eq_7, evE.eq_8, evE.eq_9, evE.eq_10, evE.eq_11, evE.eq_12, evE.eq_13, evE.eq_14, evE.eq_15, evE.eq_16, evE.eq_17, evE.eq_18, evE.eq_19, evE.eq_20, evE.eq_21, evE.eq_22, evE.eq_24, evE.eq_25, evE.eq_26, evE.eq_27, evE.eq_28, evE.eq_29, evE.eq_30, evE.eq_31, evE.eq_32, evL, evA, evO, evT, Iq.hd, deref, R.bind_ok, R.bind_bad, truth, intOf, callG, hdS, argsS, argS, putOuts, setOwn, outs, isOwn, isTys, isTy, ty_beq, nameB]
/-! ### sorted rows -/
theorem strL_map : ∀ ts : List Str, strL (ts.map .str) = some ts
  | [] => rfl
  | t :: ts => by simp only [List.map_cons, strL, strL_map ts, Option.map_some]
theorem intL_map : ∀ ts : List Int, intL (ts.map .int) = some ts
  | [] => rfl
  | t :: ts => by simp only [List.map_cons, intL, intL_map ts, Option.map_some]
theorem srs_strs {ts : List Str} {d : D} (hd : d = .tup (ts.map .str) ∨ d = .lst (ts.map .str)) (h : ts.length < 4000) : srsD d = .ok (.lst ((Ss.srtS ts).map .str)) := by
  have sq : seqOf d = some (ts.map .str) := by rcases hd with rfl | rfl <;> rfl
  unfold srsD
  rw [sq]
  simp only [List.length_map, h, if_true, strL_map]
  cases ts with
  | nil => rfl
  | cons t ts => simp only [List.map_cons, intL]
theorem srs_ints {ts : List Int} {d : D} (hd : d = .tup (ts.map .int) ∨ d = .lst (ts.map .int)) (h : ts.length < 4000) : srsD d = .ok (.lst ((Ss.srtI ts).map .int)) := by
  have sq : seqOf d = some (ts.map .int) := by rcases hd with rfl | rfl <;> rfl
  unfold srsD
  rw [sq]
  simp only [List.length_map, h, if_true, intL_map]
theorem ris_map {α : Type} {f : α → D} {lt : α → α → Bool} (h : ∀ a b, ltB (f a) (f b) = lt a b) (xs : List α) : risD (xs.map f) = risB lt xs := by
  simp only [risD, risB, ← List.map_drop, List.zip_map, List.all_map, Function.comp_def, Prod.map, h]
theorem all_strs : ∀ {xs : List D}, (∀ x ∈ xs, strB x = true) → ∃ ts : List Str, xs = ts.map .str
  | [], _ => ⟨[], rfl⟩
  | x :: xs, h => by
    obtain ⟨ts, rfl⟩ := all_strs fun y hy => h y (List.mem_cons_of_mem _ hy)
    have := h x List.mem_cons_self
    cases x <;> simp only [strB] at this <;> try (cases this; done)
    exact ⟨_ :: ts, rfl⟩
theorem all_ints : ∀ {xs : List D}, (∀ x ∈ xs, intB x = true) → ∃ ts : List Int, xs = ts.map .int
  | [], _ => ⟨[], rfl⟩
  | x :: xs, h => by
    obtain ⟨ts, rfl⟩ := all_ints fun y hy => h y (List.mem_cons_of_mem _ hy)
    have := h x List.mem_cons_self
    cases x <;> simp only [intB] at this <;> try (cases this; done)
    exact ⟨_ :: ts, rfl⟩
/-- a row of names or of numbers is as its sorted set is exactly if it rises -/
theorem same_srt {xs : List D} {d : D} (hd : d = .tup xs ∨ d = .lst xs) (hl : xs.length ≤ 1000) (h : (∀ x ∈ xs, intB x = true) ∨ (∀ x ∈ xs, strB x = true) ∧ ∀ x ∈ xs, G x) :
    ∃ ys, srsD d = .ok (.lst ys) ∧ eqD (.lst xs) (.lst ys) = .ok (risD xs) := by
  rcases h with h | ⟨h, hg⟩
  · obtain ⟨ts, rfl⟩ := all_ints h
    rw [List.length_map] at hl
    refine ⟨_, srs_ints hd (by omega), ?_⟩
    rw [eq_ints, ris_map (lt := Ss.ltI) (fun _ _ => rfl), ← ris_srt Ss.ordI]
    rfl
  · obtain ⟨ts, rfl⟩ := all_strs h
    rw [List.length_map] at hl
    have ok : ∀ t ∈ ts, PyData.strOk t = true := fun t ht => (hg _ (List.mem_map.mpr ⟨t, ht, rfl⟩)).str.2
    refine ⟨_, srs_strs hd (by omega), ?_⟩
    rw [eq_strs ts (Ss.srtS ts) ok (fun t ht => ok t (Ss.mem_srt.mp ht)), ris_map (lt := Ss.ltS) (fun _ _ => rfl), ← ris_srt Ss.ordS]
    rfl
theorem c26 (n : Nat) {d : D} (h : G d) : (Pn (n + 2)).fn 26 [.shr d] = .ok (.bl (namesB d), false, []) := by
  rw [fn26]
  cases d with
  | fn _ => exact h.fn.elim
  | dic _ => exact h.dic.elim
  | tup xs =>
    have co := comp1 (P := Pn (n + 1)) (e := .var 1) (i := 1) (src := .var 0) (c := some (.nt (.at (.call 25 [.var 1])))) (ς := [.shr (.tup xs), .no]) (d0 := .tup xs) (fr0 := false) (xs := xs) (p := fun x => !nameB x) (g := fun x => x) (by simp [Iq.run, ioFit, evB, evS, evE.eq_1, evE.eq_2, evE.eq_3, evE.eq_4, evE.eq_5, evE.eq_6, evE.eq_7, evE.eq_8, evE.eq_9, evE.eq_10, evE.eq_11, evE.eq_12, evE.eq_13, evE.eq_14, evE.eq_15, evE.eq_16, evE.eq_17, evE.eq_18, evE.eq_19, evE.eq_20, evE.eq_21, evE.eq_22, evE.eq_24, evE.eq_25, evE.eq_26, evE.eq_27, evE.eq_28, evE.eq_29, evE.eq_30, evE.eq_31, evE.eq_32, evL, evA, evO, evT, Iq.hd, deref, R.bind_ok, R.bind_bad, truth, intOf, callG, hdS, argsS, argS, putOuts, setOwn, outs, isOwn]) rfl (by simp) rfl
      (fun x hx => by
        have := c25 n (h.tup.1 x hx)
        simp [evQ, Iq.run, ioFit, evB, evS, evE.eq_1, evE.eq_2, evE.eq_3, evE.eq_4, evE.eq_5, evE.eq_6, evE.eq_7, evE.eq_8, evE.eq_9, evE.eq_10, evE.eq_11, evE.eq_12, evE.eq_13, evE.eq_14, evE.eq_15, evE.eq_16, evE.eq_17, evE.eq_18, evE.eq_19, evE.eq_20, evE.eq_21, evE.eq_22, evE.eq_24, evE.eq_25, evE.eq_26, evE.eq_27, evE.eq_28, evE.eq_29, evE.eq_30, evE.eq_31, evE.eq_32, evL, evA, evO, evT, Iq.hd, deref, R.bind_ok, R.bind_bad, truth, intOf, callG, hdS, argsS, argS, putOuts, setOwn, outs, isOwn, io25, this]) fun x hx _ => ⟨false, by simp [Iq.run, ioFit, evB, evS, evE.eq_1, evE.eq_2, evE.eq_3, evE.eq_4, evE.eq_5, evE.eq_6, evE.eq_7, evE.eq_8, evE.eq_9, evE.eq_10, evE.eq_11, evE.eq_12, evE.eq_13, evE.eq_14, evE.eq_15, evE.eq_16, evE.eq_17, evE.eq_18, evE.eq_19, evE.eq_20, evE.eq_21, evE.eq_22, evE.eq_24, evE.eq_25, evE.eq_26, evE.eq_27, evE.eq_28, evE.eq_29, evE.eq_30, evE.eq_31, evE.eq_32, evL, evA, evO, evT, Iq.hd, deref, R.bind_ok, R.bind_bad, truth, intOf, callG, hdS, argsS, argS, putOuts, setOwn, outs, isOwn]⟩
    simp only [List.map_id'] at co
    have ef := eq_filter (q := nameB) h.tup.1 h.tup.2
    cases a : xs.all nameB with
    | false =>
      rw [a] at ef
      simp [f26, pack, Iq.run, ioFit, evB, evS, evE.eq_1, evE.eq_2, evE.eq_3, evE.eq_4, evE.eq_5, evE.eq_6, evE.eq_7, evE.eq_8, evE.eq_9, evE.eq_10, evE.eq_11, evE.eq_12, evE.eq_13, evE.eq_14, evE.eq_15, evE.eq_16, evE.eq_17, evE.eq_18, evE.eq_19, evE.eq_20, evE.eq_21, evE.eq_22, evE.eq_24, evE.eq_25, evE.eq_26, evE.eq_27, evE.eq_28, evE.eq_29, evE.eq_30, evE.eq_31, evE.eq_32, evL, evA, evO, evT, Iq.hd, deref, R.bind_ok, R.bind_bad, truth, intOf, callG, hdS, argsS, argS, putOuts, setOwn, outs, isOwn, isTys, isTy, ty_beq, cmpD, notR, co, ef, namesB, a]
    | true =>
      rw [a] at ef
      obtain ⟨ys, e1, e2⟩ := same_srt (d := .tup xs) (.inl rfl) h.tup.2 (.inr ⟨fun x hx => name_str (List.all_eq_true.mp a x hx), h.tup.1⟩)
      simp [f26, pack, Iq.run, ioFit, evB, evS, evE.eq_1, evE.eq_2, evE.eq_3, evE.eq_4, evE.eq_5, evE.eq_6, evE.eq_7, evE.eq_8, evE.eq_9, evE.eq_10, evE.eq_11, evE.eq_12, evE.eq_13, evE.eq_14, evE.eq_15, evE.eq_16, evE.eq_17, evE.eq_18, evE.eq_19, evE.eq_20, evE.eq_21, evE.eq_22, evE.eq_24, evE.eq_25, evE.eq_26, evE.eq_27, evE.eq_28, evE.eq_29, evE.eq_30, evE.eq_31, evE.eq_32, evL, evA, evO, evT, Iq.hd, deref, R.bind_ok, R.bind_bad, truth, intOf, callG, hdS, argsS, argS, putOuts, setOwn, outs, isOwn, isTys, isTy, ty_beq, cmpD, notR, co, ef, namesB, a, biD, e1, e2]
  | _ => simp [f26, pack, Iq.run, ioFit, evB, evS, evE.eq_1, evE.eq_2, evE.eq_3, evE.eq_4, evE.eq_5, evE.eq_6, evE.eq_7, evE.eq_8, evE.eq_9, evE.eq_10, evE.eq_11, evE.eq_12, evE.eq_13, evE.eq_14, evE.eq_15, evE.eq_16, evE.eq_17, evE.eq_18, evE.eq_19, evE.eq_20, evE.eq_21, evE.eq_22, evE.eq_24, evE.eq_25, evE.eq_26, evE.eq_27, evE.eq_28, evE.eq_29, evE.eq_30, evE.eq_31, evE.eq_32, evL, evA, evO, evT, Iq.hd, deref, R.bind_ok, R.bind_bad, truth, intOf, callG, hdS, argsS, argS, putOuts, setOwn, outs, isOwn, isTys, isTy, ty_beq, namesB]
end Q
set_option Elab.async false
set_option linter.all false
set_option maxRecDepth 100000
set_option maxHeartbeats 4000000
namespace Q
open PySem L2 Iq
/-- [x for x in xs if not q(x)] and whether it is empty -/
theorem none_of {P : Pr} {c : Tx} {i : Nat} {src : Ex} {ς : List Sl} {d0 : D} {fr0 : Bool} {xs : List D} (q : D → Bool) (es : evE P src ς = .ok (d0, fr0, ς)) (w : walk .seq [d0] = .ok xs) (hi : i < ς.length) (ho : isOwn ς i = false) (hg : ∀ x ∈ xs, G x) (hl : xs.length ≤ 1000)
    (hc : ∀ x ∈ xs, evT P c (ς.set i (.shr x)) = .ok (!q x, ς.set i (.shr x))) : ∃ fl, evE P (.comp (.var i) (.nm i) .seq [src] (some c)) ς = .ok (.lst fl, true, ς) ∧ eqD (.lst fl) (.lst []) = .ok (xs.all q) := by
  have co := comp1 (P := P) (e := .var i) (c := some c) (p := fun x => !q x) (g := fun x => x) es w hi ho (fun x hx => by simp only [evQ]; exact hc x hx) fun x hx _ => ⟨false, by
    simp only [evE.eq_1, List.getElem?_set_self hi]⟩
  rw [List.map_id'] at co
  exact ⟨_, co, eq_filter hg hl⟩
theorem for_all {body : List Sl → R (Fl × List Sl)} {i : Nat} {ς : List Sl} {q : D → Bool} : ∀ (xs : List D) (u : Sl),
    (∀ x ∈ xs, body (ς.set i (.shr x)) = .ok (bif q x then .nx else .rt (.bl false) false, ς.set i (.shr x))) →
    ∃ v, (v = u ∨ ∃ d, v = .shr d) ∧ forGo (.nm i) body xs (ς.set i u) = .ok (bif xs.all q then .nx else .rt (.bl false) false, ς.set i v)
  | [], u, _ => ⟨u, .inl rfl, rfl⟩
  | x :: xs, u, h => by
    have e := h x List.mem_cons_self
    obtain ⟨v, hv, ev⟩ := for_all xs (.shr x) fun y hy => h y (List.mem_cons_of_mem _ hy)
    cases a : q x with
    | true =>
      rw [a] at e
      exact ⟨v, .inr (hv.elim (fun e => ⟨_, e⟩) id), by simp only [forGo, bindT, set_set_no, R.bind_ok, e, cond_true, ev, List.all_cons, a, Bool.true_and]⟩
    | false =>
      rw [a] at e
      exact ⟨.shr x, .inr ⟨_, rfl⟩, by simp only [forGo, bindT, set_set_no, R.bind_ok, e, cond_false, List.all_cons, a, Bool.false_and]⟩
abbrev B27 (i : Nat) : Sm := f27.body.getD i .nev
def B27b : List Sm := match B27 1 with
  | .loop _ _ _ p => p
  | _ => []
theorem body27 (n : Nat) {x y : D} (h : G x) : evB (Pn (n + 2)) B27b [.shr y, .shr x, .no, .no] = .ok (bif rowB x then .nx else .rt (.bl false) false, [.shr y, .shr x, .no, .no]) := by
  cases x with
  | fn _ => exact h.fn.elim
  | dic _ => exact h.dic.elim
  | tup xs =>
    by_cases hl : xs.length = 4
    · match xs, hl with
      | [a, b, c, e], _ =>
        have i0 : atI [a, b, c, e] 0 = some a := rfl
        have qa := c25 (n + 1) (h.tup.1 a (by simp))
        cases za : nameB a with
        | false => simp [B27b, B27, f27, Iq.run, ioFit, evB, evS, evE.eq_1, evE.eq_2, evE.eq_3, evE.eq_4, evE.eq_5, evE.eq_6, evE.eq_7, evE.eq_8, evE.eq_9, evE.eq_10, evE.eq_11, evE.eq_12, evE.eq_13, evE.eq_14, evE.eq_15, evE.eq_16, evE.eq_17, evE.eq_18, evE.eq_19, evE.eq_20, evE.eq_21, evE.eq_22, evE.eq_24, evE.eq_25, evE.eq_26, evE.eq_27, evE.eq_28, evE.eq_29, evE.eq_30, evE.eq_31, evE.eq_32, evL, evA, evO, evT, Iq.hd, deref, R.bind_ok, R.bind_bad, truth, intOf, callG, hdS, argsS, argS, putOuts, setOwn, outs, isOwn, isTys, isTy, ty_beq, biD, cmpD, notR, int_eq, bq, idxD, i0, io25, qa, za, rowB]
        | true =>
          have cut : cutL [a, b, c, e] (some 1) none = [b, c, e] := by rw [cut1]; rfl
          have gs : ∀ x ∈ [b, c, e], G x := fun x hx => h.tup.1 x (List.mem_cons_of_mem _ hx)
          obtain ⟨fl, co, ef⟩ := none_of (P := Pn (n + 2)) (i := 3) (src := .sli (.var 1) (some (.con (.int 1))) none) (c := .nt (.at (.call 24 [.var 3]))) (ς := [.shr y, .shr (.tup [a, b, c, e]), .no, .no]) (d0 := .tup [b, c, e]) (fr0 := false) (xs := [b, c, e]) numB (by simp [Iq.run, ioFit, evB, evS, evE.eq_1, evE.eq_2, evE.eq_3, evE.eq_4, evE.eq_5, evE.eq_6, evE.eq_7, evE.eq_8, evE.eq_9, evE.eq_10, evE.eq_11, evE.eq_12, evE.eq_13, evE.eq_14, evE.eq_15, evE.eq_16, evE.eq_17, evE.eq_18, evE.eq_19, evE.eq_20, evE.eq_21, evE.eq_22, evE.eq_24, evE.eq_25, evE.eq_26, evE.eq_27, evE.eq_28, evE.eq_29, evE.eq_30, evE.eq_31, evE.eq_32, evL, evA, evO, evT, Iq.hd, deref, R.bind_ok, R.bind_bad, truth, intOf, callG, hdS, argsS, argS, putOuts, setOwn, outs, isOwn, sliD, cut]) rfl (by simp) rfl gs (by simp)
            (fun x hx => by
              have := c24 n (gs x hx)
              simp [Iq.run, ioFit, evB, evS, evE.eq_1, evE.eq_2, evE.eq_3, evE.eq_4, evE.eq_5, evE.eq_6, evE.eq_7, evE.eq_8, evE.eq_9, evE.eq_10, evE.eq_11, evE.eq_12, evE.eq_13, evE.eq_14, evE.eq_15, evE.eq_16, evE.eq_17, evE.eq_18, evE.eq_19, evE.eq_20, evE.eq_21, evE.eq_22, evE.eq_24, evE.eq_25, evE.eq_26, evE.eq_27, evE.eq_28, evE.eq_29, evE.eq_30, evE.eq_31, evE.eq_32, evL, evA, evO, evT, Iq.hd, deref, R.bind_ok, R.bind_bad, truth, intOf, callG, hdS, argsS, argS, putOuts, setOwn, outs, isOwn, io24, this])
          have r : rowB (.tup [a, b, c, e]) = [b, c, e].all numB := by simp [rowB, za]
          rw [r]
          cases zn : [b, c, e].all numB <;> rw [zn] at ef <;> simp [B27b, B27, f27, Iq.run, ioFit, evB, evS, evE.eq_1, evE.eq_2, evE.eq_3, evE.eq_4, evE.eq_5, evE.eq_6, evE.eq_7, evE.eq_8, evE.eq_9, evE.eq_10, evE.eq_11, evE.eq_12, evE.eq_13, evE.eq_14, evE.eq_15, evE.eq_16, evE.eq_17, evE.eq_18, evE.eq_19, evE.eq_20, evE.eq_21, evE.eq_22, evE.eq_24, evE.eq_25, evE.eq_26, evE.eq_27, evE.eq_28, evE.eq_29, evE.eq_30, evE.eq_31, evE.eq_32, evL, evA, evO, evT, Iq.hd, deref, R.bind_ok, R.bind_bad, truth, intOf, callG, hdS, argsS, argS, putOuts, setOwn, outs, isOwn, isTys, isTy, ty_beq, biD, cmpD, notR, int_eq, bq, idxD, i0, io25, qa, za, co, ef]
    · have z : ¬ (xs.length : Int) = 4 := by omega
      simp [B27b, B27, f27, Iq.run, ioFit, evB, evS, evE.eq_1, evE.eq_2, evE.eq_3, evE.eq_4, evE.eq_5, evE.eq_6, evE.eq_7, evE.eq_8, evE.eq_9, evE.eq_10, evE.eq_11, evE.eq_12, evE.eq_13, evE.eq_14, evE.eq_15, evE.eq_16, evE.eq_17, evE.eq_18, evE.eq_19, evE.eq_20, evE.eq_21, evE.eq_22, evE.eq_24, evE.eq_25, evE.eq_26, evE.eq_27, evE.eq_28, evE.eq_29, evE.eq_30, evE.eq_31, evE.eq_32, evL, evA, evO, evT, Iq.hd, deref, R.bind_ok, R.bind_bad, truth, intOf, callG, hdS, argsS, argS, putOuts, setOwn, outs, isOwn, isTys, isTy, ty_beq, biD, cmpD, notR, int_eq, bq, z, rowB, hl]
  | _ => simp [B27b, B27, f27, Iq.run, ioFit, evB, evS, evE.eq_1, evE.eq_2, evE.eq_3, evE.eq_4, evE.eq_5, evE.eq_6, evE.eq_7, evE.eq_8, evE.eq_9, evE.eq_10, evE.eq_11, evE.eq_12, evE.eq_13, evE.eq_14, evE.eq_15, evE.eq_16, evE.eq_17, evE.eq_18, evE.eq_19, evE.eq_20, evE.eq_21, evE.eq_22, evE.eq_24, evE.eq_25, evE.eq_26, evE.eq_27, evE.eq_28, evE.eq_29, evE.eq_30, evE.eq_31, evE.eq_32, evL, evA, evO, evT, Iq.hd, deref, R.bind_ok, R.bind_bad, truth, intOf, callG, hdS, argsS, argS, putOuts, setOwn, outs, isOwn, isTys, isTy, ty_beq, rowB]
theorem hd_g {y : D} (h : G y) (r : rowB y = true) : G (hd0 y) := by
  cases y with
  | tup xs =>
    simp only [rowB, Bool.and_eq_true, decide_eq_true_eq] at r
    match xs, r, h with
    | a :: _, _, h => exact h.tup.1 a (by simp)
    | [], r, _ => simp at r
  | _ => simp only [rowB] at r; cases r
theorem c27 (n : Nat) {d : D} (h : G d) : (Pn (n + 3)).fn 27 [.shr d] = .ok (.bl (rowsB d), false, []) := by
  rw [fn27]
  show Iq.run (Pn (n + 2)) f27 [.shr d] = _
  cases d with
  | fn _ => exact h.fn.elim
  | dic _ => exact h.dic.elim
  | tup xs =>
    obtain ⟨v, hv, ev⟩ := for_all (body := evB (Pn (n + 2)) B27b) (i := 1) (ς := [.shr (.tup xs), .no, .no, .no]) (q := rowB) xs .no fun x hx => body27 n (h.tup.1 x hx)
    have s0 : evS (Pn (n + 2)) (B27 0) [.shr (.tup xs), .no, .no, .no] = .ok (.nx, [.shr (.tup xs), .no, .no, .no]) := by
      simp [B27, f27, Iq.run, ioFit, evB, evS, evE.eq_1, evE.eq_2, evE.eq_3, evE.eq_4, evE.eq_5, evE.eq_6, evE.eq_7, evE.eq_8, evE.eq_9, evE.eq_10, evE.eq_11, evE.eq_12, evE.eq_13, evE.eq_14, evE.eq_15, evE.eq_16, evE.eq_17, evE.eq_18, evE.eq_19, evE.eq_20, evE.eq_21, evE.eq_22, evE.eq_24, evE.eq_25, evE.eq_26, evE.eq_27, evE.eq_28, evE.eq_29, evE.eq_30, evE.eq_31, evE.eq_32, evL, evA, evO, evT, Iq.hd, deref, R.bind_ok, R.bind_bad, truth, intOf, callG, hdS, argsS, argS, putOuts, setOwn, outs, isOwn, isTys, isTy, ty_beq]
    have s1 : evS (Pn (n + 2)) (B27 1) [.shr (.tup xs), .no, .no, .no] = .ok (bif xs.all rowB then .nx else .rt (.bl false) false, [.shr (.tup xs), v, .no, .no]) := by
      show evS (Pn (n + 2)) (.loop (.nm 1) .seq [(.var 0)] B27b) _ = _
      have e : evL (Pn (n + 2)) [.var 0] [.shr (.tup xs), .no, .no, .no] = .ok ([.tup xs], [.shr (.tup xs), .no, .no, .no]) := by simp [Iq.run, ioFit, evB, evS, evE.eq_1, evE.eq_2, evE.eq_3, evE.eq_4, evE.eq_5, evE.eq_6, evE.eq_7, evE.eq_8, evE.eq_9, evE.eq_10, evE.eq_11, evE.eq_12, evE.eq_13, evE.eq_14, evE.eq_15, evE.eq_16, evE.eq_17, evE.eq_18, evE.eq_19, evE.eq_20, evE.eq_21, evE.eq_22, evE.eq_24, evE.eq_25, evE.eq_26, evE.eq_27, evE.eq_28, evE.eq_29, evE.eq_30, evE.eq_31, evE.eq_32, evL, evA, evO, evT, Iq.hd, deref, R.bind_ok, R.bind_bad, truth, intOf, callG, hdS, argsS, argS, putOuts, setOwn, outs, isOwn]
      simp only [evS, e, R.bind_ok, walk]
      exact ev
    cases a : xs.all rowB with
    | false =>
      rw [a] at s1
      have r : rowsB (.tup xs) = false := by simp only [rowsB, a, Bool.false_and]
      rw [r]
      exact run_rt ⟨rfl, by decide, by decide, rfl⟩ rfl (ev_nx (s := B27 0) s0 (ev_rt (s := B27 1) s1))
    | true =>
      rw [a] at s1
      have ha := List.all_eq_true.mp a
      have ov : isOwn [.shr (.tup xs), v, .no, .no] 1 = false := by
        rcases hv with rfl | ⟨d, rfl⟩ <;> rfl
      have co := comp1a (P := Pn (n + 2)) (e := .idx (.var 1) (.con (.int 0))) (i := 1) (src := .var 0) (ς := [.shr (.tup xs), v, .no, .no]) (d0 := .tup xs) (fr0 := false) (xs := xs) (g := hd0) (by simp [Iq.run, ioFit, evB, evS, evE.eq_1, evE.eq_2, evE.eq_3, evE.eq_4, evE.eq_5, evE.eq_6, evE.eq_7, evE.eq_8, evE.eq_9, evE.eq_10, evE.eq_11, evE.eq_12, evE.eq_13, evE.eq_14, evE.eq_15, evE.eq_16, evE.eq_17, evE.eq_18, evE.eq_19, evE.eq_20, evE.eq_21, evE.eq_22, evE.eq_24, evE.eq_25, evE.eq_26, evE.eq_27, evE.eq_28, evE.eq_29, evE.eq_30, evE.eq_31, evE.eq_32, evL, evA, evO, evT, Iq.hd, deref, R.bind_ok, R.bind_bad, truth, intOf, callG, hdS, argsS, argS, putOuts, setOwn, outs, isOwn]) rfl (by simp) ov fun x hx => ⟨false, by
        simp [Iq.run, ioFit, evB, evS, evE.eq_1, evE.eq_2, evE.eq_3, evE.eq_4, evE.eq_5, evE.eq_6, evE.eq_7, evE.eq_8, evE.eq_9, evE.eq_10, evE.eq_11, evE.eq_12, evE.eq_13, evE.eq_14, evE.eq_15, evE.eq_16, evE.eq_17, evE.eq_18, evE.eq_19, evE.eq_20, evE.eq_21, evE.eq_22, evE.eq_24, evE.eq_25, evE.eq_26, evE.eq_27, evE.eq_28, evE.eq_29, evE.eq_30, evE.eq_31, evE.eq_32, evL, evA, evO, evT, Iq.hd, deref, R.bind_ok, R.bind_bad, truth, intOf, callG, hdS, argsS, argS, putOuts, setOwn, outs, isOwn, (row_hd (ha x hx)).1]⟩
      have s2 : evS (Pn (n + 2)) (B27 2) [.shr (.tup xs), v, .no, .no] = .ok (.nx, [.shr (.tup xs), v, .own false (.lst (xs.map hd0)), .no]) := by
        simp [B27, f27, Iq.run, ioFit, evB, evS, evE.eq_1, evE.eq_2, evE.eq_3, evE.eq_4, evE.eq_5, evE.eq_6, evE.eq_7, evE.eq_8, evE.eq_9, evE.eq_10, evE.eq_11, evE.eq_12, evE.eq_13, evE.eq_14, evE.eq_15, evE.eq_16, evE.eq_17, evE.eq_18, evE.eq_19, evE.eq_20, evE.eq_21, evE.eq_22, evE.eq_24, evE.eq_25, evE.eq_26, evE.eq_27, evE.eq_28, evE.eq_29, evE.eq_30, evE.eq_31, evE.eq_32, evL, evA, evO, evT, Iq.hd, deref, R.bind_ok, R.bind_bad, truth, intOf, callG, hdS, argsS, argS, putOuts, setOwn, outs, isOwn, co]
      obtain ⟨ys, e1, e2⟩ := same_srt (xs := xs.map hd0) (d := .lst (xs.map hd0)) (.inr rfl) (by rw [List.length_map]; exact h.tup.2) (.inr ⟨fun x hx => by
        obtain ⟨y, hy, rfl⟩ := List.mem_map.mp hx
        exact (row_hd (ha y hy)).2, fun x hx => by
        obtain ⟨y, hy, rfl⟩ := List.mem_map.mp hx
        exact hd_g (h.tup.1 y hy) (ha y hy)⟩)
      have s3 : evS (Pn (n + 2)) (B27 3) [.shr (.tup xs), v, .own false (.lst (xs.map hd0)), .no] = .ok (.rt (.bl (risD (xs.map hd0))) false, [.shr (.tup xs), v, .own false (.lst (xs.map hd0)), .no]) := by
        simp [B27, f27, Iq.run, ioFit, evB, evS, evE.eq_1, evE.eq_2, evE.eq_3, evE.eq_4, evE.eq_5, evE.eq_6, evE.eq_7, evE.eq_8, evE.eq_9, evE.eq_10, evE.eq_11, evE.eq_12, evE.eq_13, evE.eq_14, evE.eq_15, evE.eq_16, evE.eq_17, evE.eq_18, evE.eq_19, evE.eq_20, evE.eq_21, evE.eq_22, evE.eq_24, evE.eq_25, evE.eq_26, evE.eq_27, evE.eq_28, evE.eq_29, evE.eq_30, evE.eq_31, evE.eq_32, evL, evA, evO, evT, Iq.hd, deref, R.bind_ok, R.bind_bad, truth, intOf, callG, hdS, argsS, argS, putOuts, setOwn, outs, isOwn, e1, cmpD, e2]
      have r : rowsB (.tup xs) = risD (xs.map hd0) := by simp only [rowsB, a, Bool.true_and]
      rw [r]
      exact run_rt ⟨rfl, by decide, by decide, rfl⟩ rfl (ev_nx (s := B27 0) s0 (ev_nx (s := B27 1) s1 (ev_nx (s := B27 2) s2 (ev_rt (s := B27 3) s3))))
  | _ => simp [f27, Iq.run, ioFit, evB, evS, evE.eq_1, evE.eq_2, evE.eq_3, evE.eq_4, evE.eq_5, evE.eq_6, evE.eq_7, evE.eq_8, evE.eq_9, evE.eq_10, evE.eq_11, evE.eq_12, evE.eq_13, evE.eq_14, evE.eq_15, evE.eq_16, evE.eq_17, evE.eq_18, evE.eq_19, evE.eq_20, evE.eq_21, evE.eq_22, evE.eq_24, evE.eq_25, evE.eq_26, evE.eq_27, evE.eq_28, evE.eq_29, evE.eq_30, evE.eq_31, evE.eq_32, evL, evA, evO, evT, Iq.hd, deref, R.bind_ok, R.bind_bad, truth, intOf, callG, hdS, argsS, argS, putOuts, setOwn, outs, isOwn, isTys, isTy, ty_beq, rowsB]
end Q
set_option Elab.async false
set_option linter.all false
set_option maxRecDepth 100000
set_option maxHeartbeats 4000000
namespace Q
open PySem L2 Iq
theorem tak_law {r : D} {i : Int} (h : rowsB r = true) : takB r (.int i) = (decide (0 ≤ i) || (decide (i = -1) && !nilT r)) := by
  simp only [takB, h, Bool.true_and, plcB, m1B, bq]
  cases nilT r
  · by_cases z : 0 ≤ i
    · simp [z]; omega
    · by_cases y : i = -1 <;> simp [z, y] <;> omega
  · by_cases z : 0 ≤ i
    · have : ¬ i = -1 := by omega
      simp [z, this]; omega
    · by_cases y : i = -1 <;> simp [z, y] <;> omega
theorem tak_int {r p : D} (h : intB p = false) : takB r p = false := by
  cases p <;> simp only [intB] at h <;> first | (cases h; done) | simp [takB, plcB]
theorem c28a (n : Nat) {w r p t  g : D} (h : G (.tup [w, r, p, t, g])) : (Pn (n + 4)).fn 28 [.shr (.tup [w, r, p, t, g])] = .ok (.bl (takB r p && (numsB (.tup [t]) && namesB g)), false, []) := by
  rw [fn28]
  have q27 := c27 n (h.tup.1 r (by simp))
  have q26 := c26 (n + 1) (h.tup.1 g (by simp))
  have q23 := c23 (n + 2) (h.tup.1 p (by simp))
  have i1 : atI [w, r, p, t, g] 1 = some r := rfl
  have i2 : atI [w, r, p, t, g] 2 = some p := rfl
  have i5 : atI [w, r, p, t, g] (-1) = some g := rfl
  have cut : cutL [w, r, p, t, g] (some 3) (some (-1)) = [t] := rfl
  have gs : ∀ x ∈ [t], G x := fun x hx => h.tup.1 x (by
    rcases List.mem_cons.mp hx with rfl | hx
    · simp
    · first | (cases hx; done) | (obtain rfl := List.mem_singleton.mp hx; simp))
  obtain ⟨fl, co, ef⟩ := none_of (P := Pn (n + 3)) (i := 1) (src := .sli (.var 0) (some (.con (.int 3))) (some (.neg (.con (.int 1))))) (c := .nt (.at (.call 24 [.var 1]))) (ς := [.shr (.tup [w, r, p, t, g]), .no]) (d0 := .tup [t]) (fr0 := false) (xs := [t]) numB (by simp [Iq.run, ioFit, evB, evS, evE.eq_1, evE.eq_2, evE.eq_3, evE.eq_4, evE.eq_5, evE.eq_6, evE.eq_7, evE.eq_8, evE.eq_9, evE.eq_10, evE.eq_11, evE.eq_12, evE.eq_13, evE.eq_14, evE.eq_15, evE.eq_16, evE.eq_17, evE.eq_18, evE.eq_19, evE.eq_20, evE.eq_21, evE.eq_22, evE.eq_24, evE.eq_25, evE.eq_26, evE.eq_27, evE.eq_28, evE.eq_29, evE.eq_30, evE.eq_31, evE.eq_32, evL, evA, evO, evT, Iq.hd, deref, R.bind_ok, R.bind_bad, truth, intOf, callG, hdS, argsS, argS, putOuts, setOwn, outs, isOwn, sliD, cut]) rfl (by simp) rfl gs (by simp)
    (fun x hx => by
      have := c24 (n + 1) (gs x hx)
      simp [Iq.run, ioFit, evB, evS, evE.eq_1, evE.eq_2, evE.eq_3, evE.eq_4, evE.eq_5, evE.eq_6, evE.eq_7, evE.eq_8, evE.eq_9, evE.eq_10, evE.eq_11, evE.eq_12, evE.eq_13, evE.eq_14, evE.eq_15, evE.eq_16, evE.eq_17, evE.eq_18, evE.eq_19, evE.eq_20, evE.eq_21, evE.eq_22, evE.eq_24, evE.eq_25, evE.eq_26, evE.eq_27, evE.eq_28, evE.eq_29, evE.eq_30, evE.eq_31, evE.eq_32, evL, evA, evO, evT, Iq.hd, deref, R.bind_ok, R.bind_bad, truth, intOf, callG, hdS, argsS, argS, putOuts, setOwn, outs, isOwn, io24, this])
  have en : numsB (.tup [t]) = [t].all numB := rfl
  rw [en]
  cases a : rowsB r with
  | false => simp [f28, pack, Iq.run, ioFit, evB, evS, evE.eq_1, evE.eq_2, evE.eq_3, evE.eq_4, evE.eq_5, evE.eq_6, evE.eq_7, evE.eq_8, evE.eq_9, evE.eq_10, evE.eq_11, evE.eq_12, evE.eq_13, evE.eq_14, evE.eq_15, evE.eq_16, evE.eq_17, evE.eq_18, evE.eq_19, evE.eq_20, evE.eq_21, evE.eq_22, evE.eq_24, evE.eq_25, evE.eq_26, evE.eq_27, evE.eq_28, evE.eq_29, evE.eq_30, evE.eq_31, evE.eq_32, evL, evA, evO, evT, Iq.hd, deref, R.bind_ok, R.bind_bad, truth, intOf, callG, hdS, argsS, argS, putOuts, setOwn, outs, isOwn, io27, idxD, i1, q27, a, takB]
  | true =>
    cases b : namesB g with
    | false => simp [f28, pack, Iq.run, ioFit, evB, evS, evE.eq_1, evE.eq_2, evE.eq_3, evE.eq_4, evE.eq_5, evE.eq_6, evE.eq_7, evE.eq_8, evE.eq_9, evE.eq_10, evE.eq_11, evE.eq_12, evE.eq_13, evE.eq_14, evE.eq_15, evE.eq_16, evE.eq_17, evE.eq_18, evE.eq_19, evE.eq_20, evE.eq_21, evE.eq_22, evE.eq_24, evE.eq_25, evE.eq_26, evE.eq_27, evE.eq_28, evE.eq_29, evE.eq_30, evE.eq_31, evE.eq_32, evL, evA, evO, evT, Iq.hd, deref, R.bind_ok, R.bind_bad, truth, intOf, callG, hdS, argsS, argS, putOuts, setOwn, outs, isOwn, io27, io26, idxD, i1, i5, q27, q26, a, b]
    | true =>
      cases e : [t].all numB with
      | false =>
        rw [e] at ef
        simp [f28, pack, Iq.run, ioFit, evB, evS, evE.eq_1, evE.eq_2, evE.eq_3, evE.eq_4, evE.eq_5, evE.eq_6, evE.eq_7, evE.eq_8, evE.eq_9, evE.eq_10, evE.eq_11, evE.eq_12, evE.eq_13, evE.eq_14, evE.eq_15, evE.eq_16, evE.eq_17, evE.eq_18, evE.eq_19, evE.eq_20, evE.eq_21, evE.eq_22, evE.eq_24, evE.eq_25, evE.eq_26, evE.eq_27, evE.eq_28, evE.eq_29, evE.eq_30, evE.eq_31, evE.eq_32, evL, evA, evO, evT, Iq.hd, deref, R.bind_ok, R.bind_bad, truth, intOf, callG, hdS, argsS, argS, putOuts, setOwn, outs, isOwn, io27, io26, idxD, i1, i5, q27, q26, a, b, cmpD, notR, co, ef]
      | true =>
        rw [e] at ef
        cases c : intB p with
        | false => simp [f28, pack, Iq.run, ioFit, evB, evS, evE.eq_1, evE.eq_2, evE.eq_3, evE.eq_4, evE.eq_5, evE.eq_6, evE.eq_7, evE.eq_8, evE.eq_9, evE.eq_10, evE.eq_11, evE.eq_12, evE.eq_13, evE.eq_14, evE.eq_15, evE.eq_16, evE.eq_17, evE.eq_18, evE.eq_19, evE.eq_20, evE.eq_21, evE.eq_22, evE.eq_24, evE.eq_25, evE.eq_26, evE.eq_27, evE.eq_28, evE.eq_29, evE.eq_30, evE.eq_31, evE.eq_32, evL, evA, evO, evT, Iq.hd, deref, R.bind_ok, R.bind_bad, truth, intOf, callG, hdS, argsS, argS, putOuts, setOwn, outs, isOwn, io27, io26, io23, idxD, i1, i2, i5, q27, q26, q23, a, b, c, cmpD, notR, co, ef, tak_int c]
        | true =>
          cases p <;> simp only [intB] at c <;> try (cases c; done)
          rename_i i
          have i2' : atI [w, r, D.int i, t, g] 2 = some (.int i) := rfl
          have er := eq_nilT (h.tup.1 r (by simp)) (by decide)
          rw [tak_law a]
          by_cases z : 0 ≤ i
          · simp [f28, pack, Iq.run, ioFit, evB, evS, evE.eq_1, evE.eq_2, evE.eq_3, evE.eq_4, evE.eq_5, evE.eq_6, evE.eq_7, evE.eq_8, evE.eq_9, evE.eq_10, evE.eq_11, evE.eq_12, evE.eq_13, evE.eq_14, evE.eq_15, evE.eq_16, evE.eq_17, evE.eq_18, evE.eq_19, evE.eq_20, evE.eq_21, evE.eq_22, evE.eq_24, evE.eq_25, evE.eq_26, evE.eq_27, evE.eq_28, evE.eq_29, evE.eq_30, evE.eq_31, evE.eq_32, evL, evA, evO, evT, Iq.hd, deref, R.bind_ok, R.bind_bad, truth, intOf, callG, hdS, argsS, argS, putOuts, setOwn, outs, isOwn, io27, io26, io23, idxD, i1, i2', i5, q27, q26, q23, a, b, cmpD, notR, co, ef, z, intB]
          · by_cases y : i = -1
            · subst y
              simp [f28, pack, Iq.run, ioFit, evB, evS, evE.eq_1, evE.eq_2, evE.eq_3, evE.eq_4, evE.eq_5, evE.eq_6, evE.eq_7, evE.eq_8, evE.eq_9, evE.eq_10, evE.eq_11, evE.eq_12, evE.eq_13, evE.eq_14, evE.eq_15, evE.eq_16, evE.eq_17, evE.eq_18, evE.eq_19, evE.eq_20, evE.eq_21, evE.eq_22, evE.eq_24, evE.eq_25, evE.eq_26, evE.eq_27, evE.eq_28, evE.eq_29, evE.eq_30, evE.eq_31, evE.eq_32, evL, evA, evO, evT, Iq.hd, deref, R.bind_ok, R.bind_bad, truth, intOf, callG, hdS, argsS, argS, putOuts, setOwn, outs, isOwn, io27, io26, io23, idxD, i1, i2', i5, q27, q26, q23, a, b, cmpD, notR, co, ef, intB, int_eq, bq, er]
            · simp [f28, pack, Iq.run, ioFit, evB, evS, evE.eq_1, evE.eq_2, evE.eq_3, evE.eq_4, evE.eq_5, evE.eq_6, evE.eq_7, evE.eq_8, evE.eq_9, evE.eq_10, evE.eq_11, evE.eq_12, evE.eq_13, evE.eq_14, evE.eq_15, evE.eq_16, evE.eq_17, evE.eq_18, evE.eq_19, evE.eq_20, evE.eq_21, evE.eq_22, evE.eq_24, evE.eq_25, evE.eq_26, evE.eq_27, evE.eq_28, evE.eq_29, evE.eq_30, evE.eq_31, evE.eq_32, evL, evA, evO, evT, Iq.hd, deref, R.bind_ok, R.bind_bad, truth, intOf, callG, hdS, argsS, argS, putOuts, setOwn, outs, isOwn, io27, io26, io23, idxD, i1, i2', i5, q27, q26, q23, a, b, cmpD, notR, co, ef, z, y, intB, int_eq, bq, er]
theorem c28b (n : Nat) {w r p t u g : D} (h : G (.tup [w, r, p, t, u, g])) : (Pn (n + 4)).fn 28 [.shr (.tup [w, r, p, t, u, g])] = .ok (.bl (takB r p && (numsB (.tup [t, u]) && namesB g)), false, []) := by
  rw [fn28]
  have q27 := c27 n (h.tup.1 r (by simp))
  have q26 := c26 (n + 1) (h.tup.1 g (by simp))
  have q23 := c23 (n + 2) (h.tup.1 p (by simp))
  have i1 : atI [w, r, p, t, u, g] 1 = some r := rfl
  have i2 : atI [w, r, p, t, u, g] 2 = some p := rfl
  have i5 : atI [w, r, p, t, u, g] (-1) = some g := rfl
  have cut : cutL [w, r, p, t, u, g] (some 3) (some (-1)) = [t, u] := rfl
  have gs : ∀ x ∈ [t, u], G x := fun x hx => h.tup.1 x (by
    rcases List.mem_cons.mp hx with rfl | hx
    · simp
    · first | (cases hx; done) | (obtain rfl := List.mem_singleton.mp hx; simp))
  obtain ⟨fl, co, ef⟩ := none_of (P := Pn (n + 3)) (i := 1) (src := .sli (.var 0) (some (.con (.int 3))) (some (.neg (.con (.int 1))))) (c := .nt (.at (.call 24 [.var 1]))) (ς := [.shr (.tup [w, r, p, t, u, g]), .no]) (d0 := .tup [t, u]) (fr0 := false) (xs := [t, u]) numB (by simp [Iq.run, ioFit, evB, evS, evE.eq_1, evE.eq_2, evE.eq_3, evE.eq_4, evE.eq_5, evE.eq_6, evE.eq_7, evE.eq_8, evE.eq_9, evE.eq_10, evE.eq_11, evE.eq_12, evE.eq_13, evE.eq_14, evE.eq_15, evE.eq_16, evE.eq_17, evE.eq_18, evE.eq_19, evE.eq_20, evE.eq_21, evE.eq_22, evE.eq_24, evE.eq_25, evE.eq_26, evE.eq_27, evE.eq_28, evE.eq_29, evE.eq_30, evE.eq_31, evE.eq_32, evL, evA, evO, evT, Iq.hd, deref, R.bind_ok, R.bind_bad, truth, intOf, callG, hdS, argsS, argS, putOuts, setOwn, outs, isOwn, sliD, cut]) rfl (by simp) rfl gs (by simp)
    (fun x hx => by
      have := c24 (n + 1) (gs x hx)
      simp [Iq.run, ioFit, evB, evS, evE.eq_1, evE.eq_2, evE.eq_3, evE.eq_4, evE.eq_5, evE.eq_6, evE.eq_7, evE.eq_8, evE.eq_9, evE.eq_10, evE.eq_11, evE.eq_12, evE.eq_13, evE.eq_14, evE.eq_15, evE.eq_16, evE.eq_17, evE.eq_18, evE.eq_19, evE.eq_20, evE.eq_21, evE.eq_22, evE.eq_24, evE.eq_25, evE.eq_26, evE.eq_27, evE.eq_28, evE.eq_29, evE.eq_30, evE.eq_31, evE.eq_32, evL, evA, evO, evT, Iq.hd, deref, R.bind_ok, R.bind_bad, truth, intOf, callG, hdS, argsS, argS, putOuts, setOwn, outs, isOwn, io24, this])
  have en : numsB (.tup [t, u]) = [t, u].all numB := rfl
  rw [en]
  cases a : rowsB r with
  | false => simp [f28, pack, Iq.run, ioFit, evB, evS, evE.eq_1, evE.eq_2, evE.eq_3, evE.eq_4, evE.eq_5, evE.eq_6, evE.eq_7, evE.eq_8, evE.eq_9, evE.eq_10, evE.eq_11, evE.eq_12, evE.eq_13, evE.eq_14, evE.eq_15, evE.eq_16, evE.eq_17, evE.eq_18, evE.eq_19, evE.eq_20, evE.eq_21, evE.eq_22, evE.eq_24, evE.eq_25, evE.eq_26, evE.eq_27, evE.eq_28, evE.eq_29, evE.eq_30, evE.eq_31, evE.eq_32, evL, evA, evO, evT, Iq.hd, deref, R.bind_ok, R.bind_bad, truth, intOf, callG, hdS, argsS, argS, putOuts, setOwn, outs, isOwn, io27, idxD, i1, q27, a, takB]
  | true =>
    cases b : namesB g with
    | false => simp [f28, pack, Iq.run, ioFit, evB, evS, evE.eq_1, evE.eq_2, evE.eq_3, evE.eq_4, evE.eq_5, evE.eq_6, evE.eq_7, evE.eq_8, evE.eq_9, evE.eq_10, evE.eq_11, evE.eq_12, evE.eq_13, evE.eq_14, evE.eq_15, evE.eq_16, evE.eq_17, evE.eq_18, evE.eq_19, evE.eq_20, evE.eq_21, evE.eq_22, evE.eq_24, evE.eq_25, evE.eq_26, evE.eq_27, evE.eq_28, evE.eq_29, evE.eq_30, evE.eq_31, evE.eq_32, evL, evA, evO, evT, Iq.hd, deref, R.bind_ok, R.bind_bad, truth, intOf, callG, hdS, argsS, argS, putOuts, setOwn, outs, isOwn, io27, io26, idxD, i1, i5, q27, q26, a, b]
    | true =>
      cases e : [t, u].all numB with
      | false =>
        rw [e] at ef
        simp [f28, pack, Iq.run, ioFit, evB, evS, evE.eq_1, evE.eq_2, evE.eq_3, evE.eq_4, evE.eq_5, evE.eq_6, evE.eq_7, evE.eq_8, evE.eq_9, evE.eq_10, evE.eq_11, evE.eq_12, evE.eq_13, evE.eq_14, evE.eq_15, evE.eq_16, evE.eq_17, evE.eq_18, evE.eq_19, evE.eq_20, evE.eq_21, evE.eq_22, evE.eq_24, evE.eq_25, evE.eq_26, evE.eq_27, evE.eq_28, evE.eq_29, evE.eq_30, evE.eq_31, evE.eq_32, evL, evA, evO, evT, Iq.hd, deref, R.bind_ok, R.bind_bad, truth, intOf, callG, hdS, argsS, argS, putOuts, setOwn, outs, isOwn, io27, io26, idxD, i1, i5, q27, q26, a, b, cmpD, notR, co, ef]
      | true =>
        rw [e] at ef
        cases c : intB p with
        | false => simp [f28, pack, Iq.run, ioFit, evB, evS, evE.eq_1, evE.eq_2, evE.eq_3, evE.eq_4, evE.eq_5, evE.eq_6, evE.eq_7, evE.eq_8, evE.eq_9, evE.eq_10, evE.eq_11, evE.eq_12, evE.eq_13, evE.eq_14, evE.eq_15, evE.eq_16, evE.eq_17, evE.eq_18, evE.eq_19, evE.eq_20, evE.eq_21, evE.eq_22, evE.eq_24, evE.eq_25, evE.eq_26, evE.eq_27, evE.eq_28, evE.eq_29, evE.eq_30, evE.eq_31, evE.eq_32, evL, evA, evO, evT, Iq.hd, deref, R.bind_ok, R.bind_bad, truth, intOf, callG, hdS, argsS, argS, putOuts, setOwn, outs, isOwn, io27, io26, io23, idxD, i1, i2, i5, q27, q26, q23, a, b, c, cmpD, notR, co, ef, tak_int c]
        | true =>
          cases p <;> simp only [intB] at c <;> try (cases c; done)
          rename_i i
          have i2' : atI [w, r, D.int i, t, u, g] 2 = some (.int i) := rfl
          have er := eq_nilT (h.tup.1 r (by simp)) (by decide)
          rw [tak_law a]
          by_cases z : 0 ≤ i
          · simp [f28, pack, Iq.run, ioFit, evB, evS, evE.eq_1, evE.eq_2, evE.eq_3, evE.eq_4, evE.eq_5, evE.eq_6, evE.eq_7, evE.eq_8, evE.eq_9, evE.eq_10, evE.eq_11, evE.eq_12, evE.eq_13, evE.eq_14, evE.eq_15, evE.eq_16, evE.eq_17, evE.eq_18, evE.eq_19, evE.eq_20, evE.eq_21, evE.eq_22, evE.eq_24, evE.eq_25, evE.eq_26, evE.eq_27, evE.eq_28, evE.eq_29, evE.eq_30, evE.eq_31, evE.eq_32, evL, evA, evO, evT, Iq.hd, deref, R.bind_ok, R.bind_bad, truth, intOf, callG, hdS, argsS, argS, putOuts, setOwn, outs, isOwn, io27, io26, io23, idxD, i1, i2', i5, q27, q26, q23, a, b, cmpD, notR, co, ef, z, intB]
          · by_cases y : i = -1
            · subst y
              simp [f28, pack, Iq.run, ioFit, evB, evS, evE.eq_1, evE.eq_2, evE.eq_3, evE.eq_4, evE.eq_5, evE.eq_6, evE.eq_7, evE.eq_8, evE.eq_9, evE.eq_10, evE.eq_11, evE.eq_12, evE.eq_13, evE.eq_14, evE.eq_15, evE.eq_16, evE.eq_17, evE.eq_18, evE.eq_19, evE.eq_20, evE.eq_21, evE.eq_22, evE.eq_24, evE.eq_25, evE.eq_26, evE.eq_27, evE.eq_28, evE.eq_29, evE.eq_30, evE.eq_31, evE.eq_32, evL, evA, evO, evT, Iq.hd, deref, R.bind_ok, R.bind_bad, truth, intOf, callG, hdS, argsS, argS, putOuts, setOwn, outs, isOwn, io27, io26, io23, idxD, i1, i2', i5, q27, q26, q23, a, b, cmpD, notR, co, ef, intB, int_eq, bq, er]
            · simp [f28, pack, Iq.run, ioFit, evB, evS, evE.eq_1, evE.eq_2, evE.eq_3, evE.eq_4, evE.eq_5, evE.eq_6, evE.eq_7, evE.eq_8, evE.eq_9, evE.eq_10, evE.eq_11, evE.eq_12, evE.eq_13, evE.eq_14, evE.eq_15, evE.eq_16, evE.eq_17, evE.eq_18, evE.eq_19, evE.eq_20, evE.eq_21, evE.eq_22, evE.eq_24, evE.eq_25, evE.eq_26, evE.eq_27, evE.eq_28, evE.eq_29, evE.eq_30, evE.eq_31, evE.eq_32, evL, evA, evO, evT, Iq.hd, deref, R.bind_ok, R.bind_bad, truth, intOf, callG, hdS, argsS, argS, putOuts, setOwn, outs, isOwn, io27, io26, io23, idxD, i1, i2', i5, q27, q26, q23, a, b, cmpD, notR, co, ef, z, y, intB, int_eq, bq, er]

/-! ### instructions, by the law -/
theorem eq_strA {d : D} {z : Str} (h : G d) (hz : PyData.strOk z = true) : eqD d (.str z) = .ok (match d with | .str s => decide (s = z) | _ => false) := by
  cases d with
  | fn _ => exact h.fn.elim
  | dic _ => exact h.dic.elim
  | str s => rw [str_eq h.str.2 hz, bq]
  | non => simp [eqD, D.py, PyData.eqv, SeqAt.shaped, PyData.canLay0, PyData.depth, hz]
  | bl _ => simp [eqD, D.py, PyData.eqv, SeqAt.shaped, PyData.canLay0, PyData.depth, hz]
  | int _ => simp [eqD, D.py, PyData.eqv, SeqAt.shaped, PyData.canLay0, PyData.depth, hz]
  | tup xs =>
    obtain ⟨p, e, s⟩ := ok_shaped h (by decide)
    have s0 : SeqAt.shaped (.str z) = true := by simp [SeqAt.shaped, PyData.canLay0, PyData.depth, hz]
    simp only [D.py] at e
    obtain ⟨ps, e1, rfl⟩ := Option.map_eq_some_iff.mp e
    simp [eqD, D.py, e1, s, s0, PyData.eqv]
  | lst xs =>
    obtain ⟨p, e, s⟩ := ok_shaped h (by decide)
    have s0 : SeqAt.shaped (.str z) = true := by simp [SeqAt.shaped, PyData.canLay0, PyData.depth, hz]
    simp only [D.py] at e
    obtain ⟨ps, e1, rfl⟩ := Option.map_eq_some_iff.mp e
    simp [eqD, D.py, e1, s, s0, PyData.eqv]
theorem nilS_is {d : D} (h : G d) : eqD d (.str "") = .ok (nilS d) := by
  rw [eq_strA h (by decide +kernel)]
  cases d <;> rfl
abbrev B29 (i : Nat) : Sm := f29.body.getD i .nev
abbrev S29 (s : Str) (xs : List D) (u : Sl) : List Sl := [.shr (.tup (.str s :: xs)), .shr (.str s), .shr (.int ((xs.length : Int) + 1)), u]
theorem v_0 (n : Nat) {s : Str} {xs : List D} (h : xs ≠ []) : evS (Pn n) (B29 0) [.shr (.tup (.str s :: xs)), .no, .no, .no] = .ok (.nx, [.shr (.tup (.str s :: xs)), .no, .no, .no]) := by
  have z : ¬ (xs.length : Int) + 1 < 2 := by
    cases xs with
    | nil => exact absurd rfl h
    | cons _ _ => simp; omega
  simp [B29, f29, Iq.run, ioFit, evB, evS, evE.eq_1, evE.eq_2, evE.eq_3, evE.eq_4, evE.eq_5, evE.eq_6, evE.eq_7, evE.eq_8, evE.eq_9, evE.eq_10, evE.eq_11, evE.eq_12, evE.eq_13, evE.eq_14, evE.eq_15, evE.eq_16, evE.eq_17, evE.eq_18, evE.eq_19, evE.eq_20, evE.eq_21, evE.eq_22, evE.eq_24, evE.eq_25, evE.eq_26, evE.eq_27, evE.eq_28, evE.eq_29, evE.eq_30, evE.eq_31, evE.eq_32, evL, evA, evO, evT, Iq.hd, deref, R.bind_ok, R.bind_bad, truth, intOf, callG, hdS, argsS, argS, putOuts, setOwn, outs, isOwn, isTys, isTy, ty_beq, biD, cmpD, ltD, idxD, at0, z]
theorem v_1 (n : Nat) {s : Str} {xs : List D} : evS (Pn n) (B29 1) [.shr (.tup (.str s :: xs)), .no, .no, .no] = .ok (.nx, S29 s xs .no) := by
  simp [B29, f29, Iq.run, ioFit, evB, evS, evE.eq_1, evE.eq_2, evE.eq_3, evE.eq_4, evE.eq_5, evE.eq_6, evE.eq_7, evE.eq_8, evE.eq_9, evE.eq_10, evE.eq_11, evE.eq_12, evE.eq_13, evE.eq_14, evE.eq_15, evE.eq_16, evE.eq_17, evE.eq_18, evE.eq_19, evE.eq_20, evE.eq_21, evE.eq_22, evE.eq_24, evE.eq_25, evE.eq_26, evE.eq_27, evE.eq_28, evE.eq_29, evE.eq_30, evE.eq_31, evE.eq_32, evL, evA, evO, evT, Iq.hd, deref, R.bind_ok, R.bind_bad, truth, intOf, callG, hdS, argsS, argS, putOuts, setOwn, outs, isOwn, idxD, at0, biD, setAll]
theorem v_2 (n : Nat) {s : Str} {xs : List D} (hs : PyData.strOk s = true) (h : s ≠ "go") : evS (Pn n) (B29 2) (S29 s xs .no) = .ok (.nx, S29 s xs .no) := by
  simp [B29, f29, Iq.run, ioFit, evB, evS, evE.eq_1, evE.eq_2, evE.eq_3, evE.eq_4, evE.eq_5, evE.eq_6, evE.eq_7, evE.eq_8, evE.eq_9, evE.eq_10, evE.eq_11, evE.eq_12, evE.eq_13, evE.eq_14, evE.eq_15, evE.eq_16, evE.eq_17, evE.eq_18, evE.eq_19, evE.eq_20, evE.eq_21, evE.eq_22, evE.eq_24, evE.eq_25, evE.eq_26, evE.eq_27, evE.eq_28, evE.eq_29, evE.eq_30, evE.eq_31, evE.eq_32, evL, evA, evO, evT, Iq.hd, deref, R.bind_ok, R.bind_bad, truth, intOf, callG, hdS, argsS, argS, putOuts, setOwn, outs, isOwn, cmpD, str_eq hs ok_go, bq, h]
theorem v_3 (n : Nat) {s : Str} {xs : List D} (hs : PyData.strOk s = true) (h : s ≠ "fork") : evS (Pn n) (B29 3) (S29 s xs .no) = .ok (.nx, S29 s xs .no) := by
  simp [B29, f29, Iq.run, ioFit, evB, evS, evE.eq_1, evE.eq_2, evE.eq_3, evE.eq_4, evE.eq_5, evE.eq_6, evE.eq_7, evE.eq_8, evE.eq_9, evE.eq_10, evE.eq_11, evE.eq_12, evE.eq_13, evE.eq_14, evE.eq_15, evE.eq_16, evE.eq_17, evE.eq_18, evE.eq_19, evE.eq_20, evE.eq_21, evE.eq_22, evE.eq_24, evE.eq_25, evE.eq_26, evE.eq_27, evE.eq_28, evE.eq_29, evE.eq_30, evE.eq_31, evE.eq_32, evL, evA, evO, evT, Iq.hd, deref, R.bind_ok, R.bind_bad, truth, intOf, callG, hdS, argsS, argS, putOuts, setOwn, outs, isOwn, cmpD, str_eq hs ok_fork, bq, h]
theorem in_two {s a b : Str} : inD (.str s) (.tup [.str a, .str b]) = .ok (decide (s = a ∨ s = b)) := by
  have := in_strs (s := s) [a, b]
  simp only [List.map_cons, List.map_nil] at this
  rw [this]
  congr 1
  rw [Bool.eq_iff_iff]
  simp
theorem v_4 (n : Nat) {s : Str} {xs : List D} (h : ¬ (s = "wait" ∨ s = "poll")) : evS (Pn n) (B29 4) (S29 s xs .no) = .ok (.nx, S29 s xs .no) := by
  have q := in_two (s := s) (a := "wait") (b := "poll")
  rw [decide_eq_false h] at q
  simp [B29, f29, Iq.run, ioFit, evB, evS, evE.eq_1, evE.eq_2, evE.eq_3, evE.eq_4, evE.eq_5, evE.eq_6, evE.eq_7, evE.eq_8, evE.eq_9, evE.eq_10, evE.eq_11, evE.eq_12, evE.eq_13, evE.eq_14, evE.eq_15, evE.eq_16, evE.eq_17, evE.eq_18, evE.eq_19, evE.eq_20, evE.eq_21, evE.eq_22, evE.eq_24, evE.eq_25, evE.eq_26, evE.eq_27, evE.eq_28, evE.eq_29, evE.eq_30, evE.eq_31, evE.eq_32, evL, evA, evO, evT, Iq.hd, deref, R.bind_ok, R.bind_bad, truth, intOf, callG, hdS, argsS, argS, putOuts, setOwn, outs, isOwn, cmpD, q]
theorem v_5 (n : Nat) {s : Str} {xs : List D} (h : ¬ (s = "kill" ∨ s = "release")) : evS (Pn n) (B29 5) (S29 s xs .no) = .ok (.nx, S29 s xs .no) := by
  have q := in_two (s := s) (a := "kill") (b := "release")
  rw [decide_eq_false h] at q
  simp [B29, f29, Iq.run, ioFit, evB, evS, evE.eq_1, evE.eq_2, evE.eq_3, evE.eq_4, evE.eq_5, evE.eq_6, evE.eq_7, evE.eq_8, evE.eq_9, evE.eq_10, evE.eq_11, evE.eq_12, evE.eq_13, evE.eq_14, evE.eq_15, evE.eq_16, evE.eq_17, evE.eq_18, evE.eq_19, evE.eq_20, evE.eq_21, evE.eq_22, evE.eq_24, evE.eq_25, evE.eq_26, evE.eq_27, evE.eq_28, evE.eq_29, evE.eq_30, evE.eq_31, evE.eq_32, evL, evA, evO, evT, Iq.hd, deref, R.bind_ok, R.bind_bad, truth, intOf, callG, hdS, argsS, argS, putOuts, setOwn, outs, isOwn, cmpD, q]
theorem u_2 (n : Nat) {xs : List D} (h : G (.tup (.str "go" :: xs))) : evS (Pn (n + 6)) (B29 2) (S29 "go" xs .no) = .ok (.rt (.bl (goB (.str "go" :: xs))) false, S29 "go" xs .no) := by
  by_cases hl : xs.length = 1
  · match xs, hl with
    | [y], _ =>
      have gy := h.tup.1 y (by simp)
      have i1 : atI [D.str "go", y] 1 = some y := rfl
      cases y with
      | fn _ => exact gy.fn.elim
      | dic _ => exact gy.dic.elim
      | tup ys =>
        have en := eq_nilT gy (by decide)
        cases ys with
        | nil => simp [B29, f29, Iq.run, ioFit, evB, evS, evE.eq_1, evE.eq_2, evE.eq_3, evE.eq_4, evE.eq_5, evE.eq_6, evE.eq_7, evE.eq_8, evE.eq_9, evE.eq_10, evE.eq_11, evE.eq_12, evE.eq_13, evE.eq_14, evE.eq_15, evE.eq_16, evE.eq_17, evE.eq_18, evE.eq_19, evE.eq_20, evE.eq_21, evE.eq_22, evE.eq_24, evE.eq_25, evE.eq_26, evE.eq_27, evE.eq_28, evE.eq_29, evE.eq_30, evE.eq_31, evE.eq_32, evL, evA, evO, evT, Iq.hd, deref, R.bind_ok, R.bind_bad, truth, intOf, callG, hdS, argsS, argS, putOuts, setOwn, outs, isOwn, cmpD, str_eq ok_go ok_go, bq, biD, int_eq, notR, isTys, isTy, ty_beq, idxD, i1, en, nilT, goB]
        | cons y ys =>
          obtain ⟨fl, co, ef⟩ := none_of (P := Pn (n + 6)) (i := 3) (src := .idx (.var 0) (.con (.int 1))) (c := .nt (.at (.call 24 [.var 3]))) (ς := S29 "go" [.tup (y :: ys)] .no) (d0 := .tup (y :: ys)) (fr0 := false) (xs := y :: ys) numB (by simp [Iq.run, ioFit, evB, evS, evE.eq_1, evE.eq_2, evE.eq_3, evE.eq_4, evE.eq_5, evE.eq_6, evE.eq_7, evE.eq_8, evE.eq_9, evE.eq_10, evE.eq_11, evE.eq_12, evE.eq_13, evE.eq_14, evE.eq_15, evE.eq_16, evE.eq_17, evE.eq_18, evE.eq_19, evE.eq_20, evE.eq_21, evE.eq_22, evE.eq_24, evE.eq_25, evE.eq_26, evE.eq_27, evE.eq_28, evE.eq_29, evE.eq_30, evE.eq_31, evE.eq_32, evL, evA, evO, evT, Iq.hd, deref, R.bind_ok, R.bind_bad, truth, intOf, callG, hdS, argsS, argS, putOuts, setOwn, outs, isOwn, idxD, i1]) rfl (by simp) rfl gy.tup.1 gy.tup.2
            (fun x hx => by
              have := c24 (n + 4) (gy.tup.1 x hx)
              simp [Iq.run, ioFit, evB, evS, evE.eq_1, evE.eq_2, evE.eq_3, evE.eq_4, evE.eq_5, evE.eq_6, evE.eq_7, evE.eq_8, evE.eq_9, evE.eq_10, evE.eq_11, evE.eq_12, evE.eq_13, evE.eq_14, evE.eq_15, evE.eq_16, evE.eq_17, evE.eq_18, evE.eq_19, evE.eq_20, evE.eq_21, evE.eq_22, evE.eq_24, evE.eq_25, evE.eq_26, evE.eq_27, evE.eq_28, evE.eq_29, evE.eq_30, evE.eq_31, evE.eq_32, evL, evA, evO, evT, Iq.hd, deref, R.bind_ok, R.bind_bad, truth, intOf, callG, hdS, argsS, argS, putOuts, setOwn, outs, isOwn, io24, this])
          cases a : (y :: ys).all numB with
          | false =>
            rw [a] at ef
            have f : goB [.str "go", .tup (y :: ys)] = false := by simp only [goB, a, Bool.false_and]
            simp [B29, f29, Iq.run, ioFit, evB, evS, evE.eq_1, evE.eq_2, evE.eq_3, evE.eq_4, evE.eq_5, evE.eq_6, evE.eq_7, evE.eq_8, evE.eq_9, evE.eq_10, evE.eq_11, evE.eq_12, evE.eq_13, evE.eq_14, evE.eq_15, evE.eq_16, evE.eq_17, evE.eq_18, evE.eq_19, evE.eq_20, evE.eq_21, evE.eq_22, evE.eq_24, evE.eq_25, evE.eq_26, evE.eq_27, evE.eq_28, evE.eq_29, evE.eq_30, evE.eq_31, evE.eq_32, evL, evA, evO, evT, Iq.hd, deref, R.bind_ok, R.bind_bad, truth, intOf, callG, hdS, argsS, argS, putOuts, setOwn, outs, isOwn, cmpD, str_eq ok_go ok_go, bq, biD, int_eq, notR, isTys, isTy, ty_beq, idxD, i1, en, nilT, f, co, ef]
          | true =>
            rw [a] at ef
            obtain ⟨zs, e1, e2⟩ := same_srt (xs := y :: ys) (d := .tup (y :: ys)) (.inl rfl) gy.tup.2 (.inl fun x hx => num_int (List.all_eq_true.mp a x hx))
            have f : goB [.str "go", .tup (y :: ys)] = risD (y :: ys) := by simp only [goB, a, Bool.true_and, List.isEmpty_cons, Bool.not_false]
            simp [B29, f29, Iq.run, ioFit, evB, evS, evE.eq_1, evE.eq_2, evE.eq_3, evE.eq_4, evE.eq_5, evE.eq_6, evE.eq_7, evE.eq_8, evE.eq_9, evE.eq_10, evE.eq_11, evE.eq_12, evE.eq_13, evE.eq_14, evE.eq_15, evE.eq_16, evE.eq_17, evE.eq_18, evE.eq_19, evE.eq_20, evE.eq_21, evE.eq_22, evE.eq_24, evE.eq_25, evE.eq_26, evE.eq_27, evE.eq_28, evE.eq_29, evE.eq_30, evE.eq_31, evE.eq_32, evL, evA, evO, evT, Iq.hd, deref, R.bind_ok, R.bind_bad, truth, intOf, callG, hdS, argsS, argS, putOuts, setOwn, outs, isOwn, cmpD, str_eq ok_go ok_go, bq, biD, int_eq, notR, isTys, isTy, ty_beq, idxD, i1, en, nilT, f, co, ef, e1, e2]
      | _ => simp [B29, f29, Iq.run, ioFit, evB, evS, evE.eq_1, evE.eq_2, evE.eq_3, evE.eq_4, evE.eq_5, evE.eq_6, evE.eq_7, evE.eq_8, evE.eq_9, evE.eq_10, evE.eq_11, evE.eq_12, evE.eq_13, evE.eq_14, evE.eq_15, evE.eq_16, evE.eq_17, evE.eq_18, evE.eq_19, evE.eq_20, evE.eq_21, evE.eq_22, evE.eq_24, evE.eq_25, evE.eq_26, evE.eq_27, evE.eq_28, evE.eq_29, evE.eq_30, evE.eq_31, evE.eq_32, evL, evA, evO, evT, Iq.hd, deref, R.bind_ok, R.bind_bad, truth, intOf, callG, hdS, argsS, argS, putOuts, setOwn, outs, isOwn, cmpD, str_eq ok_go ok_go, bq, biD, int_eq, notR, isTys, isTy, ty_beq, idxD, i1, goB]
  · have z : ¬ (xs.length : Int) + 1 = 2 := by omega
    have f : goB (.str "go" :: xs) = false := by
      match xs, hl with
      | [], _ => rfl
      | [_], hl => simp at hl
      | _ :: _ :: _, _ => simp only [goB]
    simp [B29, f29, Iq.run, ioFit, evB, evS, evE.eq_1, evE.eq_2, evE.eq_3, evE.eq_4, evE.eq_5, evE.eq_6, evE.eq_7, evE.eq_8, evE.eq_9, evE.eq_10, evE.eq_11, evE.eq_12, evE.eq_13, evE.eq_14, evE.eq_15, evE.eq_16, evE.eq_17, evE.eq_18, evE.eq_19, evE.eq_20, evE.eq_21, evE.eq_22, evE.eq_24, evE.eq_25, evE.eq_26, evE.eq_27, evE.eq_28, evE.eq_29, evE.eq_30, evE.eq_31, evE.eq_32, evL, evA, evO, evT, Iq.hd, deref, R.bind_ok, R.bind_bad, truth, intOf, callG, hdS, argsS, argS, putOuts, setOwn, outs, isOwn, cmpD, str_eq ok_go ok_go, bq, biD, int_eq, notR, z, f]

theorem u_3 (n : Nat) {xs : List D} (h : G (.tup (.str "fork" :: xs))) : evS (Pn (n + 6)) (B29 3) (S29 "fork" xs .no) = .ok (.rt (.bl (forkB (.str "fork" :: xs))) false, S29 "fork" xs .no) := by
  by_cases hl : xs.length = 4
  · match xs, hl with
    | [a, b, c, e], _ =>
      have qa := c25 (n + 5) (h.tup.1 a (by simp))
      have qb := c25 (n + 5) (h.tup.1 b (by simp))
      have gc := h.tup.1 c (by simp)
      have qc := c25 (n + 5) gc
      have qe := c24 (n + 4) (h.tup.1 e (by simp))
      have en := nilS_is gc
      have i1 : atI [D.str "fork", a, b, c, e] 1 = some a := rfl
      have i2 : atI [D.str "fork", a, b, c, e] 2 = some b := rfl
      have i3 : atI [D.str "fork", a, b, c, e] 3 = some c := rfl
      have i4 : atI [D.str "fork", a, b, c, e] 4 = some e := rfl
      cases za : nameB a with
      | false => simp [B29, f29, Iq.run, ioFit, evB, evS, evE.eq_1, evE.eq_2, evE.eq_3, evE.eq_4, evE.eq_5, evE.eq_6, evE.eq_7, evE.eq_8, evE.eq_9, evE.eq_10, evE.eq_11, evE.eq_12, evE.eq_13, evE.eq_14, evE.eq_15, evE.eq_16, evE.eq_17, evE.eq_18, evE.eq_19, evE.eq_20, evE.eq_21, evE.eq_22, evE.eq_24, evE.eq_25, evE.eq_26, evE.eq_27, evE.eq_28, evE.eq_29, evE.eq_30, evE.eq_31, evE.eq_32, evL, evA, evO, evT, Iq.hd, deref, R.bind_ok, R.bind_bad, truth, intOf, callG, hdS, argsS, argS, putOuts, setOwn, outs, isOwn, cmpD, str_eq ok_fork ok_fork, bq, biD, int_eq, notR, idxD, i1, i2, i3, i4, io25, io24, qa, za, forkB]
      | true =>
        cases zb : nameB b with
        | false => simp [B29, f29, Iq.run, ioFit, evB, evS, evE.eq_1, evE.eq_2, evE.eq_3, evE.eq_4, evE.eq_5, evE.eq_6, evE.eq_7, evE.eq_8, evE.eq_9, evE.eq_10, evE.eq_11, evE.eq_12, evE.eq_13, evE.eq_14, evE.eq_15, evE.eq_16, evE.eq_17, evE.eq_18, evE.eq_19, evE.eq_20, evE.eq_21, evE.eq_22, evE.eq_24, evE.eq_25, evE.eq_26, evE.eq_27, evE.eq_28, evE.eq_29, evE.eq_30, evE.eq_31, evE.eq_32, evL, evA, evO, evT, Iq.hd, deref, R.bind_ok, R.bind_bad, truth, intOf, callG, hdS, argsS, argS, putOuts, setOwn, outs, isOwn, cmpD, str_eq ok_fork ok_fork, bq, biD, int_eq, notR, idxD, i1, i2, i3, i4, io25, io24, qa, qb, za, zb, forkB]
        | true => cases zc : nameB c <;> cases zs : nilS c <;> simp [B29, f29, Iq.run, ioFit, evB, evS, evE.eq_1, evE.eq_2, evE.eq_3, evE.eq_4, evE.eq_5, evE.eq_6, evE.eq_7, evE.eq_8, evE.eq_9, evE.eq_10, evE.eq_11, evE.eq_12, evE.eq_13, evE.eq_14, evE.eq_15, evE.eq_16, evE.eq_17, evE.eq_18, evE.eq_19, evE.eq_20, evE.eq_21, evE.eq_22, evE.eq_24, evE.eq_25, evE.eq_26, evE.eq_27, evE.eq_28, evE.eq_29, evE.eq_30, evE.eq_31, evE.eq_32, evL, evA, evO, evT, Iq.hd, deref, R.bind_ok, R.bind_bad, truth, intOf, callG, hdS, argsS, argS, putOuts, setOwn, outs, isOwn, cmpD, str_eq ok_fork ok_fork, bq, biD, int_eq, notR, idxD, i1, i2, i3, i4, io25, io24, qa, qb, qc, qe, en, za, zb, zc, zs, forkB]
  · have z : ¬ (xs.length : Int) + 1 = 5 := by omega
    have f : forkB (.str "fork" :: xs) = false := by
      unfold forkB
      split
      · rename_i e; injection e with _ e; subst e; simp at hl
      · rfl
    simp [B29, f29, Iq.run, ioFit, evB, evS, evE.eq_1, evE.eq_2, evE.eq_3, evE.eq_4, evE.eq_5, evE.eq_6, evE.eq_7, evE.eq_8, evE.eq_9, evE.eq_10, evE.eq_11, evE.eq_12, evE.eq_13, evE.eq_14, evE.eq_15, evE.eq_16, evE.eq_17, evE.eq_18, evE.eq_19, evE.eq_20, evE.eq_21, evE.eq_22, evE.eq_24, evE.eq_25, evE.eq_26, evE.eq_27, evE.eq_28, evE.eq_29, evE.eq_30, evE.eq_31, evE.eq_32, evL, evA, evO, evT, Iq.hd, deref, R.bind_ok, R.bind_bad, truth, intOf, callG, hdS, argsS, argS, putOuts, setOwn, outs, isOwn, cmpD, str_eq ok_fork ok_fork, bq, biD, int_eq, notR, z, f]
theorem ok_wait : PyData.strOk "wait" = true := by decide +kernel
theorem ok_poll : PyData.strOk "poll" = true := by decide +kernel
theorem u_4a (n : Nat) {xs : List D} (h : G (.tup (.str "wait" :: xs))) : evS (Pn (n + 6)) (B29 4) (S29 "wait" xs .no) = .ok (.rt (.bl (waitB (.str "wait" :: xs))) false, S29 "wait" xs .no) := by
  have q := in_two (s := "wait") (a := "wait") (b := "poll")
  by_cases hl : xs.length = 4
  · match xs, hl with
    | [r, p, t, g], _ =>
      have r := c28a (n + 2) h
      simp [B29, f29, Iq.run, ioFit, evB, evS, evE.eq_1, evE.eq_2, evE.eq_3, evE.eq_4, evE.eq_5, evE.eq_6, evE.eq_7, evE.eq_8, evE.eq_9, evE.eq_10, evE.eq_11, evE.eq_12, evE.eq_13, evE.eq_14, evE.eq_15, evE.eq_16, evE.eq_17, evE.eq_18, evE.eq_19, evE.eq_20, evE.eq_21, evE.eq_22, evE.eq_24, evE.eq_25, evE.eq_26, evE.eq_27, evE.eq_28, evE.eq_29, evE.eq_30, evE.eq_31, evE.eq_32, evL, evA, evO, evT, Iq.hd, deref, R.bind_ok, R.bind_bad, truth, intOf, callG, hdS, argsS, argS, putOuts, setOwn, outs, isOwn, cmpD, q, str_eq ok_wait ok_wait, bq, int_eq, io28, r, waitB]
  · have z : ¬ (xs.length : Int) + 1 = 5 := by omega
    have f : waitB (.str "wait" :: xs) = false := by
      unfold waitB
      split
      · rename_i e; injection e with _ e; subst e; simp at hl
      · rfl
    simp [B29, f29, Iq.run, ioFit, evB, evS, evE.eq_1, evE.eq_2, evE.eq_3, evE.eq_4, evE.eq_5, evE.eq_6, evE.eq_7, evE.eq_8, evE.eq_9, evE.eq_10, evE.eq_11, evE.eq_12, evE.eq_13, evE.eq_14, evE.eq_15, evE.eq_16, evE.eq_17, evE.eq_18, evE.eq_19, evE.eq_20, evE.eq_21, evE.eq_22, evE.eq_24, evE.eq_25, evE.eq_26, evE.eq_27, evE.eq_28, evE.eq_29, evE.eq_30, evE.eq_31, evE.eq_32, evL, evA, evO, evT, Iq.hd, deref, R.bind_ok, R.bind_bad, truth, intOf, callG, hdS, argsS, argS, putOuts, setOwn, outs, isOwn, cmpD, q, str_eq ok_wait ok_wait, bq, int_eq, z, f]
theorem u_4b (n : Nat) {xs : List D} (h : G (.tup (.str "poll" :: xs))) : evS (Pn (n + 6)) (B29 4) (S29 "poll" xs .no) = .ok (.rt (.bl (pollB (.str "poll" :: xs))) false, S29 "poll" xs .no) := by
  have q := in_two (s := "poll") (a := "wait") (b := "poll")
  have e1 : eqD (.str "poll") (.str "wait") = .ok false := by rw [str_eq ok_poll ok_wait]; rfl
  by_cases hl : xs.length = 5
  · match xs, hl with
    | [r, p, t, u, g], _ =>
      have r := c28b (n + 2) h
      simp [B29, f29, Iq.run, ioFit, evB, evS, evE.eq_1, evE.eq_2, evE.eq_3, evE.eq_4, evE.eq_5, evE.eq_6, evE.eq_7, evE.eq_8, evE.eq_9, evE.eq_10, evE.eq_11, evE.eq_12, evE.eq_13, evE.eq_14, evE.eq_15, evE.eq_16, evE.eq_17, evE.eq_18, evE.eq_19, evE.eq_20, evE.eq_21, evE.eq_22, evE.eq_24, evE.eq_25, evE.eq_26, evE.eq_27, evE.eq_28, evE.eq_29, evE.eq_30, evE.eq_31, evE.eq_32, evL, evA, evO, evT, Iq.hd, deref, R.bind_ok, R.bind_bad, truth, intOf, callG, hdS, argsS, argS, putOuts, setOwn, outs, isOwn, cmpD, q, e1, bq, int_eq, io28, r, pollB]
  · have z : ¬ (xs.length : Int) + 1 = 6 := by omega
    have f : pollB (.str "poll" :: xs) = false := by
      unfold pollB
      split
      · rename_i e; injection e with _ e; subst e; simp at hl
      · rfl
    simp [B29, f29, Iq.run, ioFit, evB, evS, evE.eq_1, evE.eq_2, evE.eq_3, evE.eq_4, evE.eq_5, evE.eq_6, evE.eq_7, evE.eq_8, evE.eq_9, evE.eq_10, evE.eq_11, evE.eq_12, evE.eq_13, evE.eq_14, evE.eq_15, evE.eq_16, evE.eq_17, evE.eq_18, evE.eq_19, evE.eq_20, evE.eq_21, evE.eq_22, evE.eq_24, evE.eq_25, evE.eq_26, evE.eq_27, evE.eq_28, evE.eq_29, evE.eq_30, evE.eq_31, evE.eq_32, evL, evA, evO, evT, Iq.hd, deref, R.bind_ok, R.bind_bad, truth, intOf, callG, hdS, argsS, argS, putOuts, setOwn, outs, isOwn, cmpD, q, e1, bq, int_eq, z, f]
theorem u_5 (n : Nat) {w : Str} {xs : List D} (hw : w = "kill" ∨ w = "release") (h : G (.tup (.str w :: xs))) : evS (Pn (n + 6)) (B29 5) (S29 w xs .no) = .ok (.rt (.bl (slotB (.str w :: xs))) false, S29 w xs .no) := by
  have q := in_two (s := w) (a := "kill") (b := "release")
  rw [decide_eq_true hw] at q
  by_cases hl : xs.length = 2
  · match xs, hl with
    | [a, b], _ =>
      have qa := c25 (n + 5) (h.tup.1 a (by simp))
      have qb := c24 (n + 4) (h.tup.1 b (by simp))
      have i1 : atI [D.str w, a, b] 1 = some a := rfl
      have i2 : atI [D.str w, a, b] 2 = some b := rfl
      cases za : nameB a <;> simp [B29, f29, Iq.run, ioFit, evB, evS, evE.eq_1, evE.eq_2, evE.eq_3, evE.eq_4, evE.eq_5, evE.eq_6, evE.eq_7, evE.eq_8, evE.eq_9, evE.eq_10, evE.eq_11, evE.eq_12, evE.eq_13, evE.eq_14, evE.eq_15, evE.eq_16, evE.eq_17, evE.eq_18, evE.eq_19, evE.eq_20, evE.eq_21, evE.eq_22, evE.eq_24, evE.eq_25, evE.eq_26, evE.eq_27, evE.eq_28, evE.eq_29, evE.eq_30, evE.eq_31, evE.eq_32, evL, evA, evO, evT, Iq.hd, deref, R.bind_ok, R.bind_bad, truth, intOf, callG, hdS, argsS, argS, putOuts, setOwn, outs, isOwn, cmpD, q, int_eq, bq, io25, io24, idxD, i1, i2, qa, qb, za, slotB]
  · have z : ¬ (xs.length : Int) + 1 = 3 := by omega
    have f : slotB (.str w :: xs) = false := by
      unfold slotB
      split
      · rename_i e; injection e with _ e; subst e; simp at hl
      · rfl
    simp [B29, f29, Iq.run, ioFit, evB, evS, evE.eq_1, evE.eq_2, evE.eq_3, evE.eq_4, evE.eq_5, evE.eq_6, evE.eq_7, evE.eq_8, evE.eq_9, evE.eq_10, evE.eq_11, evE.eq_12, evE.eq_13, evE.eq_14, evE.eq_15, evE.eq_16, evE.eq_17, evE.eq_18, evE.eq_19, evE.eq_20, evE.eq_21, evE.eq_22, evE.eq_24, evE.eq_25, evE.eq_26, evE.eq_27, evE.eq_28, evE.eq_29, evE.eq_30, evE.eq_31, evE.eq_32, evL, evA, evO, evT, Iq.hd, deref, R.bind_ok, R.bind_bad, truth, intOf, callG, hdS, argsS, argS, putOuts, setOwn, outs, isOwn, cmpD, q, int_eq, bq, z, f]
theorem in_01 {i : Int} : inD (.int i) (.tup [.int 0, .int 1]) = .ok (decide (0 ≤ i) && decide (i ≤ 1)) := by
  have e : ∀ j : Int, L2.eqV (.int j) (.int i) = decide (j = i) := fun j => bq j i
  simp only [inD, inSeq, flat, flats, inV, List.any_cons, List.any_nil, e, Bool.or_false]
  congr 1
  rw [Bool.eq_iff_iff]
  simp only [Bool.or_eq_true, decide_eq_true_eq, Bool.and_eq_true]
  omega
theorem u_6 (n : Nat) {w : Str} {xs : List D} (h : G (.tup (.str w :: xs))) : evS (Pn (n + 6)) (B29 6) (S29 w xs .no) = .ok (.rt (.bl (decide (w = "exit") && exitB (.str w :: xs))) false, S29 w xs .no) := by
  by_cases hw : w = "exit"
  · subst hw
    have e1 : eqD (.str "exit") (.str "exit") = .ok true := by rw [str_eq ok_exit ok_exit]; simp
    by_cases hl : xs.length = 1
    · match xs, hl with
      | [a], _ =>
        have ga := h.tup.1 a (by simp)
        have qb := c23 (n + 5) ga
        have i1 : atI [D.str "exit", a] 1 = some a := rfl
        cases a with
        | fn _ => exact ga.fn.elim
        | dic _ => exact ga.dic.elim
        | int i => simp [B29, f29, Iq.run, ioFit, evB, evS, evE.eq_1, evE.eq_2, evE.eq_3, evE.eq_4, evE.eq_5, evE.eq_6, evE.eq_7, evE.eq_8, evE.eq_9, evE.eq_10, evE.eq_11, evE.eq_12, evE.eq_13, evE.eq_14, evE.eq_15, evE.eq_16, evE.eq_17, evE.eq_18, evE.eq_19, evE.eq_20, evE.eq_21, evE.eq_22, evE.eq_24, evE.eq_25, evE.eq_26, evE.eq_27, evE.eq_28, evE.eq_29, evE.eq_30, evE.eq_31, evE.eq_32, evL, evA, evO, evT, Iq.hd, deref, R.bind_ok, R.bind_bad, truth, intOf, callG, hdS, argsS, argS, putOuts, setOwn, outs, isOwn, cmpD, e1, bq, int_eq, io23, idxD, i1, qb, exitB, intB, in_01]
        | _ => simp [B29, f29, Iq.run, ioFit, evB, evS, evE.eq_1, evE.eq_2, evE.eq_3, evE.eq_4, evE.eq_5, evE.eq_6, evE.eq_7, evE.eq_8, evE.eq_9, evE.eq_10, evE.eq_11, evE.eq_12, evE.eq_13, evE.eq_14, evE.eq_15, evE.eq_16, evE.eq_17, evE.eq_18, evE.eq_19, evE.eq_20, evE.eq_21, evE.eq_22, evE.eq_24, evE.eq_25, evE.eq_26, evE.eq_27, evE.eq_28, evE.eq_29, evE.eq_30, evE.eq_31, evE.eq_32, evL, evA, evO, evT, Iq.hd, deref, R.bind_ok, R.bind_bad, truth, intOf, callG, hdS, argsS, argS, putOuts, setOwn, outs, isOwn, cmpD, e1, bq, int_eq, io23, idxD, i1, qb, exitB, intB]
    · have z : ¬ (xs.length : Int) + 1 = 2 := by omega
      have f : exitB (.str "exit" :: xs) = false := by
        unfold exitB
        split
        · rename_i e; injection e with _ e; subst e; simp at hl
        · rfl
      simp [B29, f29, Iq.run, ioFit, evB, evS, evE.eq_1, evE.eq_2, evE.eq_3, evE.eq_4, evE.eq_5, evE.eq_6, evE.eq_7, evE.eq_8, evE.eq_9, evE.eq_10, evE.eq_11, evE.eq_12, evE.eq_13, evE.eq_14, evE.eq_15, evE.eq_16, evE.eq_17, evE.eq_18, evE.eq_19, evE.eq_20, evE.eq_21, evE.eq_22, evE.eq_24, evE.eq_25, evE.eq_26, evE.eq_27, evE.eq_28, evE.eq_29, evE.eq_30, evE.eq_31, evE.eq_32, evL, evA, evO, evT, Iq.hd, deref, R.bind_ok, R.bind_bad, truth, intOf, callG, hdS, argsS, argS, putOuts, setOwn, outs, isOwn, cmpD, e1, int_eq, bq, z, f]
  · have e1 : eqD (.str w) (.str "exit") = .ok false := by rw [str_eq (h.tup.1 (.str w) (by simp)).str.2 ok_exit, bq]; simp [hw]
    simp [B29, f29, Iq.run, ioFit, evB, evS, evE.eq_1, evE.eq_2, evE.eq_3, evE.eq_4, evE.eq_5, evE.eq_6, evE.eq_7, evE.eq_8, evE.eq_9, evE.eq_10, evE.eq_11, evE.eq_12, evE.eq_13, evE.eq_14, evE.eq_15, evE.eq_16, evE.eq_17, evE.eq_18, evE.eq_19, evE.eq_20, evE.eq_21, evE.eq_22, evE.eq_24, evE.eq_25, evE.eq_26, evE.eq_27, evE.eq_28, evE.eq_29, evE.eq_30, evE.eq_31, evE.eq_32, evL, evA, evO, evT, Iq.hd, deref, R.bind_ok, R.bind_bad, truth, intOf, callG, hdS, argsS, argS, putOuts, setOwn, outs, isOwn, cmpD, e1, hw]
theorem act_one {s : Str} : actW s [.str s] = false := by
  simp only [actW, goB, forkB, waitB, pollB, slotB, exitB, ite_self]
theorem c29 (n : Nat) {d : D} (h : G d) : (Pn (n + 7)).fn 29 [.shr d] = .ok (.bl (actB d), false, []) := by
  rw [fn29]
  show Iq.run (Pn (n + 6)) f29 [.shr d] = _
  cases d with
  | fn _ => exact h.fn.elim
  | dic _ => exact h.dic.elim
  | tup xs =>
    match xs, h with
    | [], h => simp [f29, Iq.run, ioFit, evB, evS, evE.eq_1, evE.eq_2, evE.eq_3, evE.eq_4, evE.eq_5, evE.eq_6, evE.eq_7, evE.eq_8, evE.eq_9, evE.eq_10, evE.eq_11, evE.eq_12, evE.eq_13, evE.eq_14, evE.eq_15, evE.eq_16, evE.eq_17, evE.eq_18, evE.eq_19, evE.eq_20, evE.eq_21, evE.eq_22, evE.eq_24, evE.eq_25, evE.eq_26, evE.eq_27, evE.eq_28, evE.eq_29, evE.eq_30, evE.eq_31, evE.eq_32, evL, evA, evO, evT, Iq.hd, deref, R.bind_ok, R.bind_bad, truth, intOf, callG, hdS, argsS, argS, putOuts, setOwn, outs, isOwn, isTys, isTy, ty_beq, biD, cmpD, ltD, actB]
    | [x], h =>
      have f : actB (.tup [x]) = false := by
        cases x <;> first | exact act_one | rfl
      simp [f29, Iq.run, ioFit, evB, evS, evE.eq_1, evE.eq_2, evE.eq_3, evE.eq_4, evE.eq_5, evE.eq_6, evE.eq_7, evE.eq_8, evE.eq_9, evE.eq_10, evE.eq_11, evE.eq_12, evE.eq_13, evE.eq_14, evE.eq_15, evE.eq_16, evE.eq_17, evE.eq_18, evE.eq_19, evE.eq_20, evE.eq_21, evE.eq_22, evE.eq_24, evE.eq_25, evE.eq_26, evE.eq_27, evE.eq_28, evE.eq_29, evE.eq_30, evE.eq_31, evE.eq_32, evL, evA, evO, evT, Iq.hd, deref, R.bind_ok, R.bind_bad, truth, intOf, callG, hdS, argsS, argS, putOuts, setOwn, outs, isOwn, isTys, isTy, ty_beq, biD, cmpD, ltD, f]
    | x :: y :: xs, h =>
      have z : ¬ (xs.length : Int) + 1 + 1 < 2 := by omega
      have gx := h.tup.1 x (by simp)
      cases x with
      | fn _ => exact gx.fn.elim
      | dic _ => exact gx.dic.elim
      | str s =>
        refine run_rt (ς' := S29 s (y :: xs) .no) ⟨rfl, by decide, by decide, rfl⟩ rfl ?_
        show evB (Pn (n + 6)) [B29 0, B29 1, B29 2, B29 3, B29 4, B29 5, B29 6] [.shr (.tup (.str s :: y :: xs)), .no, .no, .no] = .ok (.rt (.bl (actW s (.str s :: y :: xs))) false, S29 s (y :: xs) .no)
        refine ev_nx (v_0 _ (by simp)) (ev_nx (v_1 _) ?_)
        have ss := gx.str.2
        by_cases a1 : s = "go"
        · subst a1
          exact ev_rt (u_2 n h)
        refine ev_nx (v_2 _ ss a1) ?_
        by_cases a2 : s = "fork"
        · subst a2
          exact ev_rt (u_3 n h)
        refine ev_nx (v_3 _ ss a2) ?_
        by_cases a3 : s = "wait"
        · subst a3
          exact ev_rt (u_4a n h)
        by_cases a4 : s = "poll"
        · subst a4
          exact ev_rt (u_4b n h)
        refine ev_nx (v_4 _ (by simp [a3, a4])) ?_
        by_cases a5 : s = "kill"
        · subst a5
          exact ev_rt (u_5 n (by simp) h)
        by_cases a6 : s = "release"
        · subst a6
          exact ev_rt (u_5 n (by simp) h)
        refine ev_nx (v_5 _ (by simp [a5, a6])) (ev_rt ?_)
        rw [u_6 n h]
        simp only [actW, a1, a2, a3, a4, a5, a6, if_false]
        by_cases a7 : s = "exit" <;> simp [a7]
      | _ => simp [f29, Iq.run, ioFit, evB, evS, evE.eq_1, evE.eq_2, evE.eq_3, evE.eq_4, evE.eq_5, evE.eq_6, evE.eq_7, evE.eq_8, evE.eq_9, evE.eq_10, evE.eq_11, evE.eq_12, evE.eq_13, evE.eq_14, evE.eq_15, evE.eq_16, evE.eq_17, evE.eq_18, evE.eq_19, evE.eq_20, evE.eq_21, evE.eq_22, evE.eq_24, evE.eq_25, evE.eq_26, evE.eq_27, evE.eq_28, evE.eq_29, evE.eq_30, evE.eq_31, evE.eq_32, evL, evA, evO, evT, Iq.hd, deref, R.bind_ok, R.bind_bad, truth, intOf, callG, hdS, argsS, argS, putOuts, setOwn, outs, isOwn, isTys, isTy, ty_beq, biD, cmpD, ltD, z, idxD, at0, actB]
  | _ => simp [f29, Iq.run, ioFit, evB, evS, evE.eq_1, evE.eq_2, evE.eq_3, evE.eq_4, evE.eq_5, evE.eq_6, evE.eq_7, evE.eq_8, evE.eq_9, evE.eq_10, evE.eq_11, evE.eq_12, evE.eq_13, evE.eq_14, evE.eq_15, evE.eq_16, evE.eq_17, evE.eq_18, evE.eq_19, evE.eq_20, evE.eq_21, evE.eq_22, evE.eq_24, evE.eq_25, evE.eq_26, evE.eq_27, evE.eq_28, evE.eq_29, evE.eq_30, evE.eq_31, evE.eq_32, evL, evA, evO, evT, Iq.hd, deref, R.bind_ok, R.bind_bad, truth, intOf, callG, hdS, argsS, argS, putOuts, setOwn, outs, isOwn, isTys, isTy, ty_beq, actB]
end Q
set_option Elab.async false
set_option linter.all false
set_option maxRecDepth 100000
set_option maxHeartbeats 4000000
namespace Q
open PySem L2 Iq
theorem kind_shape {d : D} (h : shapeB d = false) : kindB d = false := by
  unfold kindB
  split
  · simp only [shapeB] at h
    simp [h]
  · rfl
theorem c30 (n : Nat) {d : D} (h : G d) : (Pn (n + 8)).fn 30 [.shr d] = .ok (.bl (kindB d), false, []) := by
  rw [fn30]
  cases d with
  | fn _ => exact h.fn.elim
  | dic _ => exact h.dic.elim
  | tup xs =>
    by_cases hl : xs.length = 3
    · match xs, hl with
      | [a, b, c], _ =>
        have qa := c25 (n + 6) (h.tup.1 a (by simp))
        have qb := c26 (n + 5) (h.tup.1 b (by simp))
        have gc := h.tup.1 c (by simp)
        obtain ⟨i0, i1, i2⟩ := ixs3 (a := a) (b := b) (c := c)
        cases za : nameB a with
        | false =>
          have f : kindB (.tup [a, b, c]) = false := kind_shape (by
            unfold shapeB; split
            · rename_i e; injection e with e; injection e with e1 e; subst e1; simp [za]
            · rfl)
          simp [f30, pack, Iq.run, ioFit, evB, evS, evE.eq_1, evE.eq_2, evE.eq_3, evE.eq_4, evE.eq_5, evE.eq_6, evE.eq_7, evE.eq_8, evE.eq_9, evE.eq_10, evE.eq_11, evE.eq_12, evE.eq_13, evE.eq_14, evE.eq_15, evE.eq_16, evE.eq_17, evE.eq_18, evE.eq_19, evE.eq_20, evE.eq_21, evE.eq_22, evE.eq_24, evE.eq_25, evE.eq_26, evE.eq_27, evE.eq_28, evE.eq_29, evE.eq_30, evE.eq_31, evE.eq_32, evL, evA, evO, evT, Iq.hd, deref, R.bind_ok, R.bind_bad, truth, intOf, callG, hdS, argsS, argS, putOuts, setOwn, outs, isOwn, isTys, isTy, ty_beq, biD, cmpD, notR, int_eq, bq, io25, idxD, i0, qa, za, f]
        | true =>
          cases zb : namesB b with
          | false =>
            have f : kindB (.tup [a, b, c]) = false := kind_shape (by
              unfold shapeB; split
              · rename_i e; injection e with e; injection e with e1 e; injection e with e2 e; subst e2; simp [zb]
              · rfl)
            simp [f30, pack, Iq.run, ioFit, evB, evS, evE.eq_1, evE.eq_2, evE.eq_3, evE.eq_4, evE.eq_5, evE.eq_6, evE.eq_7, evE.eq_8, evE.eq_9, evE.eq_10, evE.eq_11, evE.eq_12, evE.eq_13, evE.eq_14, evE.eq_15, evE.eq_16, evE.eq_17, evE.eq_18, evE.eq_19, evE.eq_20, evE.eq_21, evE.eq_22, evE.eq_24, evE.eq_25, evE.eq_26, evE.eq_27, evE.eq_28, evE.eq_29, evE.eq_30, evE.eq_31, evE.eq_32, evL, evA, evO, evT, Iq.hd, deref, R.bind_ok, R.bind_bad, truth, intOf, callG, hdS, argsS, argS, putOuts, setOwn, outs, isOwn, isTys, isTy, ty_beq, biD, cmpD, notR, int_eq, bq, io25, io26, idxD, i0, i1, qa, qb, za, zb, f]
          | true =>
            cases c with
            | fn _ => exact gc.fn.elim
            | dic _ => exact gc.dic.elim
            | tup ys =>
              have en := eq_nilT gc (by decide)
              cases ys with
              | nil => simp [f30, pack, Iq.run, ioFit, evB, evS, evE.eq_1, evE.eq_2, evE.eq_3, evE.eq_4, evE.eq_5, evE.eq_6, evE.eq_7, evE.eq_8, evE.eq_9, evE.eq_10, evE.eq_11, evE.eq_12, evE.eq_13, evE.eq_14, evE.eq_15, evE.eq_16, evE.eq_17, evE.eq_18, evE.eq_19, evE.eq_20, evE.eq_21, evE.eq_22, evE.eq_24, evE.eq_25, evE.eq_26, evE.eq_27, evE.eq_28, evE.eq_29, evE.eq_30, evE.eq_31, evE.eq_32, evL, evA, evO, evT, Iq.hd, deref, R.bind_ok, R.bind_bad, truth, intOf, callG, hdS, argsS, argS, putOuts, setOwn, outs, isOwn, isTys, isTy, ty_beq, biD, cmpD, notR, int_eq, bq, io25, io26, idxD, i0, i1, i2, qa, qb, za, zb, en, nilT, kindB]
              | cons y ys =>
                obtain ⟨fl, co, ef⟩ := none_of (P := Pn (n + 7)) (i := 1) (src := .idx (.var 0) (.con (.int 2))) (c := .nt (.at (.call 29 [.var 1]))) (ς := [.shr (.tup [a, b, .tup (y :: ys)]), .no]) (d0 := .tup (y :: ys)) (fr0 := false) (xs := y :: ys) actB (by simp [Iq.run, ioFit, evB, evS, evE.eq_1, evE.eq_2, evE.eq_3, evE.eq_4, evE.eq_5, evE.eq_6, evE.eq_7, evE.eq_8, evE.eq_9, evE.eq_10, evE.eq_11, evE.eq_12, evE.eq_13, evE.eq_14, evE.eq_15, evE.eq_16, evE.eq_17, evE.eq_18, evE.eq_19, evE.eq_20, evE.eq_21, evE.eq_22, evE.eq_24, evE.eq_25, evE.eq_26, evE.eq_27, evE.eq_28, evE.eq_29, evE.eq_30, evE.eq_31, evE.eq_32, evL, evA, evO, evT, Iq.hd, deref, R.bind_ok, R.bind_bad, truth, intOf, callG, hdS, argsS, argS, putOuts, setOwn, outs, isOwn, idxD, i2]) rfl (by simp) rfl gc.tup.1 gc.tup.2
                  (fun x hx => by
                    have := c29 n (gc.tup.1 x hx)
                    simp [Iq.run, ioFit, evB, evS, evE.eq_1, evE.eq_2, evE.eq_3, evE.eq_4, evE.eq_5, evE.eq_6, evE.eq_7, evE.eq_8, evE.eq_9, evE.eq_10, evE.eq_11, evE.eq_12, evE.eq_13, evE.eq_14, evE.eq_15, evE.eq_16, evE.eq_17, evE.eq_18, evE.eq_19, evE.eq_20, evE.eq_21, evE.eq_22, evE.eq_24, evE.eq_25, evE.eq_26, evE.eq_27, evE.eq_28, evE.eq_29, evE.eq_30, evE.eq_31, evE.eq_32, evL, evA, evO, evT, Iq.hd, deref, R.bind_ok, R.bind_bad, truth, intOf, callG, hdS, argsS, argS, putOuts, setOwn, outs, isOwn, io29, this])
                have f : kindB (.tup [a, b, .tup (y :: ys)]) = (y :: ys).all actB := by simp only [kindB, za, zb, Bool.and_self, Bool.true_and]
                rw [f]
                simp [f30, pack, Iq.run, ioFit, evB, evS, evE.eq_1, evE.eq_2, evE.eq_3, evE.eq_4, evE.eq_5, evE.eq_6, evE.eq_7, evE.eq_8, evE.eq_9, evE.eq_10, evE.eq_11, evE.eq_12, evE.eq_13, evE.eq_14, evE.eq_15, evE.eq_16, evE.eq_17, evE.eq_18, evE.eq_19, evE.eq_20, evE.eq_21, evE.eq_22, evE.eq_24, evE.eq_25, evE.eq_26, evE.eq_27, evE.eq_28, evE.eq_29, evE.eq_30, evE.eq_31, evE.eq_32, evL, evA, evO, evT, Iq.hd, deref, R.bind_ok, R.bind_bad, truth, intOf, callG, hdS, argsS, argS, putOuts, setOwn, outs, isOwn, isTys, isTy, ty_beq, biD, cmpD, notR, int_eq, bq, io25, io26, idxD, i0, i1, i2, qa, qb, za, zb, en, nilT, co, ef]
            | _ => simp [f30, pack, Iq.run, ioFit, evB, evS, evE.eq_1, evE.eq_2, evE.eq_3, evE.eq_4, evE.eq_5, evE.eq_6, evE.eq_7, evE.eq_8, evE.eq_9, evE.eq_10, evE.eq_11, evE.eq_12, evE.eq_13, evE.eq_14, evE.eq_15, evE.eq_16, evE.eq_17, evE.eq_18, evE.eq_19, evE.eq_20, evE.eq_21, evE.eq_22, evE.eq_24, evE.eq_25, evE.eq_26, evE.eq_27, evE.eq_28, evE.eq_29, evE.eq_30, evE.eq_31, evE.eq_32, evL, evA, evO, evT, Iq.hd, deref, R.bind_ok, R.bind_bad, truth, intOf, callG, hdS, argsS, argS, putOuts, setOwn, outs, isOwn, isTys, isTy, ty_beq, biD, cmpD, notR, int_eq, bq, io25, io26, idxD, i0, i1, i2, qa, qb, za, zb, kindB]
    · have z : ¬ (xs.length : Int) = 3 := by omega
      have f : kindB (.tup xs) = false := by
        unfold kindB
        split
        · rename_i e; injection e with e; subst e; simp at hl
        · rfl
      simp [f30, pack, Iq.run, ioFit, evB, evS, evE.eq_1, evE.eq_2, evE.eq_3, evE.eq_4, evE.eq_5, evE.eq_6, evE.eq_7, evE.eq_8, evE.eq_9, evE.eq_10, evE.eq_11, evE.eq_12, evE.eq_13, evE.eq_14, evE.eq_15, evE.eq_16, evE.eq_17, evE.eq_18, evE.eq_19, evE.eq_20, evE.eq_21, evE.eq_22, evE.eq_24, evE.eq_25, evE.eq_26, evE.eq_27, evE.eq_28, evE.eq_29, evE.eq_30, evE.eq_31, evE.eq_32, evL, evA, evO, evT, Iq.hd, deref, R.bind_ok, R.bind_bad, truth, intOf, callG, hdS, argsS, argS, putOuts, setOwn, outs, isOwn, isTys, isTy, ty_beq, biD, cmpD, notR, int_eq, bq, z, f]
  | _ => simp [f30, pack, Iq.run, ioFit, evB, evS, evE.eq_1, evE.eq_2, evE.eq_3, evE.eq_4, evE.eq_5, evE.eq_6, evE.eq_7, evE.eq_8, evE.eq_9, evE.eq_10, evE.eq_11, evE.eq_12, evE.eq_13, evE.eq_14, evE.eq_15, evE.eq_16, evE.eq_17, evE.eq_18, evE.eq_19, evE.eq_20, evE.eq_21, evE.eq_22, evE.eq_24, evE.eq_25, evE.eq_26, evE.eq_27, evE.eq_28, evE.eq_29, evE.eq_30, evE.eq_31, evE.eq_32, evL, evA, evO, evT, Iq.hd, deref, R.bind_ok, R.bind_bad, truth, intOf, callG, hdS, argsS, argS, putOuts, setOwn, outs, isOwn, isTys, isTy, ty_beq, kindB]
theorem in_six {w : Str} : inD (.str w) (.tup [.str "fork", .str "none", .str "later", .str "kill", .str "release", .str "exit"]) = .ok (decide (w ∈ (["fork", "none", "later", "kill", "release", "exit"] : List Str))) := in_strs ["fork", "none", "later", "kill", "release", "exit"]
theorem c31 (n : Nat) {d : D} (h : G d) : (Pn (n + 4)).fn 31 [.shr d] = .ok (.bl (stepB d), false, []) := by
  rw [fn31]
  cases d with
  | fn _ => exact h.fn.elim
  | dic _ => exact h.dic.elim
  | tup xs =>
    by_cases hl : xs.length = 3
    · match xs, hl with
      | [a, b, c], _ =>
        have qa := c24 (n + 1) (h.tup.1 a (by simp))
        have gb := h.tup.1 b (by simp)
        have gc := h.tup.1 c (by simp)
        obtain ⟨i0, i1, i2⟩ := ixs3 (a := a) (b := b) (c := c)
        cases za : numB a with
        | false =>
          have f : stepB (.tup [a, b, c]) = false := by
            unfold stepB
            split
            · rename_i e; injection e with e; injection e with e1 e; subst e1; simp [za]
            · rfl
          simp [f31, pack, Iq.run, ioFit, evB, evS, evE.eq_1, evE.eq_2, evE.eq_3, evE.eq_4, evE.eq_5, evE.eq_6, evE.eq_7, evE.eq_8, evE.eq_9, evE.eq_10, evE.eq_11, evE.eq_12, evE.eq_13, evE.eq_14, evE.eq_15, evE.eq_16, evE.eq_17, evE.eq_18, evE.eq_19, evE.eq_20, evE.eq_21, evE.eq_22, evE.eq_24, evE.eq_25, evE.eq_26, evE.eq_27, evE.eq_28, evE.eq_29, evE.eq_30, evE.eq_31, evE.eq_32, evL, evA, evO, evT, Iq.hd, deref, R.bind_ok, R.bind_bad, truth, intOf, callG, hdS, argsS, argS, putOuts, setOwn, outs, isOwn, isTys, isTy, ty_beq, biD, cmpD, notR, int_eq, bq, io24, idxD, i0, qa, za, f]
        | true =>
          cases b with
          | fn _ => exact gb.fn.elim
          | dic _ => exact gb.dic.elim
          | str w =>
            have s2 := in_two (s := w) (a := "go") (b := "take")
            have s6 := in_six (w := w)
            have q1 := c24 (n + 1) gc
            have q0 := c23 (n + 2) gc
            by_cases m2 : w = "go" ∨ w = "take"
            · rw [decide_eq_true m2] at s2
              simp only [stepB, if_pos m2, za, Bool.true_and]
              simp [f31, pack, Iq.run, ioFit, evB, evS, evE.eq_1, evE.eq_2, evE.eq_3, evE.eq_4, evE.eq_5, evE.eq_6, evE.eq_7, evE.eq_8, evE.eq_9, evE.eq_10, evE.eq_11, evE.eq_12, evE.eq_13, evE.eq_14, evE.eq_15, evE.eq_16, evE.eq_17, evE.eq_18, evE.eq_19, evE.eq_20, evE.eq_21, evE.eq_22, evE.eq_24, evE.eq_25, evE.eq_26, evE.eq_27, evE.eq_28, evE.eq_29, evE.eq_30, evE.eq_31, evE.eq_32, evL, evA, evO, evT, Iq.hd, deref, R.bind_ok, R.bind_bad, truth, intOf, callG, hdS, argsS, argS, putOuts, setOwn, outs, isOwn, isTys, isTy, ty_beq, biD, cmpD, notR, int_eq, bq, io24, idxD, i0, i1, i2, qa, za, s2, q1]
            · rw [decide_eq_false m2] at s2
              have mm : decide (w ∈ (["go", "fork", "take", "none", "later", "kill", "release", "exit"] : List Str)) = decide (w ∈ (["fork", "none", "later", "kill", "release", "exit"] : List Str)) := by
                have m3 : w ≠ "go" ∧ w ≠ "take" := ⟨fun e => m2 (.inl e), fun e => m2 (.inr e)⟩
                rw [Bool.eq_iff_iff]
                simp [m3.1, m3.2]
              simp only [stepB, if_neg m2, za, Bool.true_and, mm]
              cases m1 : decide (w ∈ (["fork", "none", "later", "kill", "release", "exit"] : List Str)) <;> rw [m1] at s6
              · simp [f31, pack, Iq.run, ioFit, evB, evS, evE.eq_1, evE.eq_2, evE.eq_3, evE.eq_4, evE.eq_5, evE.eq_6, evE.eq_7, evE.eq_8, evE.eq_9, evE.eq_10, evE.eq_11, evE.eq_12, evE.eq_13, evE.eq_14, evE.eq_15, evE.eq_16, evE.eq_17, evE.eq_18, evE.eq_19, evE.eq_20, evE.eq_21, evE.eq_22, evE.eq_24, evE.eq_25, evE.eq_26, evE.eq_27, evE.eq_28, evE.eq_29, evE.eq_30, evE.eq_31, evE.eq_32, evL, evA, evO, evT, Iq.hd, deref, R.bind_ok, R.bind_bad, truth, intOf, callG, hdS, argsS, argS, putOuts, setOwn, outs, isOwn, isTys, isTy, ty_beq, biD, cmpD, notR, int_eq, bq, io24, idxD, i0, i1, i2, qa, za, s2, s6]
              · cases c <;> simp [f31, pack, Iq.run, ioFit, evB, evS, evE.eq_1, evE.eq_2, evE.eq_3, evE.eq_4, evE.eq_5, evE.eq_6, evE.eq_7, evE.eq_8, evE.eq_9, evE.eq_10, evE.eq_11, evE.eq_12, evE.eq_13, evE.eq_14, evE.eq_15, evE.eq_16, evE.eq_17, evE.eq_18, evE.eq_19, evE.eq_20, evE.eq_21, evE.eq_22, evE.eq_24, evE.eq_25, evE.eq_26, evE.eq_27, evE.eq_28, evE.eq_29, evE.eq_30, evE.eq_31, evE.eq_32, evL, evA, evO, evT, Iq.hd, deref, R.bind_ok, R.bind_bad, truth, intOf, callG, hdS, argsS, argS, putOuts, setOwn, outs, isOwn, isTys, isTy, ty_beq, biD, cmpD, notR, int_eq, bq, io24, io23, idxD, i0, i1, i2, qa, za, s2, s6, q0, intB, m1B]
          | _ => simp [f31, pack, Iq.run, ioFit, evB, evS, evE.eq_1, evE.eq_2, evE.eq_3, evE.eq_4, evE.eq_5, evE.eq_6, evE.eq_7, evE.eq_8, evE.eq_9, evE.eq_10, evE.eq_11, evE.eq_12, evE.eq_13, evE.eq_14, evE.eq_15, evE.eq_16, evE.eq_17, evE.eq_18, evE.eq_19, evE.eq_20, evE.eq_21, evE.eq_22, evE.eq_24, evE.eq_25, evE.eq_26, evE.eq_27, evE.eq_28, evE.eq_29, evE.eq_30, evE.eq_31, evE.eq_32, evL, evA, evO, evT, Iq.hd, deref, R.bind_ok, R.bind_bad, truth, intOf, callG, hdS, argsS, argS, putOuts, setOwn, outs, isOwn, isTys, isTy, ty_beq, biD, cmpD, notR, int_eq, bq, io24, idxD, i0, i1, qa, za, stepB]
    · have z : ¬ (xs.length : Int) = 3 := by omega
      have f : stepB (.tup xs) = false := by
        unfold stepB
        split
        · rename_i e; injection e with e; subst e; simp at hl
        · rfl
      simp [f31, pack, Iq.run, ioFit, evB, evS, evE.eq_1, evE.eq_2, evE.eq_3, evE.eq_4, evE.eq_5, evE.eq_6, evE.eq_7, evE.eq_8, evE.eq_9, evE.eq_10, evE.eq_11, evE.eq_12, evE.eq_13, evE.eq_14, evE.eq_15, evE.eq_16, evE.eq_17, evE.eq_18, evE.eq_19, evE.eq_20, evE.eq_21, evE.eq_22, evE.eq_24, evE.eq_25, evE.eq_26, evE.eq_27, evE.eq_28, evE.eq_29, evE.eq_30, evE.eq_31, evE.eq_32, evL, evA, evO, evT, Iq.hd, deref, R.bind_ok, R.bind_bad, truth, intOf, callG, hdS, argsS, argS, putOuts, setOwn, outs, isOwn, isTys, isTy, ty_beq, biD, cmpD, notR, int_eq, bq, z, f]
  | _ => simp [f31, pack, Iq.run, ioFit, evB, evS, evE.eq_1, evE.eq_2, evE.eq_3, evE.eq_4, evE.eq_5, evE.eq_6, evE.eq_7, evE.eq_8, evE.eq_9, evE.eq_10, evE.eq_11, evE.eq_12, evE.eq_13, evE.eq_14, evE.eq_15, evE.eq_16, evE.eq_17, evE.eq_18, evE.eq_19, evE.eq_20, evE.eq_21, evE.eq_22, evE.eq_24, evE.eq_25, evE.eq_26, evE.eq_27, evE.eq_28, evE.eq_29, evE.eq_30, evE.eq_31, evE.eq_32, evL, evA, evO, evT, Iq.hd, deref, R.bind_ok, R.bind_bad, truth, intOf, callG, hdS, argsS, argS, putOuts, setOwn, outs, isOwn, isTys, isTy, ty_beq, stepB]
theorem in_ints {i : Int} : ∀ js : List Int, inD (.int i) (.tup (js.map .int)) = .ok (decide (i ∈ js)) := fun js => by
  have e : ∀ j : Int, L2.eqV (.int j) (.int i) = decide (j = i) := fun j => bq j i
  have fl : ∀ js : List Int, flats (js.map D.int) = some (js.map V.int) := fun js => by
    induction js with
    | nil => rfl
    | cons j js ih => simp only [List.map_cons, flats, flat, ih]
  simp only [inD, inSeq, flat, fl, inV]
  congr 1
  induction js with
  | nil => rfl
  | cons j js ih =>
    rw [List.map_cons, List.any_cons, ih, e, Bool.eq_iff_iff]
    simp only [Bool.or_eq_true, decide_eq_true_eq, List.mem_cons]
    exact or_congr eq_comm Iff.rfl
theorem c32 (n : Nat) {d : D} (h : G d) : (Pn (n + 3)).fn 32 [.shr d] = .ok (.bl (contB d), false, []) := by
  rw [fn32]
  cases d with
  | fn _ => exact h.fn.elim
  | dic _ => exact h.dic.elim
  | tup xs =>
    have en := eq_nilT h (by decide)
    have il := in_ints (i := xs.length) [0, 2]
    simp only [List.map_cons, List.map_nil] at il
    match xs, h with
    | [], h =>
      have il : inD (.int 0) (.tup [.int 0, .int 2]) = .ok true := il
      simp [f32, pack, Iq.run, ioFit, evB, evS, evE.eq_1, evE.eq_2, evE.eq_3, evE.eq_4, evE.eq_5, evE.eq_6, evE.eq_7, evE.eq_8, evE.eq_9, evE.eq_10, evE.eq_11, evE.eq_12, evE.eq_13, evE.eq_14, evE.eq_15, evE.eq_16, evE.eq_17, evE.eq_18, evE.eq_19, evE.eq_20, evE.eq_21, evE.eq_22, evE.eq_24, evE.eq_25, evE.eq_26, evE.eq_27, evE.eq_28, evE.eq_29, evE.eq_30, evE.eq_31, evE.eq_32, evL, evA, evO, evT, Iq.hd, deref, R.bind_ok, R.bind_bad, truth, intOf, callG, hdS, argsS, argS, putOuts, setOwn, outs, isOwn, isTys, isTy, ty_beq, biD, cmpD, notR, il, en, nilT, contB]
    | [a], h =>
      have il : inD (.int 1) (.tup [.int 0, .int 2]) = .ok false := il
      simp [f32, pack, Iq.run, ioFit, evB, evS, evE.eq_1, evE.eq_2, evE.eq_3, evE.eq_4, evE.eq_5, evE.eq_6, evE.eq_7, evE.eq_8, evE.eq_9, evE.eq_10, evE.eq_11, evE.eq_12, evE.eq_13, evE.eq_14, evE.eq_15, evE.eq_16, evE.eq_17, evE.eq_18, evE.eq_19, evE.eq_20, evE.eq_21, evE.eq_22, evE.eq_24, evE.eq_25, evE.eq_26, evE.eq_27, evE.eq_28, evE.eq_29, evE.eq_30, evE.eq_31, evE.eq_32, evL, evA, evO, evT, Iq.hd, deref, R.bind_ok, R.bind_bad, truth, intOf, callG, hdS, argsS, argS, putOuts, setOwn, outs, isOwn, isTys, isTy, ty_beq, biD, cmpD, notR, il, contB]
    | [a, b], h =>
      have il2 : inD (.int 2) (.tup [.int 0, .int 2]) = .ok true := il
      have qa := c24 n (h.tup.1 a (by simp))
      have gb := h.tup.1 b (by simp)
      have qb := c23 (n + 1) gb
      obtain ⟨i0, i1⟩ := ixs2 (a := a) (b := b)
      cases za : numB a with
      | false =>
        have f : contB (.tup [a, b]) = false := by
          cases b <;> simp [contB, za]
        simp [f32, pack, Iq.run, ioFit, evB, evS, evE.eq_1, evE.eq_2, evE.eq_3, evE.eq_4, evE.eq_5, evE.eq_6, evE.eq_7, evE.eq_8, evE.eq_9, evE.eq_10, evE.eq_11, evE.eq_12, evE.eq_13, evE.eq_14, evE.eq_15, evE.eq_16, evE.eq_17, evE.eq_18, evE.eq_19, evE.eq_20, evE.eq_21, evE.eq_22, evE.eq_24, evE.eq_25, evE.eq_26, evE.eq_27, evE.eq_28, evE.eq_29, evE.eq_30, evE.eq_31, evE.eq_32, evL, evA, evO, evT, Iq.hd, deref, R.bind_ok, R.bind_bad, truth, intOf, callG, hdS, argsS, argS, putOuts, setOwn, outs, isOwn, isTys, isTy, ty_beq, biD, cmpD, notR, il2, en, nilT, io24, idxD, i0, qa, za, f]
      | true =>
        cases b with
        | fn _ => exact gb.fn.elim
        | dic _ => exact gb.dic.elim
        | int i =>
          have i4 := in_ints (i := i) [-1, 0, 1, 2]
          simp only [List.map_cons, List.map_nil] at i4
          have f : contB (.tup [a, .int i]) = decide (i ∈ ([-1, 0, 1, 2] : List Int)) := by
            simp only [contB, za, Bool.true_and]
            rw [Bool.eq_iff_iff]
            simp only [Bool.and_eq_true, decide_eq_true_eq, List.mem_cons, List.not_mem_nil, or_false]
            omega
          rw [f]
          cases z : decide (i ∈ ([-1, 0, 1, 2] : List Int)) <;> rw [z] at i4 <;> simp [f32, pack, Iq.run, ioFit, evB, evS, evE.eq_1, evE.eq_2, evE.eq_3, evE.eq_4, evE.eq_5, evE.eq_6, evE.eq_7, evE.eq_8, evE.eq_9, evE.eq_10, evE.eq_11, evE.eq_12, evE.eq_13, evE.eq_14, evE.eq_15, evE.eq_16, evE.eq_17, evE.eq_18, evE.eq_19, evE.eq_20, evE.eq_21, evE.eq_22, evE.eq_24, evE.eq_25, evE.eq_26, evE.eq_27, evE.eq_28, evE.eq_29, evE.eq_30, evE.eq_31, evE.eq_32, evL, evA, evO, evT, Iq.hd, deref, R.bind_ok, R.bind_bad, truth, intOf, callG, hdS, argsS, argS, putOuts, setOwn, outs, isOwn, isTys, isTy, ty_beq, biD, cmpD, notR, il2, en, nilT, io24, io23, idxD, i0, i1, qa, qb, za, intB, i4]
        | _ => simp [f32, pack, Iq.run, ioFit, evB, evS, evE.eq_1, evE.eq_2, evE.eq_3, evE.eq_4, evE.eq_5, evE.eq_6, evE.eq_7, evE.eq_8, evE.eq_9, evE.eq_10, evE.eq_11, evE.eq_12, evE.eq_13, evE.eq_14, evE.eq_15, evE.eq_16, evE.eq_17, evE.eq_18, evE.eq_19, evE.eq_20, evE.eq_21, evE.eq_22, evE.eq_24, evE.eq_25, evE.eq_26, evE.eq_27, evE.eq_28, evE.eq_29, evE.eq_30, evE.eq_31, evE.eq_32, evL, evA, evO, evT, Iq.hd, deref, R.bind_ok, R.bind_bad, truth, intOf, callG, hdS, argsS, argS, putOuts, setOwn, outs, isOwn, isTys, isTy, ty_beq, biD, cmpD, notR, il2, en, nilT, io24, io23, idxD, i0, i1, qa, qb, za, intB, contB]
    | a :: b :: c :: r, h =>
      have il : inD (.int ((r.length : Int) + 1 + 1 + 1)) (.tup [.int 0, .int 2]) = .ok false := by
        have e : decide ((((a :: b :: c :: r).length : Nat) : Int) ∈ ([0, 2] : List Int)) = false := by
          rw [decide_eq_false_iff_not]
          simp
          omega
        rw [e] at il
        simpa using il
      simp [f32, pack, Iq.run, ioFit, evB, evS, evE.eq_1, evE.eq_2, evE.eq_3, evE.eq_4, evE.eq_5, evE.eq_6, evE.eq_7, evE.eq_8, evE.eq_9, evE.eq_10, evE.eq_11, evE.eq_12, evE.eq_13, evE.eq_14, evE.eq_15, evE.eq_16, evE.eq_17, evE.eq_18, evE.eq_19, evE.eq_20, evE.eq_21, evE.eq_22, evE.eq_24, evE.eq_25, evE.eq_26, evE.eq_27, evE.eq_28, evE.eq_29, evE.eq_30, evE.eq_31, evE.eq_32, evL, evA, evO, evT, Iq.hd, deref, R.bind_ok, R.bind_bad, truth, intOf, callG, hdS, argsS, argS, putOuts, setOwn, outs, isOwn, isTys, isTy, ty_beq, biD, cmpD, notR, il, contB]
  | _ => simp [f32, pack, Iq.run, ioFit, evB, evS, evE.eq_1, evE.eq_2, evE.eq_3, evE.eq_4, evE.eq_5, evE.eq_6, evE.eq_7, evE.eq_8, evE.eq_9, evE.eq_10, evE.eq_11, evE.eq_12, evE.eq_13, evE.eq_14, evE.eq_15, evE.eq_16, evE.eq_17, evE.eq_18, evE.eq_19, evE.eq_20, evE.eq_21, evE.eq_22, evE.eq_24, evE.eq_25, evE.eq_26, evE.eq_27, evE.eq_28, evE.eq_29, evE.eq_30, evE.eq_31, evE.eq_32, evL, evA, evO, evT, Iq.hd, deref, R.bind_ok, R.bind_bad, truth, intOf, callG, hdS, argsS, argS, putOuts, setOwn, outs, isOwn, isTys, isTy, ty_beq, contB]
theorem c33 (n : Nat) {d : D} (h : G d) : (Pn (n + 4)).fn 33 [.shr d] = .ok (.bl (stateB d), false, []) := by
  rw [fn33]
  cases d with
  | fn _ => exact h.fn.elim
  | dic _ => exact h.dic.elim
  | tup xs =>
    by_cases hl : xs.length = 2
    · match xs, hl with
      | [a, b], _ =>
        have qa := c24 (n + 1) (h.tup.1 a (by simp))
        have gb := h.tup.1 b (by simp)
        obtain ⟨i0, i1⟩ := ixs2 (a := a) (b := b)
        cases za : numB a with
        | false =>
          have f : stateB (.tup [a, b]) = false := by cases b <;> simp [stateB, za]
          simp [f33, pack, Iq.run, ioFit, evB, evS, evE.eq_1, evE.eq_2, evE.eq_3, evE.eq_4, evE.eq_5, evE.eq_6, evE.eq_7, evE.eq_8, evE.eq_9, evE.eq_10, evE.eq_11, evE.eq_12, evE.eq_13, evE.eq_14, evE.eq_15, evE.eq_16, evE.eq_17, evE.eq_18, evE.eq_19, evE.eq_20, evE.eq_21, evE.eq_22, evE.eq_24, evE.eq_25, evE.eq_26, evE.eq_27, evE.eq_28, evE.eq_29, evE.eq_30, evE.eq_31, evE.eq_32, evL, evA, evO, evT, Iq.hd, deref, R.bind_ok, R.bind_bad, truth, intOf, callG, hdS, argsS, argS, putOuts, setOwn, outs, isOwn, isTys, isTy, ty_beq, biD, cmpD, notR, int_eq, bq, io24, idxD, i0, qa, za, f]
        | true =>
          cases b with
          | fn _ => exact gb.fn.elim
          | dic _ => exact gb.dic.elim
          | tup ys =>
            obtain ⟨fl, co, ef⟩ := none_of (P := Pn (n + 3)) (i := 1) (src := .idx (.var 0) (.con (.int 1))) (c := .nt (.at (.call 32 [.var 1]))) (ς := [.shr (.tup [a, .tup ys]), .no]) (d0 := .tup ys) (fr0 := false) (xs := ys) contB (by simp [Iq.run, ioFit, evB, evS, evE.eq_1, evE.eq_2, evE.eq_3, evE.eq_4, evE.eq_5, evE.eq_6, evE.eq_7, evE.eq_8, evE.eq_9, evE.eq_10, evE.eq_11, evE.eq_12, evE.eq_13, evE.eq_14, evE.eq_15, evE.eq_16, evE.eq_17, evE.eq_18, evE.eq_19, evE.eq_20, evE.eq_21, evE.eq_22, evE.eq_24, evE.eq_25, evE.eq_26, evE.eq_27, evE.eq_28, evE.eq_29, evE.eq_30, evE.eq_31, evE.eq_32, evL, evA, evO, evT, Iq.hd, deref, R.bind_ok, R.bind_bad, truth, intOf, callG, hdS, argsS, argS, putOuts, setOwn, outs, isOwn, idxD, i1]) rfl (by simp) rfl gb.tup.1 gb.tup.2
              (fun x hx => by
                have := c32 n (gb.tup.1 x hx)
                simp [Iq.run, ioFit, evB, evS, evE.eq_1, evE.eq_2, evE.eq_3, evE.eq_4, evE.eq_5, evE.eq_6, evE.eq_7, evE.eq_8, evE.eq_9, evE.eq_10, evE.eq_11, evE.eq_12, evE.eq_13, evE.eq_14, evE.eq_15, evE.eq_16, evE.eq_17, evE.eq_18, evE.eq_19, evE.eq_20, evE.eq_21, evE.eq_22, evE.eq_24, evE.eq_25, evE.eq_26, evE.eq_27, evE.eq_28, evE.eq_29, evE.eq_30, evE.eq_31, evE.eq_32, evL, evA, evO, evT, Iq.hd, deref, R.bind_ok, R.bind_bad, truth, intOf, callG, hdS, argsS, argS, putOuts, setOwn, outs, isOwn, io32, this])
            have f : stateB (.tup [a, .tup ys]) = ys.all contB := by simp only [stateB, za, Bool.true_and]
            rw [f]
            simp [f33, pack, Iq.run, ioFit, evB, evS, evE.eq_1, evE.eq_2, evE.eq_3, evE.eq_4, evE.eq_5, evE.eq_6, evE.eq_7, evE.eq_8, evE.eq_9, evE.eq_10, evE.eq_11, evE.eq_12, evE.eq_13, evE.eq_14, evE.eq_15, evE.eq_16, evE.eq_17, evE.eq_18, evE.eq_19, evE.eq_20, evE.eq_21, evE.eq_22, evE.eq_24, evE.eq_25, evE.eq_26, evE.eq_27, evE.eq_28, evE.eq_29, evE.eq_30, evE.eq_31, evE.eq_32, evL, evA, evO, evT, Iq.hd, deref, R.bind_ok, R.bind_bad, truth, intOf, callG, hdS, argsS, argS, putOuts, setOwn, outs, isOwn, isTys, isTy, ty_beq, biD, cmpD, notR, int_eq, bq, io24, idxD, i0, i1, qa, za, co, ef]
          | _ => simp [f33, pack, Iq.run, ioFit, evB, evS, evE.eq_1, evE.eq_2, evE.eq_3, evE.eq_4, evE.eq_5, evE.eq_6, evE.eq_7, evE.eq_8, evE.eq_9, evE.eq_10, evE.eq_11, evE.eq_12, evE.eq_13, evE.eq_14, evE.eq_15, evE.eq_16, evE.eq_17, evE.eq_18, evE.eq_19, evE.eq_20, evE.eq_21, evE.eq_22, evE.eq_24, evE.eq_25, evE.eq_26, evE.eq_27, evE.eq_28, evE.eq_29, evE.eq_30, evE.eq_31, evE.eq_32, evL, evA, evO, evT, Iq.hd, deref, R.bind_ok, R.bind_bad, truth, intOf, callG, hdS, argsS, argS, putOuts, setOwn, outs, isOwn, isTys, isTy, ty_beq, biD, cmpD, notR, int_eq, bq, io24, idxD, i0, i1, qa, za, stateB]
    · have z : ¬ (xs.length : Int) = 2 := by omega
      have f : stateB (.tup xs) = false := by
        unfold stateB
        split
        · rename_i e; injection e with e; subst e; simp at hl
        · rfl
      simp [f33, pack, Iq.run, ioFit, evB, evS, evE.eq_1, evE.eq_2, evE.eq_3, evE.eq_4, evE.eq_5, evE.eq_6, evE.eq_7, evE.eq_8, evE.eq_9, evE.eq_10, evE.eq_11, evE.eq_12, evE.eq_13, evE.eq_14, evE.eq_15, evE.eq_16, evE.eq_17, evE.eq_18, evE.eq_19, evE.eq_20, evE.eq_21, evE.eq_22, evE.eq_24, evE.eq_25, evE.eq_26, evE.eq_27, evE.eq_28, evE.eq_29, evE.eq_30, evE.eq_31, evE.eq_32, evL, evA, evO, evT, Iq.hd, deref, R.bind_ok, R.bind_bad, truth, intOf, callG, hdS, argsS, argS, putOuts, setOwn, outs, isOwn, isTys, isTy, ty_beq, biD, cmpD, notR, int_eq, bq, z, f]
  | _ => simp [f33, pack, Iq.run, ioFit, evB, evS, evE.eq_1, evE.eq_2, evE.eq_3, evE.eq_4, evE.eq_5, evE.eq_6, evE.eq_7, evE.eq_8, evE.eq_9, evE.eq_10, evE.eq_11, evE.eq_12, evE.eq_13, evE.eq_14, evE.eq_15, evE.eq_16, evE.eq_17, evE.eq_18, evE.eq_19, evE.eq_20, evE.eq_21, evE.eq_22, evE.eq_24, evE.eq_25, evE.eq_26, evE.eq_27, evE.eq_28, evE.eq_29, evE.eq_30, evE.eq_31, evE.eq_32, evL, evA, evO, evT, Iq.hd, deref, R.bind_ok, R.bind_bad, truth, intOf, callG, hdS, argsS, argS, putOuts, setOwn, outs, isOwn, isTys, isTy, ty_beq, stateB]
end Q
set_option Elab.async false
set_option linter.all false
set_option maxRecDepth 100000
set_option maxHeartbeats 4000000
namespace Q
open PySem L2 Iq
theorem rpr8 (b1 b2 b3 b4 b5 b6 b7 b8 : Bool) : ∃ z, rprD (.lst [.bl b1, .bl b2, .bl b3, .bl b4, .bl b5, .bl b6, .bl b7, .bl b8]) = .ok (.str z) ∧ PyData.strOk z = true :=
  rpr_of rfl (by simp [fitD, fitL]) (by simp [szD, szL]) (by simp [dpD, dpL])
abbrev B34 (i : Nat) : Sm := f34.body.getD i .nev
theorem c34 (n : Nat) {d : D} (h : G d) : (Pn (n + 10)).fn 34 [.shr d] = .ok (.bl true, false, []) := by
  rw [fn34]
  show Iq.run (Pn (n + 9)) f34 [.shr d] = _
  have a0 := c0 (n + 8) h
  have a1 := c1 (n + 7) h
  have a2 := c2 (n + 8) h
  have a3 := c4 (n + 7) h
  have a4 := c12 (n + 2) h
  have a5 := c14 (n + 1) h
  have a6 := c15 (n + 5) h
  have a7 := c17 (n + 5) h
  have e0 := c23 (n + 8) h
  have e1 := c24 (n + 7) h
  have e2 := c25 (n + 8) h
  have e3 := c26 (n + 7) h
  have e4 := c29 (n + 2) h
  have e5 := c30 (n + 1) h
  have e6 := c31 (n + 5) h
  have e7 := c33 (n + 5) h
  have sz : ((5 : Nat) + 3 ≤ sizeLine) := Nat.le_trans (by decide) big
  generalize intB d = b0 at a0 e0
  generalize numB d = b1 at a1 e1
  generalize nameB d = b2 at a2 e2
  generalize namesB d = b3 at a3 e3
  generalize actB d = b4 at a4 e4
  generalize kindB d = b5 at a5 e5
  generalize stepB d = b6 at a6 e6
  generalize stateB d = b7 at a7 e7
  obtain ⟨z, r1, r2⟩ := rpr8 b0 b1 b2 b3 b4 b5 b6 b7
  have q0 : evS (Pn (n + 9)) (B34 0) [.shr d, .no, .no] = .ok (.nx, [.shr d, .own false (.lst [.bl b0, .bl b1, .bl b2, .bl b3, .bl b4]), .no]) := by
    simp [B34, f34, Iq.run, ioFit, evB, evS, evE.eq_1, evE.eq_2, evE.eq_3, evE.eq_4, evE.eq_5, evE.eq_6, evE.eq_7, evE.eq_8, evE.eq_9, evE.eq_10, evE.eq_11, evE.eq_12, evE.eq_13, evE.eq_14, evE.eq_15, evE.eq_16, evE.eq_17, evE.eq_18, evE.eq_19, evE.eq_20, evE.eq_21, evE.eq_22, evE.eq_24, evE.eq_25, evE.eq_26, evE.eq_27, evE.eq_28, evE.eq_29, evE.eq_30, evE.eq_31, evE.eq_32, evL, evA, evO, evT, Iq.hd, deref, R.bind_ok, R.bind_bad, truth, intOf, callG, hdS, argsS, argS, putOuts, setOwn, outs, isOwn, io0, io1, io2, io4, io12, a0, a1, a2, a3, a4]
  have q1 : evS (Pn (n + 9)) (B34 1) [.shr d, .own false (.lst [.bl b0, .bl b1, .bl b2, .bl b3, .bl b4]), .no] = .ok (.nx, [.shr d, .own false (.lst [.bl b0, .bl b1, .bl b2, .bl b3, .bl b4, .bl b5, .bl b6, .bl b7]), .no]) := by
    simp [B34, f34, Iq.run, ioFit, evB, evS, evE.eq_1, evE.eq_2, evE.eq_3, evE.eq_4, evE.eq_5, evE.eq_6, evE.eq_7, evE.eq_8, evE.eq_9, evE.eq_10, evE.eq_11, evE.eq_12, evE.eq_13, evE.eq_14, evE.eq_15, evE.eq_16, evE.eq_17, evE.eq_18, evE.eq_19, evE.eq_20, evE.eq_21, evE.eq_22, evE.eq_24, evE.eq_25, evE.eq_26, evE.eq_27, evE.eq_28, evE.eq_29, evE.eq_30, evE.eq_31, evE.eq_32, evL, evA, evO, evT, Iq.hd, deref, R.bind_ok, R.bind_bad, truth, intOf, callG, hdS, argsS, argS, putOuts, setOwn, outs, isOwn, io14, io15, io17, a5, a6, a7, binD, sz]
  have q2 : evS (Pn (n + 9)) (B34 2) [.shr d, .own false (.lst [.bl b0, .bl b1, .bl b2, .bl b3, .bl b4, .bl b5, .bl b6, .bl b7]), .no] = .ok (.nx, [.shr d, .own false (.lst [.bl b0, .bl b1, .bl b2, .bl b3, .bl b4, .bl b5, .bl b6, .bl b7]), .own false (.lst [.bl b0, .bl b1, .bl b2, .bl b3, .bl b4])]) := by
    simp [B34, f34, Iq.run, ioFit, evB, evS, evE.eq_1, evE.eq_2, evE.eq_3, evE.eq_4, evE.eq_5, evE.eq_6, evE.eq_7, evE.eq_8, evE.eq_9, evE.eq_10, evE.eq_11, evE.eq_12, evE.eq_13, evE.eq_14, evE.eq_15, evE.eq_16, evE.eq_17, evE.eq_18, evE.eq_19, evE.eq_20, evE.eq_21, evE.eq_22, evE.eq_24, evE.eq_25, evE.eq_26, evE.eq_27, evE.eq_28, evE.eq_29, evE.eq_30, evE.eq_31, evE.eq_32, evL, evA, evO, evT, Iq.hd, deref, R.bind_ok, R.bind_bad, truth, intOf, callG, hdS, argsS, argS, putOuts, setOwn, outs, isOwn, io23, io24, io25, io26, io29, e0, e1, e2, e3, e4]
  have q3 : evS (Pn (n + 9)) (B34 3) [.shr d, .own false (.lst [.bl b0, .bl b1, .bl b2, .bl b3, .bl b4, .bl b5, .bl b6, .bl b7]), .own false (.lst [.bl b0, .bl b1, .bl b2, .bl b3, .bl b4])] = .ok (.nx, [.shr d, .own false (.lst [.bl b0, .bl b1, .bl b2, .bl b3, .bl b4, .bl b5, .bl b6, .bl b7]), .own false (.lst [.bl b0, .bl b1, .bl b2, .bl b3, .bl b4, .bl b5, .bl b6, .bl b7])]) := by
    simp [B34, f34, Iq.run, ioFit, evB, evS, evE.eq_1, evE.eq_2, evE.eq_3, evE.eq_4, evE.eq_5, evE.eq_6, evE.eq_7, evE.eq_8, evE.eq_9, evE.eq_10, evE.eq_11, evE.eq_12, evE.eq_13, evE.eq_14, evE.eq_15, evE.eq_16, evE.eq_17, evE.eq_18, evE.eq_19, evE.eq_20, evE.eq_21, evE.eq_22, evE.eq_24, evE.eq_25, evE.eq_26, evE.eq_27, evE.eq_28, evE.eq_29, evE.eq_30, evE.eq_31, evE.eq_32, evL, evA, evO, evT, Iq.hd, deref, R.bind_ok, R.bind_bad, truth, intOf, callG, hdS, argsS, argS, putOuts, setOwn, outs, isOwn, io30, io31, io33, e5, e6, e7, binD, sz]
  have q4 : evS (Pn (n + 9)) (B34 4) [.shr d, .own false (.lst [.bl b0, .bl b1, .bl b2, .bl b3, .bl b4, .bl b5, .bl b6, .bl b7]), .own false (.lst [.bl b0, .bl b1, .bl b2, .bl b3, .bl b4, .bl b5, .bl b6, .bl b7])] = .ok (.rt (.bl true) false, [.shr d, .own false (.lst [.bl b0, .bl b1, .bl b2, .bl b3, .bl b4, .bl b5, .bl b6, .bl b7]), .own false (.lst [.bl b0, .bl b1, .bl b2, .bl b3, .bl b4, .bl b5, .bl b6, .bl b7])]) := by
    simp [B34, f34, Iq.run, ioFit, evB, evS, evE.eq_1, evE.eq_2, evE.eq_3, evE.eq_4, evE.eq_5, evE.eq_6, evE.eq_7, evE.eq_8, evE.eq_9, evE.eq_10, evE.eq_11, evE.eq_12, evE.eq_13, evE.eq_14, evE.eq_15, evE.eq_16, evE.eq_17, evE.eq_18, evE.eq_19, evE.eq_20, evE.eq_21, evE.eq_22, evE.eq_24, evE.eq_25, evE.eq_26, evE.eq_27, evE.eq_28, evE.eq_29, evE.eq_30, evE.eq_31, evE.eq_32, evL, evA, evO, evT, Iq.hd, deref, R.bind_ok, R.bind_bad, truth, intOf, callG, hdS, argsS, argS, putOuts, setOwn, outs, isOwn, rp_is, r1, cmpD, str_eq r2 r2]
  exact run_rt ⟨rfl, by decide, by decide, rfl⟩ rfl (ev_nx (s := B34 0) q0 (ev_nx (s := B34 1) q1 (ev_nx (s := B34 2) q2 (ev_nx (s := B34 3) q3 (ev_rt (s := B34 4) q4)))))
end Q
set_option Elab.async false
set_option linter.all false
set_option maxRecDepth 100000
set_option maxHeartbeats 4000000
namespace Q
open PySem L2 Iq
/-! ### the feed, draws -/
def fee (cells : List Int) (nx rest cnt : Int) : D := .lst [.lst (cells.map .int), .int nx, .int rest, .int cnt]
/-- a feed that so many draws may still be made of -/
def Fd (N : Nat) (f : D) : Prop := ∃ cells nx rest cnt, f = fee cells nx rest cnt ∧ 0 ≤ nx ∧ 0 ≤ cnt ∧ cnt + (N : Int) ≤ 4611686018427387904 ∧ cells.length ≤ 63
theorem Fd.less {N M : Nat} {f : D} (h : Fd N f) (l : M ≤ N) : Fd M f := by
  obtain ⟨c, nx, r, cnt, e, h1, h2, h3, h4⟩ := h
  exact ⟨c, nx, r, cnt, e, h1, h2, by omega, h4⟩
section
variable {cells : List Int} {nx rest cnt many : Int} {s2 s3 s4 s5 : Sl} (n : Nat)
theorem fee0 : idxD (fee cells nx rest cnt) (.int 0) = .ok (.lst (cells.map .int)) := by rfl
theorem fee1 : idxD (fee cells nx rest cnt) (.int 1) = .ok (.int nx) := by rfl
theorem fee2 : idxD (fee cells nx rest cnt) (.int 2) = .ok (.int rest) := by rfl
theorem fee3 : idxD (fee cells nx rest cnt) (.int 3) = .ok (.int cnt) := by rfl
theorem put1 {x : Int} : setD (fee cells nx rest cnt) (.int 1) (.int x) = .ok (fee cells x rest cnt) := by rfl
theorem put2 {x : Int} : setD (fee cells nx rest cnt) (.int 2) (.int x) = .ok (fee cells nx x cnt) := by rfl
theorem put3 {x : Int} : setD (fee cells nx rest cnt) (.int 3) (.int x) = .ok (fee cells nx rest x) := by rfl
theorem cells_g : ∀ x ∈ cells.map D.int, G x := fun x hx => by
  obtain ⟨i, _, rfl⟩ := List.mem_map.mp hx
  rfl
theorem ne_nil (hl : cells.length ≤ 63) : cmpD .NotEq (.lst (cells.map .int)) (.lst []) = .ok (!cells.isEmpty) := by
  have g : okB 1000 61 (.lst (cells.map .int)) = true := by
    simp only [okB, Bool.and_eq_true, decide_eq_true_eq, List.all_eq_true, List.length_map]
    exact ⟨by omega, fun x hx => cells_g x hx⟩
  simp only [cmpD, eq_nilL g (by decide), notR]
  cases cells <;> rfl
abbrev W19 (i : Nat) : Sm := f19.body.getD i .nev
abbrev F19 (cells : List Int) (nx rest cnt many : Int) (s2 s3 s4 s5 : Sl) : List Sl := [.own true (fee cells nx rest cnt), .shr (.int many), s2, s3, s4, s5]
theorem p0 : evS (Pn n) (W19 0) (F19 cells nx rest cnt many s2 s3 s4 s5) = .ok (.nx, F19 cells nx rest (cnt + 1) many s2 s3 s4 s5) := by
  simp [W19, f19, Iq.run, ioFit, evB, evS, evE.eq_1, evE.eq_2, evE.eq_3, evE.eq_4, evE.eq_5, evE.eq_6, evE.eq_7, evE.eq_8, evE.eq_9, evE.eq_10, evE.eq_11, evE.eq_12, evE.eq_13, evE.eq_14, evE.eq_15, evE.eq_16, evE.eq_17, evE.eq_18, evE.eq_19, evE.eq_20, evE.eq_21, evE.eq_22, evE.eq_24, evE.eq_25, evE.eq_26, evE.eq_27, evE.eq_28, evE.eq_29, evE.eq_30, evE.eq_31, evE.eq_32, evL, evA, evO, evT, Iq.hd, deref, R.bind_ok, R.bind_bad, truth, intOf, callG, hdS, argsS, argS, putOuts, setOwn, outs, isOwn, fee3, put3, setSl, add_ok]
theorem p1 (hm : 0 < many) (hm2 : many < 1073741824) (c : 0 < rest) : evS (Pn n) (W19 1) (F19 cells nx rest cnt many s2 s3 s4 s5) = .ok (.rt (.int (rest % many)) false, F19 cells nx (rest / many) cnt many (.shr (.int (rest % many))) s3 s4 s5) := by
  simp [W19, f19, Iq.run, ioFit, evB, evS, evE.eq_1, evE.eq_2, evE.eq_3, evE.eq_4, evE.eq_5, evE.eq_6, evE.eq_7, evE.eq_8, evE.eq_9, evE.eq_10, evE.eq_11, evE.eq_12, evE.eq_13, evE.eq_14, evE.eq_15, evE.eq_16, evE.eq_17, evE.eq_18, evE.eq_19, evE.eq_20, evE.eq_21, evE.eq_22, evE.eq_24, evE.eq_25, evE.eq_26, evE.eq_27, evE.eq_28, evE.eq_29, evE.eq_30, evE.eq_31, evE.eq_32, evL, evA, evO, evT, Iq.hd, deref, R.bind_ok, R.bind_bad, truth, intOf, callG, hdS, argsS, argS, putOuts, setOwn, outs, isOwn, fee2, put2, setSl, cmpD, c, mod_ok hm, div_ok hm hm2, biD]
theorem p1n (c : ¬ 0 < rest) : evS (Pn n) (W19 1) (F19 cells nx rest cnt many s2 s3 s4 s5) = .ok (.nx, F19 cells nx rest cnt many s2 s3 s4 s5) := by
  simp [W19, f19, Iq.run, ioFit, evB, evS, evE.eq_1, evE.eq_2, evE.eq_3, evE.eq_4, evE.eq_5, evE.eq_6, evE.eq_7, evE.eq_8, evE.eq_9, evE.eq_10, evE.eq_11, evE.eq_12, evE.eq_13, evE.eq_14, evE.eq_15, evE.eq_16, evE.eq_17, evE.eq_18, evE.eq_19, evE.eq_20, evE.eq_21, evE.eq_22, evE.eq_24, evE.eq_25, evE.eq_26, evE.eq_27, evE.eq_28, evE.eq_29, evE.eq_30, evE.eq_31, evE.eq_32, evL, evA, evO, evT, Iq.hd, deref, R.bind_ok, R.bind_bad, truth, intOf, callG, hdS, argsS, argS, putOuts, setOwn, outs, isOwn, fee2, cmpD, c]
theorem p2 : evS (Pn n) (W19 2) (F19 cells nx rest cnt many s2 s3 s4 s5) = .ok (.nx, F19 cells nx rest cnt many s2 (.shr (.int nx)) s4 s5) := by
  simp [W19, f19, Iq.run, ioFit, evB, evS, evE.eq_1, evE.eq_2, evE.eq_3, evE.eq_4, evE.eq_5, evE.eq_6, evE.eq_7, evE.eq_8, evE.eq_9, evE.eq_10, evE.eq_11, evE.eq_12, evE.eq_13, evE.eq_14, evE.eq_15, evE.eq_16, evE.eq_17, evE.eq_18, evE.eq_19, evE.eq_20, evE.eq_21, evE.eq_22, evE.eq_24, evE.eq_25, evE.eq_26, evE.eq_27, evE.eq_28, evE.eq_29, evE.eq_30, evE.eq_31, evE.eq_32, evL, evA, evO, evT, Iq.hd, deref, R.bind_ok, R.bind_bad, truth, intOf, callG, hdS, argsS, argS, putOuts, setOwn, outs, isOwn, fee1]
theorem p3 {k : Int} : evS (Pn n) (W19 3) (F19 cells nx rest cnt many s2 (.shr (.int k)) s4 s5) = .ok (.nx, F19 cells (k + 1) rest cnt many s2 (.shr (.int k)) s4 s5) := by
  simp [W19, f19, Iq.run, ioFit, evB, evS, evE.eq_1, evE.eq_2, evE.eq_3, evE.eq_4, evE.eq_5, evE.eq_6, evE.eq_7, evE.eq_8, evE.eq_9, evE.eq_10, evE.eq_11, evE.eq_12, evE.eq_13, evE.eq_14, evE.eq_15, evE.eq_16, evE.eq_17, evE.eq_18, evE.eq_19, evE.eq_20, evE.eq_21, evE.eq_22, evE.eq_24, evE.eq_25, evE.eq_26, evE.eq_27, evE.eq_28, evE.eq_29, evE.eq_30, evE.eq_31, evE.eq_32, evL, evA, evO, evT, Iq.hd, deref, R.bind_ok, R.bind_bad, truth, intOf, callG, hdS, argsS, argS, putOuts, setOwn, outs, isOwn, put1, setSl, add_ok]
theorem cell_at {i : Int} (g1 : 0 ≤ i) (g2 : i < (cells.length : Nat)) : ∃ c : Int, idxD (.lst (cells.map .int)) (.int i) = .ok (.int c) := by
  have h : (i.toNat : Nat) < cells.length := by omega
  refine ⟨cells[i.toNat], ?_⟩
  have : atI (cells.map D.int) i = some (.int cells[i.toNat]) := by
    unfold atI ixN
    simp [g1, g2, h]
  simp only [idxD, this]
theorem p4 {k : Int} (h0 : 0 ≤ k) (hl : cells.length ≤ 63) : ∃ c, evS (Pn n) (W19 4) (F19 cells nx rest cnt many s2 (.shr (.int k)) s4 s5) = .ok (.nx, F19 cells nx rest cnt many s2 (.shr (.int k)) (.shr (.int c)) s5) := by
  have nn := ne_nil hl
  by_cases hn : 0 < (cells.length : Int)
  · obtain ⟨c, hc⟩ := cell_at (cells := cells) (i := k % (cells.length : Nat)) (Int.emod_nonneg _ (by omega)) (Int.emod_lt_of_pos _ hn)
    refine ⟨c, ?_⟩
    have hb : cells.isEmpty = false := by
      cases cells with
      | nil => simp at hn
      | cons _ _ => rfl
    rw [hb] at nn
    simp [W19, f19, Iq.run, ioFit, evB, evS, evE.eq_1, evE.eq_2, evE.eq_3, evE.eq_4, evE.eq_5, evE.eq_6, evE.eq_7, evE.eq_8, evE.eq_9, evE.eq_10, evE.eq_11, evE.eq_12, evE.eq_13, evE.eq_14, evE.eq_15, evE.eq_16, evE.eq_17, evE.eq_18, evE.eq_19, evE.eq_20, evE.eq_21, evE.eq_22, evE.eq_24, evE.eq_25, evE.eq_26, evE.eq_27, evE.eq_28, evE.eq_29, evE.eq_30, evE.eq_31, evE.eq_32, evL, evA, evO, evT, Iq.hd, deref, R.bind_ok, R.bind_bad, truth, intOf, callG, hdS, argsS, argS, putOuts, setOwn, outs, isOwn, fee0, nn, biD, hc, mod_ok hn]
  · have : cells = [] := by
      cases cells with
      | nil => rfl
      | cons _ _ => simp at hn
    subst this
    have nn : cmpD .NotEq (.lst []) (.lst []) = .ok false := by simpa using nn
    exact ⟨37, by simp [W19, f19, Iq.run, ioFit, evB, evS, evE.eq_1, evE.eq_2, evE.eq_3, evE.eq_4, evE.eq_5, evE.eq_6, evE.eq_7, evE.eq_8, evE.eq_9, evE.eq_10, evE.eq_11, evE.eq_12, evE.eq_13, evE.eq_14, evE.eq_15, evE.eq_16, evE.eq_17, evE.eq_18, evE.eq_19, evE.eq_20, evE.eq_21, evE.eq_22, evE.eq_24, evE.eq_25, evE.eq_26, evE.eq_27, evE.eq_28, evE.eq_29, evE.eq_30, evE.eq_31, evE.eq_32, evL, evA, evO, evT, Iq.hd, deref, R.bind_ok, R.bind_bad, truth, intOf, callG, hdS, argsS, argS, putOuts, setOwn, outs, isOwn, fee0, nn, biD]⟩
theorem pw18 : binD .Pow (.int 10) (.int 18) = .ok (.int 1000000000000000000, false) := by simp [binD]
theorem p5 {k c : Int} (hm : 0 < many) (hm2 : many < 1073741824) (c2 : k < (cells.length : Nat)) (c3 : (1000000000000000000 : Int) ≤ c) :
    evS (Pn n) (W19 5) (F19 cells nx rest cnt many s2 (.shr (.int k)) (.shr (.int c)) s5) = .ok (.rt (.int (c % many)) false, F19 cells nx (c / many) cnt many s2 (.shr (.int k)) (.shr (.int c)) s5) := by
  simp [W19, f19, Iq.run, ioFit, evB, evS, evE.eq_1, evE.eq_2, evE.eq_3, evE.eq_4, evE.eq_5, evE.eq_6, evE.eq_7, evE.eq_8, evE.eq_9, evE.eq_10, evE.eq_11, evE.eq_12, evE.eq_13, evE.eq_14, evE.eq_15, evE.eq_16, evE.eq_17, evE.eq_18, evE.eq_19, evE.eq_20, evE.eq_21, evE.eq_22, evE.eq_24, evE.eq_25, evE.eq_26, evE.eq_27, evE.eq_28, evE.eq_29, evE.eq_30, evE.eq_31, evE.eq_32, evL, evA, evO, evT, Iq.hd, deref, R.bind_ok, R.bind_bad, truth, intOf, callG, hdS, argsS, argS, putOuts, setOwn, outs, isOwn, fee0, put2, setSl, cmpD, ltD, c2, c3, pw18, mod_ok hm, div_ok hm hm2, biD]
theorem p5n {k c : Int} (h : ¬ (k < (cells.length : Nat) ∧ (1000000000000000000 : Int) ≤ c)) :
    evS (Pn n) (W19 5) (F19 cells nx rest cnt many s2 (.shr (.int k)) (.shr (.int c)) s5) = .ok (.nx, F19 cells nx rest cnt many s2 (.shr (.int k)) (.shr (.int c)) s5) := by
  by_cases c3 : (1000000000000000000 : Int) ≤ c
  · have c2 : ¬ k < (cells.length : Nat) := fun z => h ⟨z, c3⟩
    simp [W19, f19, Iq.run, ioFit, evB, evS, evE.eq_1, evE.eq_2, evE.eq_3, evE.eq_4, evE.eq_5, evE.eq_6, evE.eq_7, evE.eq_8, evE.eq_9, evE.eq_10, evE.eq_11, evE.eq_12, evE.eq_13, evE.eq_14, evE.eq_15, evE.eq_16, evE.eq_17, evE.eq_18, evE.eq_19, evE.eq_20, evE.eq_21, evE.eq_22, evE.eq_24, evE.eq_25, evE.eq_26, evE.eq_27, evE.eq_28, evE.eq_29, evE.eq_30, evE.eq_31, evE.eq_32, evL, evA, evO, evT, Iq.hd, deref, R.bind_ok, R.bind_bad, truth, intOf, callG, hdS, argsS, argS, putOuts, setOwn, outs, isOwn, fee0, cmpD, ltD, c2, c3, pw18, biD]
  · simp [W19, f19, Iq.run, ioFit, evB, evS, evE.eq_1, evE.eq_2, evE.eq_3, evE.eq_4, evE.eq_5, evE.eq_6, evE.eq_7, evE.eq_8, evE.eq_9, evE.eq_10, evE.eq_11, evE.eq_12, evE.eq_13, evE.eq_14, evE.eq_15, evE.eq_16, evE.eq_17, evE.eq_18, evE.eq_19, evE.eq_20, evE.eq_21, evE.eq_22, evE.eq_24, evE.eq_25, evE.eq_26, evE.eq_27, evE.eq_28, evE.eq_29, evE.eq_30, evE.eq_31, evE.eq_32, evL, evA, evO, evT, Iq.hd, deref, R.bind_ok, R.bind_bad, truth, intOf, callG, hdS, argsS, argS, putOuts, setOwn, outs, isOwn, fee0, cmpD, ltD, c3, pw18, biD]
theorem p6 {c : Int} (hm : 0 < many) (h0 : 0 ≤ cnt) (h1 : cnt ≤ 4611686018427387904) :
    ∃ r v, evB (Pn n) [W19 6, W19 7, W19 8] (F19 cells nx rest cnt many s2 s3 (.shr (.int c)) s5) = .ok (.rt (.int r) false, F19 cells nx rest cnt many s2 s3 (.shr (.int c)) v) ∧ 0 ≤ r ∧ r < many := by
  obtain ⟨m1, e1, g1, g2⟩ : ∃ m1, ((c % 1999999943 + 50153 * cnt + 173) % 2147483587 : Int) = m1 ∧ 0 ≤ m1 ∧ m1 < 2147483587 := ⟨_, rfl, by omega, by omega⟩
  obtain ⟨m2, e2, g3, g4⟩ : ∃ m2, ((m1 * m1 + 7919 * cnt * cnt + 83) % 2147483549 : Int) = m2 ∧ 0 ≤ m2 ∧ m2 < 2147483549 := ⟨_, rfl, Int.emod_nonneg _ (by omega), Int.emod_lt_of_pos _ (by omega)⟩
  have q1 : evS (Pn n) (W19 6) (F19 cells nx rest cnt many s2 s3 (.shr (.int c)) s5) = .ok (.nx, F19 cells nx rest cnt many s2 s3 (.shr (.int c)) (.shr (.int m1))) := by
    simp [W19, f19, Iq.run, ioFit, evB, evS, evE.eq_1, evE.eq_2, evE.eq_3, evE.eq_4, evE.eq_5, evE.eq_6, evE.eq_7, evE.eq_8, evE.eq_9, evE.eq_10, evE.eq_11, evE.eq_12, evE.eq_13, evE.eq_14, evE.eq_15, evE.eq_16, evE.eq_17, evE.eq_18, evE.eq_19, evE.eq_20, evE.eq_21, evE.eq_22, evE.eq_24, evE.eq_25, evE.eq_26, evE.eq_27, evE.eq_28, evE.eq_29, evE.eq_30, evE.eq_31, evE.eq_32, evL, evA, evO, evT, Iq.hd, deref, R.bind_ok, R.bind_bad, truth, intOf, callG, hdS, argsS, argS, putOuts, setOwn, outs, isOwn, biD, mod_ok, fee3, add_ok, mul_ok1, e1]
  have q2 : evS (Pn n) (W19 7) (F19 cells nx rest cnt many s2 s3 (.shr (.int c)) (.shr (.int m1))) = .ok (.nx, F19 cells nx rest cnt many s2 s3 (.shr (.int c)) (.shr (.int m2))) := by
    have t1 : binD .Mult (.int m1) (.int m1) = .ok (.int (m1 * m1), false) := mul_ok1 (by omega) (by omega)
    have t2 : binD .Mult (.int (7919 * cnt)) (.int cnt) = .ok (.int (7919 * cnt * cnt), false) := mul_ok2 (by omega) (by omega)
    have t3 : binD .Mult (.int 7919) (.int cnt) = .ok (.int (7919 * cnt), false) := mul_ok1 (by omega) (by omega)
    simp [W19, f19, Iq.run, ioFit, evB, evS, evE.eq_1, evE.eq_2, evE.eq_3, evE.eq_4, evE.eq_5, evE.eq_6, evE.eq_7, evE.eq_8, evE.eq_9, evE.eq_10, evE.eq_11, evE.eq_12, evE.eq_13, evE.eq_14, evE.eq_15, evE.eq_16, evE.eq_17, evE.eq_18, evE.eq_19, evE.eq_20, evE.eq_21, evE.eq_22, evE.eq_24, evE.eq_25, evE.eq_26, evE.eq_27, evE.eq_28, evE.eq_29, evE.eq_30, evE.eq_31, evE.eq_32, evL, evA, evO, evT, Iq.hd, deref, R.bind_ok, R.bind_bad, truth, intOf, callG, hdS, argsS, argS, putOuts, setOwn, outs, isOwn, biD, mod_ok, fee3, add_ok, t1, t2, t3, e2]
  have t1 : binD .Mult (.int m2) (.int m2) = .ok (.int (m2 * m2), false) := mul_ok1 (by omega) (by omega)
  refine ⟨(m2 * m2 + 311 * m2 + 7) % 2147483497 / 64 % many, .shr (.int m2), ?_, Int.emod_nonneg _ (by omega), Int.emod_lt_of_pos _ hm⟩
  refine ev_nx q1 (ev_nx q2 (ev_rt ?_))
  simp [W19, f19, Iq.run, ioFit, evB, evS, evE.eq_1, evE.eq_2, evE.eq_3, evE.eq_4, evE.eq_5, evE.eq_6, evE.eq_7, evE.eq_8, evE.eq_9, evE.eq_10, evE.eq_11, evE.eq_12, evE.eq_13, evE.eq_14, evE.eq_15, evE.eq_16, evE.eq_17, evE.eq_18, evE.eq_19, evE.eq_20, evE.eq_21, evE.eq_22, evE.eq_24, evE.eq_25, evE.eq_26, evE.eq_27, evE.eq_28, evE.eq_29, evE.eq_30, evE.eq_31, evE.eq_32, evL, evA, evO, evT, Iq.hd, deref, R.bind_ok, R.bind_bad, truth, intOf, callG, hdS, argsS, argS, putOuts, setOwn, outs, isOwn, biD, mod_ok, mod_ok hm, div_ok, add_ok, t1, mul_ok1]
end
theorem run_io {P : Pr} {f : Fn} {as : List Sl} {d : D} {fr : Bool} {ς' : List Sl} {o : List D} (h1 : as.length = f.np ∧ f.np ≤ f.nl ∧ f.io.length ≤ f.np ∧ ioFit f.io as = true) (e : evB P f.body (as ++ List.replicate (f.nl - f.np) .no) = .ok (.rt d fr, ς')) (h2 : outs ς' 0 f.io = .ok o) : Iq.run P f as = .ok (d, fr, o) := by
  unfold Iq.run
  rw [if_pos h1, e]
  simp only [R.bind_ok, h2]
theorem draw (n : Nat) {N : Nat} {f : D} {many : Int} (h : Fd (N + 1) f) (hm : 0 < many) (hm2 : many < 1073741824) : ∃ r f', (Pn (n + 1)).fn 19 [.own true f, .shr (.int many)] = .ok (.int r, false, [f']) ∧ 0 ≤ r ∧ r < many ∧ Fd N f' := by
  obtain ⟨cells, nx, rest, cnt, rfl, h0, h1, h2, hl⟩ := h
  rw [fn19]
  have fin : ∀ {r nx' rest' cnt' : Int} {t2 t3 t4 t5 : Sl}, evB (Pn n) [W19 0, W19 1, W19 2, W19 3, W19 4, W19 5, W19 6, W19 7, W19 8] (F19 cells nx rest cnt many .no .no .no .no) = .ok (.rt (.int r) false, F19 cells nx' rest' cnt' many t2 t3 t4 t5) →
      Iq.run (Pn n) f19 [.own true (fee cells nx rest cnt), .shr (.int many)] = .ok (.int r, false, [fee cells nx' rest' cnt']) := fun e =>
    run_io ⟨rfl, by decide, by decide, rfl⟩ e rfl
  by_cases c1 : 0 < rest
  · exact ⟨_, _, fin (ev_nx (p0 n) (ev_rt (p1 n hm hm2 c1))), Int.emod_nonneg _ (by omega), Int.emod_lt_of_pos _ hm, cells, nx, rest / many, cnt + 1, rfl, h0, by omega, by omega, hl⟩
  obtain ⟨c, e5⟩ := p4 n (cells := cells) (nx := nx + 1) (rest := rest) (cnt := cnt + 1) (many := many) (s2 := .no) (s4 := .no) (s5 := .no) h0 hl
  by_cases c2 : nx < (cells.length : Nat) ∧ (1000000000000000000 : Int) ≤ c
  · exact ⟨_, _, fin (ev_nx (p0 n) (ev_nx (p1n n c1) (ev_nx (p2 n) (ev_nx (p3 n) (ev_nx e5 (ev_rt (p5 n hm hm2 c2.1 c2.2))))))), Int.emod_nonneg _ (by omega), Int.emod_lt_of_pos _ hm, cells, nx + 1, c / many, cnt + 1, rfl, by omega, by omega, by omega, hl⟩
  · obtain ⟨r, v, e, g1, g2⟩ := p6 n (cells := cells) (nx := nx + 1) (rest := rest) (cnt := cnt + 1) (many := many) (c := c) (s2 := .no) (s3 := .shr (.int nx)) (s5 := .no) hm (by omega) (by omega)
    exact ⟨r, _, fin (ev_nx (p0 n) (ev_nx (p1n n c1) (ev_nx (p2 n) (ev_nx (p3 n) (ev_nx e5 (ev_nx (p5n n c2) e)))))), g1, g2, cells, nx + 1, rest, cnt + 1, rfl, by omega, by omega, by omega, hl⟩
end Q
set_option Elab.async false
set_option linter.all false
set_option maxRecDepth 100000
set_option maxHeartbeats 4000000
namespace Q
open PySem L2 Iq
theorem feed_go (n : Nat) (ns : List Int) : ∃ f, Fd 4611686018427387904 f ∧ (Pn (n + 1)).fn 18 [.shr (.lst (ns.map .int))] = .ok (f, true, []) := by
  refine ⟨fee (ns.take 63) 0 0 0, ⟨_, _, _, _, rfl, by omega, by omega, by omega, by simp; omega⟩, ?_⟩
  rw [fn18]
  have cut : cutL (ns.map D.int) none (some 63) = (ns.take 63).map .int := by
    unfold cutL
    simp only [HT.sIx_none, List.drop_zero, Nat.sub_zero]
    rw [show ((63 : Int)) = ((63 : Nat) : Int) from rfl, HT.sIx_nat, ← List.map_take]
    simp only [List.length_map]
    congr 1
    rw [List.take_eq_take_iff]
    omega
  simp [-List.map_take, f18, pack, Iq.run, ioFit, evB, evS, evE.eq_1, evE.eq_2, evE.eq_3, evE.eq_4, evE.eq_5, evE.eq_6, evE.eq_7, evE.eq_8, evE.eq_9, evE.eq_10, evE.eq_11, evE.eq_12, evE.eq_13, evE.eq_14, evE.eq_15, evE.eq_16, evE.eq_17, evE.eq_18, evE.eq_19, evE.eq_20, evE.eq_21, evE.eq_22, evE.eq_24, evE.eq_25, evE.eq_26, evE.eq_27, evE.eq_28, evE.eq_29, evE.eq_30, evE.eq_31, evE.eq_32, evL, evA, evO, evT, Iq.hd, deref, R.bind_ok, R.bind_bad, truth, intOf, callG, hdS, argsS, argS, putOuts, setOwn, outs, isOwn, sliD, cut, fee]
/-! ### calls that draw -/
theorem call1 {n k : Nat} {i : Nat} {ς : List Sl} {b fr : Bool} {f f' d : D} (hio : (Pn n).io k = [true]) (hs : ς[i]? = some (.own b f)) (e : (Pn n).fn k [.own true f] = .ok (d, fr, [f'])) : evE (Pn n) (.call k [.var i]) ς = .ok (d, fr, ς.set i (.own b f')) := by
  simp [Iq.run, ioFit, evB, evS, evE.eq_1, evE.eq_2, evE.eq_3, evE.eq_4, evE.eq_5, evE.eq_6, evE.eq_7, evE.eq_8, evE.eq_9, evE.eq_10, evE.eq_11, evE.eq_12, evE.eq_13, evE.eq_14, evE.eq_15, evE.eq_16, evE.eq_17, evE.eq_18, evE.eq_19, evE.eq_20, evE.eq_21, evE.eq_22, evE.eq_24, evE.eq_25, evE.eq_26, evE.eq_27, evE.eq_28, evE.eq_29, evE.eq_30, evE.eq_31, evE.eq_32, evL, evA, evO, evT, Iq.hd, deref, R.bind_ok, R.bind_bad, truth, intOf, callG, hdS, argsS, argS, putOuts, setOwn, outs, isOwn, hio, hs, e]
theorem call2 {n k : Nat} {i : Nat} {a : Ex} {ς : List Sl} {b fr fa : Bool} {f f' d x : D} (hio : (Pn n).io k = [true, false]) (hs : ς[i]? = some (.own b f)) (ha : evE (Pn n) a ς = .ok (x, fa, ς)) (e : (Pn n).fn k [.own true f, .shr x] = .ok (d, fr, [f'])) : evE (Pn n) (.call k [.var i, a]) ς = .ok (d, fr, ς.set i (.own b f')) := by
  simp [Iq.run, ioFit, evB, evS, evE.eq_1, evE.eq_2, evE.eq_3, evE.eq_4, evE.eq_5, evE.eq_6, evE.eq_7, evE.eq_8, evE.eq_9, evE.eq_10, evE.eq_11, evE.eq_12, evE.eq_13, evE.eq_14, evE.eq_15, evE.eq_16, evE.eq_17, evE.eq_18, evE.eq_19, evE.eq_20, evE.eq_21, evE.eq_22, evE.eq_24, evE.eq_25, evE.eq_26, evE.eq_27, evE.eq_28, evE.eq_29, evE.eq_30, evE.eq_31, evE.eq_32, evL, evA, evO, evT, Iq.hd, deref, R.bind_ok, R.bind_bad, truth, intOf, callG, hdS, argsS, argS, putOuts, setOwn, outs, isOwn, hio, hs, ha, e]
theorem call2g {n k : Nat} {i : Nat} {a : Ex} {ς ς1 : List Sl} {b c fr fa : Bool} {f f0 f' d x : D} (hio : (Pn n).io k = [true, false]) (hs0 : ς[i]? = some (.own c f0)) (ha : evE (Pn n) a ς = .ok (x, fa, ς1)) (hs : ς1[i]? = some (.own b f)) (e : (Pn n).fn k [.own true f, .shr x] = .ok (d, fr, [f'])) : evE (Pn n) (.call k [.var i, a]) ς = .ok (d, fr, ς1.set i (.own b f')) := by
  simp [Iq.run, ioFit, evB, evS, evE.eq_1, evE.eq_2, evE.eq_3, evE.eq_4, evE.eq_5, evE.eq_6, evE.eq_7, evE.eq_8, evE.eq_9, evE.eq_10, evE.eq_11, evE.eq_12, evE.eq_13, evE.eq_14, evE.eq_15, evE.eq_16, evE.eq_17, evE.eq_18, evE.eq_19, evE.eq_20, evE.eq_21, evE.eq_22, evE.eq_24, evE.eq_25, evE.eq_26, evE.eq_27, evE.eq_28, evE.eq_29, evE.eq_30, evE.eq_31, evE.eq_32, evL, evA, evO, evT, Iq.hd, deref, R.bind_ok, R.bind_bad, truth, intOf, callG, hdS, argsS, argS, putOuts, setOwn, outs, isOwn, hio, hs, hs0, ha, e]
theorem drE (n : Nat) {i : Nat} {a : Ex} {ς : List Sl} {b fa : Bool} {f : D} {m : Int} {N : Nat} (ha : evE (Pn (n + 1)) a ς = .ok (.int m, fa, ς)) (hs : ς[i]? = some (.own b f)) (h : Fd (N + 1) f) (hm : 0 < m) (hm2 : m < 1073741824) :
    ∃ r f', evE (Pn (n + 1)) (.call 19 [.var i, a]) ς = .ok (.int r, false, ς.set i (.own b f')) ∧ 0 ≤ r ∧ r < m ∧ Fd N f' := by
  obtain ⟨r, f', e, g⟩ := draw n h hm hm2
  exact ⟨r, f', call2 (io19 _) hs ha e, g⟩
/-- a draw below a written number -/
theorem drC (n : Nat) {i : Nat} {ς : List Sl} {b : Bool} {f : D} (m : Int) {N : Nat} (hs : ς[i]? = some (.own b f)) (h : Fd (N + 1) f) (hm : 0 < m) (hm2 : m < 1073741824) :
    ∃ r f', evE (Pn (n + 1)) (.call 19 [.var i, .con (.int m)]) ς = .ok (.int r, false, ς.set i (.own b f')) ∧ 0 ≤ r ∧ r < m ∧ Fd N f' :=
  drE n (fa := false) (by simp only [evE.eq_2]) hs h hm hm2
theorem pick (n : Nat) {N : Nat} {f : D} {xs : List D} (h : Fd (N + 1) f) (hx : 0 < xs.length) (hl : xs.length ≤ 1000) : ∃ x f', x ∈ xs ∧ (Pn (n + 2)).fn 20 [.own true f, .shr (.lst xs)] = .ok (x, false, [f']) ∧ Fd N f' := by
  obtain ⟨r, f', e, g1, g2, g3⟩ := drE n (i := 0) (a := .bi .len (.var 1)) (ς := [.own true f, .shr (.lst xs)]) (b := true) (fa := false) (m := xs.length) (by simp [Iq.run, ioFit, evB, evS, evE.eq_1, evE.eq_2, evE.eq_3, evE.eq_4, evE.eq_5, evE.eq_6, evE.eq_7, evE.eq_8, evE.eq_9, evE.eq_10, evE.eq_11, evE.eq_12, evE.eq_13, evE.eq_14, evE.eq_15, evE.eq_16, evE.eq_17, evE.eq_18, evE.eq_19, evE.eq_20, evE.eq_21, evE.eq_22, evE.eq_24, evE.eq_25, evE.eq_26, evE.eq_27, evE.eq_28, evE.eq_29, evE.eq_30, evE.eq_31, evE.eq_32, evL, evA, evO, evT, Iq.hd, deref, R.bind_ok, R.bind_bad, truth, intOf, callG, hdS, argsS, argS, putOuts, setOwn, outs, isOwn, biD]) rfl h (by omega) (by omega)
  obtain ⟨x, hx, ex⟩ := at_some g1 g2
  refine ⟨x, f', hx, ?_, g3⟩
  rw [fn20]
  simp only [List.set_cons_zero] at e
  simp [f20, pack, Iq.run, ioFit, evB, evS, evE.eq_16, Iq.hd, deref, R.bind_ok, e, idxD, ex, outs]
def nmB : D → Bool
  | .str t => okS 100 t
  | _ => false
theorem nm_g {d : D} (h : nmB d = true) : ∀ k, okB 100 k d = true := fun k => by
  cases d <;> simp only [nmB] at h <;> first | (cases h; done) | simpa only [okB] using h
abbrev names14 : List D := [.str "a", .str "b", .str "c", .str "main", .str "work", .str "go", .str "kind", .str "fork", .str "exit", .str "wait", .str "poll", .str "zzzzzzzz", .str "ab", .str "x"]
theorem names_ok : names14.all nmB = true := by decide +kernel
theorem fold_is : ∀ (cs : List Nat) (acc : Array Nat), ((cs.map fun c => (⟨#[c]⟩ : Str)).foldl (fun acc p => acc ++ (Str.ofString "").cps ++ p.cps) acc).toList = acc.toList ++ cs
  | [], acc => by simp
  | c :: cs, acc => by
    have e0 : (Str.ofString "").cps = #[] := by decide +kernel
    simp only [List.map_cons, List.foldl_cons]
    rw [fold_is cs, e0]
    simp
theorem join_is (cs : List Nat) : (Txt.join "" (cs.map fun c => (⟨#[c]⟩ : Str))).cps.toList = cs := by
  have e : (Txt.join "" (cs.map fun c => (⟨#[c]⟩ : Str))).cps = ((cs.map fun c => (⟨#[c]⟩ : Str)).drop 1).foldl (fun acc p => acc ++ (Str.ofString "").cps ++ p.cps) ((cs.map fun c => (⟨#[c]⟩ : Str)).headD Str.empty).cps := rfl
  rw [e]
  cases cs with
  | nil => decide +kernel
  | cons c cs =>
    simp only [List.map_cons, List.drop_succ_cons, List.drop_zero, List.headD_cons]
    rw [fold_is]
    simp
theorem strL_is : ∀ (cs : List Nat), strL (cs.map fun c => .str ⟨#[c]⟩) = some (cs.map fun c => (⟨#[c]⟩ : Str))
  | [] => rfl
  | c :: cs => by simp only [List.map_cons, strL, strL_is cs, Option.map_some]
theorem ds_is : ∀ {ds : List D}, (∀ d ∈ ds, ∃ c ∈ letters.cps.toList, d = .str ⟨#[c]⟩) → ∃ cs : List Nat, ds = cs.map (fun c => .str ⟨#[c]⟩) ∧ ∀ c ∈ cs, c ∈ letters.cps.toList
  | [], _ => ⟨[], rfl, by simp⟩
  | d :: ds, h => by
    obtain ⟨c, hc, rfl⟩ := h d (by simp)
    obtain ⟨cs, rfl, g⟩ := ds_is (ds := ds) fun d hd => h d (List.mem_cons_of_mem _ hd)
    refine ⟨c :: cs, rfl, fun x hx => ?_⟩
    rcases List.mem_cons.mp hx with rfl | hx
    · exact hc
    · exact g x hx
theorem join_go {cs : List Nat} (hl : cs.length ≤ 100) : joinD "" (.lst (cs.map fun c => .str ⟨#[c]⟩)) = .ok (.str (Txt.join "" (cs.map fun c => (⟨#[c]⟩ : Str)))) := by
  have : (cs.map fun c => (⟨#[c]⟩ : Str)).length * (Str.ofString "").length + ((cs.map fun c => (⟨#[c]⟩ : Str)).map Str.length).sum ≤ 100000 := by
    have h2 : (Str.ofString "").length = 0 := by decide +kernel
    have h3 : ((cs.map fun c => (⟨#[c]⟩ : Str)).map Str.length).sum = cs.length := by
      clear hl
      induction cs with
      | nil => rfl
      | cons c cs ih =>
        simp only [List.map_cons, List.sum_cons, List.length_cons, ih]
        show 1 + cs.length = cs.length + 1
        omega
    rw [h2, h3]; omega
  simp only [joinD, strL_is, this, if_true]

/-! ### comprehensions that draw -/
theorem lc_dr {P : Pr} {e : Ex} {j : Nat} {ς : List Sl} {b : Bool} {c N : Nat} {Pd : D → Prop} (hj : 0 < j) : ∀ (xs : List D) (f : D) (u : Sl), Fd (N + c * xs.length) f →
    (∀ x ∈ xs, ∀ M f, Fd (M + c) f → ∃ d fr f', evE P e ((ς.set 0 (.own b f)).set j (.shr x)) = .ok (d, fr, (ς.set 0 (.own b f')).set j (.shr x)) ∧ Pd d ∧ Fd M f') →
    ∃ ds f' v, lcGo (evQ P none) (evE P e) (.nm j) xs ((ς.set 0 (.own b f)).set j u) = .ok (ds, (ς.set 0 (.own b f')).set j v) ∧ (∀ d ∈ ds, Pd d) ∧ ds.length = xs.length ∧ Fd N f'
  | [], f, u, h, _ => ⟨[], f, u, rfl, by simp, rfl, h.less (by simp)⟩
  | x :: xs, f, u, h, st => by
    obtain ⟨d, fr, f1, e1, pd, h1⟩ := st x List.mem_cons_self (N + c * xs.length) f (h.less (by simp only [List.length_cons, Nat.mul_succ]; omega))
    obtain ⟨ds, f2, v, e2, pds, len, h2⟩ := lc_dr (ς := ς) (b := b) hj xs f1 (.shr x) h1 fun y hy => st y (List.mem_cons_of_mem _ hy)
    refine ⟨d :: ds, f2, v, ?_, fun z hz => ?_, by simp [len], h2⟩
    · have q : ∀ ς, evQ P none ς = .ok (true, ς) := fun ς => by simp only [evQ]
      simp only [lcGo, bindT, tgS, wipeS, set_set_no, R.bind_ok, q, cond_true, e1, e2]
    · rcases List.mem_cons.mp hz with rfl | hz
      · exact pd
      · exact pds z hz
theorem comp_draw {P : Pr} {e : Ex} {j : Nat} {k : Ik} {ss : List Ex} {ς0 ς : List Sl} {rs xs : List D} {b : Bool} {f : D} {c N : Nat} {Pd : D → Prop}
    (e1 : evL P ss ς0 = .ok (rs, ς.set 0 (.own b f))) (e2 : walk k rs = .ok xs) (hj : 0 < j) (hl : j < ς.length) (ho : isOwn ς j = false) (h : Fd (N + c * xs.length) f)
    (st : ∀ x ∈ xs, ∀ M f, Fd (M + c) f → ∃ d fr f', evE P e ((ς.set 0 (.own b f)).set j (.shr x)) = .ok (d, fr, (ς.set 0 (.own b f')).set j (.shr x)) ∧ Pd d ∧ Fd M f') :
    ∃ ds f', evE P (.comp e (.nm j) k ss none) ς0 = .ok (.lst ds, true, ς.set 0 (.own b f')) ∧ (∀ d ∈ ds, Pd d) ∧ ds.length = xs.length ∧ Fd N f' := by
  obtain ⟨ds, f2, v, ev, pds, len, h2⟩ := lc_dr (P := P) (e := e) (ς := ς) (b := b) hj xs f (ς[j]'hl) h st
  have z : (ς.set 0 (.own b f)).set j (ς[j]'hl) = ς.set 0 (.own b f) := by
    apply List.ext_getElem?
    intro m
    by_cases h1 : j = m
    · subst h1; simp [List.getElem?_set, hl, Nat.ne_of_lt hj]
    · simp [List.getElem?_set, h1]
  rw [z] at ev
  refine ⟨ds, f2, ?_, pds, len, h2⟩
  have ow : (tgS (.nm j)).any (isOwn (ς.set 0 (.own b f))) = false := by
    have : isOwn (ς.set 0 (.own b f)) j = isOwn ς j := by
      unfold isOwn
      rw [List.getElem?_set_ne (Nat.ne_of_lt hj)]
    simp only [tgS, List.any_cons, this, ho, List.any_nil, Bool.or_self]
  rw [ev_comp e1 e2 ow ev]
  congr 3
  simp only [backS, tgS, set_set_no]
  apply List.ext_getElem?
  intro m
  by_cases h1 : j = m
  · subst h1
    have n0 : ¬ (0 = j) := Nat.ne_of_lt hj
    simp [List.getElem?_set, hl, n0, List.getD_eq_getElem?_getD]
  · simp [List.getElem?_set, h1]
theorem let_small : ∀ x ∈ letters.cps.toList, x < 0x110000 := by decide +kernel
theorem label (n : Nat) {N : Nat} {f : D} (h : Fd (N + 12) f) : ∃ d f', (Pn (n + 3)).fn 21 [.own true f] = .ok (d, false, [f']) ∧ nmB d = true ∧ Fd N f' := by
  rw [fn21]
  obtain ⟨r, f1, e1, r0, r1, h1⟩ := drC (n + 1) (i := 0) (ς := [.own true f, .no, .no, .no]) (b := true) 3 (N := N + 11) rfl h (by omega) (by omega)
  simp only [List.set_cons_zero] at e1
  by_cases c : 0 < r
  · obtain ⟨x, f2, hx, e2, h2⟩ := pick n (N := N) (xs := names14) (h1.less (by omega)) (by decide) (by decide)
    refine ⟨x, f2, ?_, List.all_eq_true.mp names_ok x hx, h2⟩
    have e2' := call2g (n := n + 2) (k := 20) (i := 0) (a := .var 1) (ς := [.own true f1, .own false (.lst names14), .no, .no]) (ς1 := [.own true f1, .shr (.lst names14), .no, .no]) (b := true) (fa := false) (io20 _) rfl (by simp [Iq.run, ioFit, evB, evS, evE.eq_1, evE.eq_2, evE.eq_3, evE.eq_4, evE.eq_5, evE.eq_6, evE.eq_7, evE.eq_8, evE.eq_9, evE.eq_10, evE.eq_11, evE.eq_12, evE.eq_13, evE.eq_14, evE.eq_15, evE.eq_16, evE.eq_17, evE.eq_18, evE.eq_19, evE.eq_20, evE.eq_21, evE.eq_22, evE.eq_24, evE.eq_25, evE.eq_26, evE.eq_27, evE.eq_28, evE.eq_29, evE.eq_30, evE.eq_31, evE.eq_32, evL, evA, evO, evT, Iq.hd, deref, R.bind_ok, R.bind_bad, truth, intOf, callG, hdS, argsS, argS, putOuts, setOwn, outs, isOwn]) rfl e2
    have nu : outs [.own true f2, .shr (.lst names14), .no, .no] 0 [true] = .ok [f2] := rfl
    refine run_io (ς' := [.own true f2, .shr (.lst names14), .no, .no]) ⟨rfl, by decide, by decide, rfl⟩ (ev_rt (s := f21.body.getD 0 .nev) ?_) nu
    simp only [List.set_cons_zero] at e2'
    simp only [f21, List.getD_cons_zero]
    show evS (Pn (n + 2)) _ [.own true f, .no, .no, .no] = _
    simp [Iq.run, ioFit, evB, evS, evE.eq_1, evE.eq_2, evE.eq_3, evE.eq_4, evE.eq_5, evE.eq_6, evE.eq_7, evE.eq_8, evE.eq_9, evE.eq_10, evE.eq_11, evE.eq_12, evE.eq_13, evE.eq_14, evE.eq_15, evE.eq_16, evE.eq_17, evE.eq_19, evE.eq_20, evE.eq_21, evE.eq_22, evE.eq_24, evE.eq_25, evE.eq_26, evE.eq_27, evE.eq_28, evE.eq_29, evE.eq_30, evE.eq_31, evE.eq_32, evL, evA, evO, evT, Iq.hd, deref, R.bind_ok, R.bind_bad, truth, intOf, callG, hdS, argsS, argS, putOuts, setOwn, outs, isOwn, e1, cmpD, c, e2']
  · obtain ⟨m, f2, e2, m0, m1, h2⟩ := drC (n + 1) (i := 0) (ς := [.own true f1, .no, .shr (.str letters), .no]) (b := true) 8 (N := N + 10) rfl h1 (by omega) (by omega)
    simp only [List.set_cons_zero] at e2
    have q0 : evS (Pn (n + 2)) (f21.body.getD 0 .nev) [.own true f, .no, .no, .no] = .ok (.nx, [.own true f1, .no, .no, .no]) := by
      simp only [f21, List.getD_cons_zero]
      simp [Iq.run, ioFit, evB, evS, evE.eq_1, evE.eq_2, evE.eq_3, evE.eq_4, evE.eq_5, evE.eq_6, evE.eq_7, evE.eq_8, evE.eq_9, evE.eq_10, evE.eq_11, evE.eq_12, evE.eq_13, evE.eq_14, evE.eq_15, evE.eq_16, evE.eq_17, evE.eq_19, evE.eq_20, evE.eq_21, evE.eq_22, evE.eq_24, evE.eq_25, evE.eq_26, evE.eq_27, evE.eq_28, evE.eq_29, evE.eq_30, evE.eq_31, evE.eq_32, evL, evA, evO, evT, Iq.hd, deref, R.bind_ok, R.bind_bad, truth, intOf, callG, hdS, argsS, argS, putOuts, setOwn, outs, isOwn, e1, cmpD, c]
    have q1 : evS (Pn (n + 2)) (f21.body.getD 1 .nev) [.own true f1, .no, .no, .no] = .ok (.nx, [.own true f1, .no, .shr (.str letters), .no]) := by
      simp [f21, Iq.run, ioFit, evB, evS, evE.eq_1, evE.eq_2, evE.eq_3, evE.eq_4, evE.eq_5, evE.eq_6, evE.eq_7, evE.eq_8, evE.eq_9, evE.eq_10, evE.eq_11, evE.eq_12, evE.eq_13, evE.eq_14, evE.eq_15, evE.eq_16, evE.eq_17, evE.eq_19, evE.eq_20, evE.eq_21, evE.eq_22, evE.eq_24, evE.eq_25, evE.eq_26, evE.eq_27, evE.eq_28, evE.eq_29, evE.eq_30, evE.eq_31, evE.eq_32, evL, evA, evO, evT, Iq.hd, deref, R.bind_ok, R.bind_bad, truth, intOf, callG, hdS, argsS, argS, putOuts, setOwn, outs, isOwn, letters]
    have len : (Iq.upTo 0 (1 + m).toNat).length = (1 + m).toNat := by simp [Iq.upTo]
    obtain ⟨ds, f3, e3, pd, dl, h3⟩ := comp_draw (P := Pn (n + 2)) (e := .idx (.var 2) (.call 19 [(.var 0), (.con (.int 26))])) (j := 3) (k := .rng) (ss := [.bin .Add (.con (.int 1)) (.call 19 [.var 0, .con (.int 8)])]) (ς0 := [.own true f1, .no, .shr (.str letters), .no]) (ς := [.own true f1, .no, .shr (.str letters), .no])
      (rs := [.int (1 + m)]) (xs := Iq.upTo 0 (1 + m).toNat) (b := true) (f := f2) (c := 1) (N := N) (Pd := fun d => ∃ c ∈ letters.cps.toList, d = .str ⟨#[c]⟩)
      (by simp [Iq.run, ioFit, evB, evS, evE.eq_1, evE.eq_2, evE.eq_3, evE.eq_4, evE.eq_5, evE.eq_6, evE.eq_7, evE.eq_8, evE.eq_9, evE.eq_10, evE.eq_11, evE.eq_12, evE.eq_13, evE.eq_14, evE.eq_15, evE.eq_16, evE.eq_17, evE.eq_19, evE.eq_20, evE.eq_21, evE.eq_22, evE.eq_24, evE.eq_25, evE.eq_26, evE.eq_27, evE.eq_28, evE.eq_29, evE.eq_30, evE.eq_31, evE.eq_32, evL, evA, evO, evT, Iq.hd, deref, R.bind_ok, R.bind_bad, truth, intOf, callG, hdS, argsS, argS, putOuts, setOwn, outs, isOwn, e2, binD]) (by simp only [walk]; rw [if_pos (by omega)]) (by omega) (by simp) rfl (h2.less (by rw [len]; omega)) fun x hx M f hf => by
        obtain ⟨r, f', e, g0, g1, hf'⟩ := drC (n + 1) (i := 0) (ς := [.own true f, .no, .shr (.str letters), .shr x]) (b := true) 26 (N := M) rfl hf (by omega) (by omega)
        have hl : letters.cps.toList.length = 26 := by decide +kernel
        obtain ⟨c, hc, e4⟩ := at_some (xs := letters.cps.toList) g0 (by rw [hl]; exact g1)
        have lz : letters.length ≤ sizeLine := by decide +kernel
        have e5 : idxD (.str letters) (.int r) = .ok (.str ⟨#[c]⟩) := by simp only [idxD, lz, if_true, e4]
        refine ⟨.str ⟨#[c]⟩, false, f', ?_, ⟨c, hc, rfl⟩, hf'⟩
        simp only [List.set_cons_zero, List.set_cons_succ] at e ⊢
        simp [Iq.run, ioFit, evB, evS, evE.eq_1, evE.eq_2, evE.eq_3, evE.eq_4, evE.eq_5, evE.eq_6, evE.eq_7, evE.eq_8, evE.eq_9, evE.eq_10, evE.eq_11, evE.eq_12, evE.eq_13, evE.eq_14, evE.eq_15, evE.eq_16, evE.eq_17, evE.eq_19, evE.eq_20, evE.eq_21, evE.eq_22, evE.eq_24, evE.eq_25, evE.eq_26, evE.eq_27, evE.eq_28, evE.eq_29, evE.eq_30, evE.eq_31, evE.eq_32, evL, evA, evO, evT, Iq.hd, deref, R.bind_ok, R.bind_bad, truth, intOf, callG, hdS, argsS, argS, putOuts, setOwn, outs, isOwn, e, e5]
    obtain ⟨cs, rfl, hcs⟩ := ds_is pd
    have cl : cs.length ≤ 100 := by
      rw [List.length_map, len] at dl
      omega
    have jn := join_go cl
    refine ⟨.str (Txt.join "" (cs.map fun c => (⟨#[c]⟩ : Str))), f3, ?_, ?_, h3⟩
    · have nu : outs [.own true f3, .no, .shr (.str letters), .no] 0 [true] = .ok [f3] := rfl
      refine run_io (ς' := [.own true f3, .no, .shr (.str letters), .no]) ⟨rfl, by decide, by decide, rfl⟩ (ev_nx (s := f21.body.getD 0 .nev) q0 (ev_nx (s := f21.body.getD 1 .nev) q1 (ev_rt (s := f21.body.getD 2 .nev) ?_))) nu
      simp only [List.set_cons_zero] at e3
      simp only [f21, List.getD_cons_zero, List.getD_cons_succ]
      simp [Iq.run, ioFit, evB, evS, evE.eq_1, evE.eq_2, evE.eq_3, evE.eq_4, evE.eq_5, evE.eq_6, evE.eq_7, evE.eq_8, evE.eq_9, evE.eq_10, evE.eq_11, evE.eq_12, evE.eq_13, evE.eq_14, evE.eq_15, evE.eq_16, evE.eq_17, evE.eq_19, evE.eq_20, evE.eq_21, evE.eq_22, evE.eq_24, evE.eq_25, evE.eq_26, evE.eq_27, evE.eq_28, evE.eq_29, evE.eq_30, evE.eq_31, evE.eq_32, evL, evA, evO, evT, Iq.hd, deref, R.bind_ok, R.bind_bad, truth, intOf, callG, hdS, argsS, argS, putOuts, setOwn, outs, isOwn, e3, jn]
    · have ji := join_is cs
      simp only [nmB, okS, Bool.and_eq_true, decide_eq_true_eq, PyData.strOk]
      generalize Txt.join "" (cs.map fun c => (⟨#[c]⟩ : Str)) = T at ji
      constructor
      · have : T.length = T.cps.toList.length := by simp [Str.length]
        rw [this, ji]; exact cl
      · rw [Array.all_eq_true_iff_forall_mem]
        intro x hx
        rw [← Array.mem_toList_iff, ji] at hx
        exact decide_eq_true (let_small x (hcs x hx))
end Q
set_option Elab.async false
set_option linter.all false
set_option maxRecDepth 100000
set_option maxHeartbeats 4000000
namespace Q
open PySem L2 Iq
theorem put_len {α : Type} [DecidableEq α] {lt : α → α → Bool} {x : α} : ∀ l : List α, (Ss.put lt x l).length ≤ l.length + 1
  | [] => by simp [Ss.put]
  | y :: r => by
    unfold Ss.put
    split
    · simp
    · cases lt x y
      · simp only [cond_false, List.length_cons]
        have := put_len (lt := lt) (x := x) r
        omega
      · simp
theorem srt_len {α : Type} [DecidableEq α] {lt : α → α → Bool} : ∀ l : List α, (Ss.srt lt l).length ≤ l.length
  | [] => by simp [Ss.srt]
  | y :: r => by
    simp only [Ss.srt, List.length_cons]
    exact Nat.le_trans (put_len _) (Nat.succ_le_succ (srt_len r))
theorem nm_str {d : D} (h : nmB d = true) : strB d = true := by
  cases d <;> simp only [nmB] at h <;> first | rfl | cases h
/-- sorted(set(names)) -/
theorem srs_nm {ds : List D} (h : ∀ d ∈ ds, nmB d = true) (l : ds.length < 4000) : ∃ ys, srsD (.lst ds) = .ok (.lst ys) ∧ (∀ y ∈ ys, nmB y = true) ∧ ys.length ≤ ds.length := by
  obtain ⟨ts, rfl⟩ := all_strs fun x hx => nm_str (h x hx)
  rw [List.length_map] at l
  refine ⟨_, srs_strs (.inr rfl) l, fun y hy => ?_, ?_⟩
  · obtain ⟨t, ht, rfl⟩ := List.mem_map.mp hy
    exact h _ (List.mem_map.mpr ⟨t, Ss.mem_srt.mp ht, rfl⟩)
  · simp only [List.length_map]
    exact srt_len ts
theorem labels (n : Nat) {N m : Nat} {f : D} (hm : m ≤ 4) (h : Fd (N + 50) f) : ∃ ts f', (Pn (n + 4)).fn 22 [.own true f, .shr (.int (m : Nat))] = .ok (.tup ts, false, [f']) ∧ (∀ t ∈ ts, nmB t = true) ∧ ts.length ≤ m ∧ Fd N f' := by
  rw [fn22]
  obtain ⟨r, f1, e1, r0, r1, h1⟩ := drE (n + 2) (i := 0) (a := .bin .Add (.var 1) (.con (.int 1))) (ς := [.own true f, .shr (.int (m : Nat)), .no]) (b := true) (fa := false) (m := (m : Int) + 1) (N := N + 49) (by simp [Iq.run, ioFit, evB, evS, evE.eq_1, evE.eq_2, evE.eq_3, evE.eq_4, evE.eq_5, evE.eq_6, evE.eq_7, evE.eq_8, evE.eq_9, evE.eq_10, evE.eq_11, evE.eq_12, evE.eq_13, evE.eq_14, evE.eq_15, evE.eq_16, evE.eq_17, evE.eq_18, evE.eq_19, evE.eq_20, evE.eq_21, evE.eq_22, evE.eq_24, evE.eq_25, evE.eq_26, evE.eq_27, evE.eq_28, evE.eq_29, evE.eq_30, evE.eq_31, evE.eq_32, evL, evA, evO, evT, Iq.hd, deref, R.bind_ok, R.bind_bad, truth, intOf, callG, hdS, argsS, argS, putOuts, setOwn, outs, isOwn, binD]) rfl h (by omega) (by omega)
  simp only [List.set_cons_zero] at e1
  have len : (Iq.upTo 0 r.toNat).length = r.toNat := by simp [Iq.upTo]
  obtain ⟨ds, f2, e2, pd, dl, h2⟩ := comp_draw (P := Pn (n + 3)) (e := .call 21 [.var 0]) (j := 2) (k := .rng) (ss := [.call 19 [.var 0, .bin .Add (.var 1) (.con (.int 1))]]) (ς0 := [.own true f, .shr (.int (m : Nat)), .no]) (ς := [.own true f, .shr (.int (m : Nat)), .no])
    (rs := [.int r]) (xs := Iq.upTo 0 r.toNat) (b := true) (f := f1) (c := 12) (N := N) (Pd := fun d => nmB d = true)
    (by simp only [evL, e1, R.bind_ok, List.set_cons_zero]) (by simp only [walk]; rw [if_pos (by omega)]) (by omega) (by simp) rfl (h1.less (by rw [len]; omega)) fun x hx M f hf => by
      obtain ⟨d, f', e, g, hf'⟩ := label n hf
      exact ⟨d, false, f', call1 (io21 _) rfl e, g, hf'⟩
  obtain ⟨ys, e3, g3, l3⟩ := srs_nm pd (by rw [dl, len]; omega)
  refine ⟨ys, f2, ?_, g3, by rw [dl, len] at l3; omega, h2⟩
  have nu : outs [.own true f2, .shr (.int (m : Nat)), .no] 0 [true, false] = .ok [f2] := rfl
  refine run_io (ς' := [.own true f2, .shr (.int (m : Nat)), .no]) ⟨rfl, by decide, by decide, rfl⟩ (ev_rt (s := f22.body.getD 0 .nev) ?_) nu
  simp only [List.set_cons_zero] at e2
  simp only [f22, List.getD_cons_zero]
  show evS (Pn (n + 3)) _ [.own true f, .shr (.int (m : Nat)), .no] = _
  simp [Iq.run, ioFit, evB, evS, evE.eq_1, evE.eq_2, evE.eq_3, evE.eq_4, evE.eq_5, evE.eq_6, evE.eq_7, evE.eq_8, evE.eq_9, evE.eq_10, evE.eq_11, evE.eq_12, evE.eq_13, evE.eq_14, evE.eq_15, evE.eq_16, evE.eq_17, evE.eq_19, evE.eq_20, evE.eq_21, evE.eq_22, evE.eq_24, evE.eq_25, evE.eq_26, evE.eq_27, evE.eq_28, evE.eq_29, evE.eq_30, evE.eq_31, evE.eq_32, evL, evA, evO, evT, Iq.hd, deref, R.bind_ok, R.bind_bad, truth, intOf, callG, hdS, argsS, argS, putOuts, setOwn, outs, isOwn, e2, e3, biD]
/-! ### instructions drawn -/
theorem okB_tup {l k : Nat} {xs : List D} (h : ∀ x ∈ xs, okB l k x = true) (hl : xs.length ≤ l) : okB l (k + 1) (.tup xs) = true := by
  simp only [okB, Bool.and_eq_true, decide_eq_true_eq, List.all_eq_true]
  exact ⟨hl, h⟩
theorem okB_lst {l k : Nat} {xs : List D} (h : ∀ x ∈ xs, okB l k x = true) (hl : xs.length ≤ l) : okB l (k + 1) (.lst xs) = true := by
  simp only [okB, Bool.and_eq_true, decide_eq_true_eq, List.all_eq_true]
  exact ⟨hl, h⟩
theorem nm_tup {ts : List D} (h : ∀ t ∈ ts, nmB t = true) (l : ts.length ≤ 100) (k : Nat) : okB 100 (k + 1) (.tup ts) = true := okB_tup (fun x hx => nm_g (h x hx) k) l
abbrev B35 (i : Nat) : Sm := f35.body.getD i .nev
abbrev S35 (f : D) (w t : Int) : List Sl := [.own true f, .shr (.int w), .shr (.int t), .no, .no, .no]
theorem x_0 (n : Nat) {N : Nat} {f : D} (h : Fd (N + 2) f) : ∃ w t f', evS (Pn (n + 1)) (B35 0) [.own true f, .no, .no, .no, .no, .no] = .ok (.nx, S35 f' w t) ∧ 0 ≤ w ∧ w < 8 ∧ 0 ≤ t ∧ t < 12 ∧ Fd N f' := by
  obtain ⟨w, f1, e1, w0, w1, h1⟩ := drC n (i := 0) (ς := [.own true f, .no, .no, .no, .no, .no]) (b := true) 8 (N := N + 1) rfl h (by omega) (by omega)
  obtain ⟨t, f2, e2, t0, t1, h2⟩ := drC n (i := 0) (ς := [.own true f1, .no, .no, .no, .no, .no]) (b := true) 12 (N := N) rfl h1 (by omega) (by omega)
  simp only [List.set_cons_zero] at e1 e2
  refine ⟨w, t, f2, ?_, w0, w1, t0, t1, h2⟩
  simp [B35, f35, Iq.run, ioFit, evB, evS, evE.eq_1, evE.eq_2, evE.eq_3, evE.eq_4, evE.eq_5, evE.eq_6, evE.eq_7, evE.eq_8, evE.eq_9, evE.eq_10, evE.eq_11, evE.eq_12, evE.eq_13, evE.eq_14, evE.eq_15, evE.eq_16, evE.eq_17, evE.eq_19, evE.eq_20, evE.eq_21, evE.eq_22, evE.eq_24, evE.eq_25, evE.eq_26, evE.eq_27, evE.eq_28, evE.eq_29, evE.eq_30, evE.eq_31, evE.eq_32, evL, evA, evO, evT, Iq.hd, deref, R.bind_ok, R.bind_bad, truth, intOf, callG, hdS, argsS, argS, putOuts, setOwn, outs, isOwn, e1, e2, bindT, setAll]
theorem x_1 (n : Nat) {N : Nat} {f : D} {w t : Int} (hw : w < 2) (h : Fd (N + 2) f) : ∃ d f', evS (Pn (n + 1)) (B35 1) (S35 f w t) = .ok (.rt d false, S35 f' w t) ∧ okB 100 4 d = true ∧ Fd N f' := by
  obtain ⟨a, f1, e1, _, _, h1⟩ := drC n (i := 0) (ς := S35 f w t) (b := true) 12 (N := N + 1) rfl h (by omega) (by omega)
  obtain ⟨b, f2, e2, _, _, h2⟩ := drC n (i := 0) (ς := S35 f1 w t) (b := true) 40 (N := N) rfl h1 (by omega) (by omega)
  simp only [List.set_cons_zero] at e1 e2
  have es := srs_ints (ts := [t, a, b]) (d := .lst [.int t, .int a, .int b]) (.inr rfl) (by simp)
  have sl := srt_len (lt := Ss.ltI) [t, a, b]
  refine ⟨.tup [.str "go", .tup ((Ss.srtI [t, a, b]).map .int)], f2, ?_, ?_, h2⟩
  · simp [B35, f35, Iq.run, ioFit, evB, evS, evE.eq_1, evE.eq_2, evE.eq_3, evE.eq_4, evE.eq_5, evE.eq_6, evE.eq_7, evE.eq_8, evE.eq_9, evE.eq_10, evE.eq_11, evE.eq_12, evE.eq_13, evE.eq_14, evE.eq_15, evE.eq_16, evE.eq_17, evE.eq_19, evE.eq_20, evE.eq_21, evE.eq_22, evE.eq_24, evE.eq_25, evE.eq_26, evE.eq_27, evE.eq_28, evE.eq_29, evE.eq_30, evE.eq_31, evE.eq_32, evL, evA, evO, evT, Iq.hd, deref, R.bind_ok, R.bind_bad, truth, intOf, callG, hdS, argsS, argS, putOuts, setOwn, outs, isOwn, cmpD, ltD, hw, e1, e2, es, biD]
  · refine okB_tup (fun x hx => ?_) (by simp)
    rcases List.mem_cons.mp hx with rfl | hx
    · decide +kernel
    · obtain rfl := List.mem_singleton.mp hx
      refine okB_tup (fun y hy => ?_) (by rw [List.length_map]; exact Nat.le_trans sl (by simp))
      obtain ⟨i, _, rfl⟩ := List.mem_map.mp hy
      rfl
theorem x_1n (n : Nat) {f : D} {w t : Int} (hw : ¬ w < 2) : evS (Pn n) (B35 1) (S35 f w t) = .ok (.nx, S35 f w t) := by
  simp [B35, f35, Iq.run, ioFit, evB, evS, evE.eq_1, evE.eq_2, evE.eq_3, evE.eq_4, evE.eq_5, evE.eq_6, evE.eq_7, evE.eq_8, evE.eq_9, evE.eq_10, evE.eq_11, evE.eq_12, evE.eq_13, evE.eq_14, evE.eq_15, evE.eq_16, evE.eq_17, evE.eq_19, evE.eq_20, evE.eq_21, evE.eq_22, evE.eq_24, evE.eq_25, evE.eq_26, evE.eq_27, evE.eq_28, evE.eq_29, evE.eq_30, evE.eq_31, evE.eq_32, evL, evA, evO, evT, Iq.hd, deref, R.bind_ok, R.bind_bad, truth, intOf, callG, hdS, argsS, argS, putOuts, setOwn, outs, isOwn, cmpD, ltD, hw]
end Q
set_option Elab.async false
set_option linter.all false
set_option maxRecDepth 100000
set_option maxHeartbeats 4000000
namespace Q
open PySem L2 Iq
theorem lab (n : Nat) {N i : Nat} {ς : List Sl} {b : Bool} {f : D} (hs : ς[i]? = some (.own b f)) (h : Fd (N + 12) f) : ∃ d f', evE (Pn (n + 3)) (.call 21 [.var i]) ς = .ok (d, false, ς.set i (.own b f')) ∧ nmB d = true ∧ Fd N f' := by
  obtain ⟨d, f', e, g⟩ := label n h
  exact ⟨d, f', call1 (io21 _) hs e, g⟩
theorem labs (n : Nat) {N i m : Nat} {ς : List Sl} {b : Bool} {f : D} (hm : m ≤ 4) (hs : ς[i]? = some (.own b f)) (h : Fd (N + 50) f) : ∃ ts f', evE (Pn (n + 4)) (.call 22 [.var i, .con (.int (m : Nat))]) ς = .ok (.tup ts, false, ς.set i (.own b f')) ∧ (∀ t ∈ ts, nmB t = true) ∧ ts.length ≤ m ∧ Fd N f' := by
  obtain ⟨d, f', e, g⟩ := labels n hm h
  exact ⟨d, f', call2 (fa := false) (io22 _) hs (by simp only [evE.eq_2]) e, g⟩
theorem s_empty : okS 100 "" = true := by decide +kernel
theorem x_2 (n : Nat) {N : Nat} {f : D} {t : Int} (h : Fd (N + 37) f) : ∃ d f', evS (Pn (n + 3)) (B35 2) (S35 f 2 t) = .ok (.rt d false, S35 f' 2 t) ∧ okB 100 4 d = true ∧ Fd N f' := by
  obtain ⟨a, f1, e1, g1, h1⟩ := lab n (i := 0) (ς := S35 f 2 t) (b := true) (N := N + 25) rfl h
  obtain ⟨b, f2, e2, g2, h2⟩ := lab n (i := 0) (ς := S35 f1 2 t) (b := true) (N := N + 13) rfl h1
  obtain ⟨c, f3, e3, g3, h3⟩ := lab n (i := 0) (ς := S35 f2 2 t) (b := true) (N := N + 1) rfl h2
  obtain ⟨r, f4, e4, r0, r1, h4⟩ := drC (n + 2) (i := 0) (ς := S35 f3 2 t) (b := true) 2 (N := N) rfl h3 (by omega) (by omega)
  simp only [List.set_cons_zero] at e1 e2 e3 e4
  obtain ⟨x, hx, ex⟩ := at_some (xs := [.str "", c]) r0 (by simpa using r1)
  have gx : nmB x = true := by
    rcases List.mem_cons.mp hx with rfl | hx
    · exact s_empty
    · obtain rfl := List.mem_singleton.mp hx; exact g3
  refine ⟨.tup [.str "fork", a, b, x, .int t], f4, ?_, ?_, h4⟩
  · simp [B35, f35, Iq.run, ioFit, evB, evS, evE.eq_1, evE.eq_2, evE.eq_3, evE.eq_4, evE.eq_5, evE.eq_6, evE.eq_7, evE.eq_8, evE.eq_9, evE.eq_10, evE.eq_11, evE.eq_12, evE.eq_13, evE.eq_14, evE.eq_15, evE.eq_16, evE.eq_17, evE.eq_19, evE.eq_20, evE.eq_21, evE.eq_22, evE.eq_24, evE.eq_25, evE.eq_26, evE.eq_27, evE.eq_28, evE.eq_29, evE.eq_30, evE.eq_31, evE.eq_32, evL, evA, evO, evT, Iq.hd, deref, R.bind_ok, R.bind_bad, truth, intOf, callG, hdS, argsS, argS, putOuts, setOwn, outs, isOwn, cmpD, int_eq, e1, e2, e3, e4, idxD, ex]
  · refine okB_tup (fun y hy => ?_) (by simp)
    simp only [List.mem_cons, List.not_mem_nil, or_false] at hy
    rcases hy with rfl | rfl | rfl | rfl | rfl
    · decide +kernel
    · exact nm_g g1 _
    · exact nm_g g2 _
    · exact nm_g gx _
    · rfl
theorem x_2n (n : Nat) {f : D} {w t : Int} (hw : w ≠ 2) : evS (Pn n) (B35 2) (S35 f w t) = .ok (.nx, S35 f w t) := by
  have : (w == 2) = false := beq_eq_false_iff_ne.mpr hw
  simp [B35, f35, Iq.run, ioFit, evB, evS, evE.eq_1, evE.eq_2, evE.eq_3, evE.eq_4, evE.eq_5, evE.eq_6, evE.eq_7, evE.eq_8, evE.eq_9, evE.eq_10, evE.eq_11, evE.eq_12, evE.eq_13, evE.eq_14, evE.eq_15, evE.eq_16, evE.eq_17, evE.eq_19, evE.eq_20, evE.eq_21, evE.eq_22, evE.eq_24, evE.eq_25, evE.eq_26, evE.eq_27, evE.eq_28, evE.eq_29, evE.eq_30, evE.eq_31, evE.eq_32, evL, evA, evO, evT, Iq.hd, deref, R.bind_ok, R.bind_bad, truth, intOf, callG, hdS, argsS, argS, putOuts, setOwn, outs, isOwn, cmpD, int_eq, this]
theorem x_3n (n : Nat) {f : D} {w t : Int} (hw : ¬ w < 5) : evS (Pn n) (B35 3) (S35 f w t) = .ok (.nx, S35 f w t) := by
  simp [B35, f35, Iq.run, ioFit, evB, evS, evE.eq_1, evE.eq_2, evE.eq_3, evE.eq_4, evE.eq_5, evE.eq_6, evE.eq_7, evE.eq_8, evE.eq_9, evE.eq_10, evE.eq_11, evE.eq_12, evE.eq_13, evE.eq_14, evE.eq_15, evE.eq_16, evE.eq_17, evE.eq_19, evE.eq_20, evE.eq_21, evE.eq_22, evE.eq_24, evE.eq_25, evE.eq_26, evE.eq_27, evE.eq_28, evE.eq_29, evE.eq_30, evE.eq_31, evE.eq_32, evL, evA, evO, evT, Iq.hd, deref, R.bind_ok, R.bind_bad, truth, intOf, callG, hdS, argsS, argS, putOuts, setOwn, outs, isOwn, cmpD, ltD, hw]
theorem x_4 (n : Nat) {N : Nat} {f : D} {w t : Int} (h5 : 5 ≤ w) (hw : w < 7) (h : Fd (N + 12) f) : ∃ d f', evS (Pn (n + 3)) (B35 4) (S35 f w t) = .ok (.rt d false, S35 f' w t) ∧ okB 100 4 d = true ∧ Fd N f' := by
  obtain ⟨a, f1, e1, g1, h1⟩ := lab n (i := 0) (ς := S35 f w t) (b := true) (N := N) rfl h
  simp only [List.set_cons_zero] at e1
  obtain ⟨x, hx, ex⟩ := at_some (xs := [D.str "kill", .str "release"]) (r := w - 5) (by omega) (by simp; omega)
  have gx : nmB x = true := by
    rcases List.mem_cons.mp hx with rfl | hx
    · decide +kernel
    · obtain rfl := List.mem_singleton.mp hx; decide +kernel
  refine ⟨.tup [x, a, .int t], f1, ?_, ?_, h1⟩
  · simp [B35, f35, Iq.run, ioFit, evB, evS, evE.eq_1, evE.eq_2, evE.eq_3, evE.eq_4, evE.eq_5, evE.eq_6, evE.eq_7, evE.eq_8, evE.eq_9, evE.eq_10, evE.eq_11, evE.eq_12, evE.eq_13, evE.eq_14, evE.eq_15, evE.eq_16, evE.eq_17, evE.eq_19, evE.eq_20, evE.eq_21, evE.eq_22, evE.eq_24, evE.eq_25, evE.eq_26, evE.eq_27, evE.eq_28, evE.eq_29, evE.eq_30, evE.eq_31, evE.eq_32, evL, evA, evO, evT, Iq.hd, deref, R.bind_ok, R.bind_bad, truth, intOf, callG, hdS, argsS, argS, putOuts, setOwn, outs, isOwn, cmpD, ltD, hw, e1, idxD, ex, binD]
  · refine okB_tup (fun y hy => ?_) (by simp)
    simp only [List.mem_cons, List.not_mem_nil, or_false] at hy
    rcases hy with rfl | rfl | rfl
    · exact nm_g gx _
    · exact nm_g g1 _
    · rfl
theorem x_4n (n : Nat) {f : D} {w t : Int} (hw : ¬ w < 7) : evS (Pn n) (B35 4) (S35 f w t) = .ok (.nx, S35 f w t) := by
  simp [B35, f35, Iq.run, ioFit, evB, evS, evE.eq_1, evE.eq_2, evE.eq_3, evE.eq_4, evE.eq_5, evE.eq_6, evE.eq_7, evE.eq_8, evE.eq_9, evE.eq_10, evE.eq_11, evE.eq_12, evE.eq_13, evE.eq_14, evE.eq_15, evE.eq_16, evE.eq_17, evE.eq_19, evE.eq_20, evE.eq_21, evE.eq_22, evE.eq_24, evE.eq_25, evE.eq_26, evE.eq_27, evE.eq_28, evE.eq_29, evE.eq_30, evE.eq_31, evE.eq_32, evL, evA, evO, evT, Iq.hd, deref, R.bind_ok, R.bind_bad, truth, intOf, callG, hdS, argsS, argS, putOuts, setOwn, outs, isOwn, cmpD, ltD, hw]
theorem x_5 (n : Nat) {N : Nat} {f : D} {w t : Int} (h : Fd (N + 1) f) : ∃ d f', evS (Pn (n + 1)) (B35 5) (S35 f w t) = .ok (.rt d false, S35 f' w t) ∧ okB 100 4 d = true ∧ Fd N f' := by
  obtain ⟨r, f4, e4, r0, r1, h4⟩ := drC n (i := 0) (ς := S35 f w t) (b := true) 2 (N := N) rfl h (by omega) (by omega)
  simp only [List.set_cons_zero] at e4
  refine ⟨.tup [.str "exit", .int r], f4, ?_, ?_, h4⟩
  · simp [B35, f35, Iq.run, ioFit, evB, evS, evE.eq_1, evE.eq_2, evE.eq_3, evE.eq_4, evE.eq_5, evE.eq_6, evE.eq_7, evE.eq_8, evE.eq_9, evE.eq_10, evE.eq_11, evE.eq_12, evE.eq_13, evE.eq_14, evE.eq_15, evE.eq_16, evE.eq_17, evE.eq_19, evE.eq_20, evE.eq_21, evE.eq_22, evE.eq_24, evE.eq_25, evE.eq_26, evE.eq_27, evE.eq_28, evE.eq_29, evE.eq_30, evE.eq_31, evE.eq_32, evL, evA, evO, evT, Iq.hd, deref, R.bind_ok, R.bind_bad, truth, intOf, callG, hdS, argsS, argS, putOuts, setOwn, outs, isOwn, e4]
  · refine okB_tup (fun y hy => ?_) (by simp)
    simp only [List.mem_cons, List.not_mem_nil, or_false] at hy
    rcases hy with rfl | rfl
    · decide +kernel
    · rfl
def B35b : List Sm := match B35 3 with
  | .ife _ p _ => p
  | _ => []
theorem x_3 (n : Nat) {N : Nat} {f : D} {w t : Int} (h3 : 3 ≤ w) (hw : w < 5) (h : Fd (N + 200) f) : ∃ d f' s3 s4 s5, evS (Pn (n + 4)) (B35 3) (S35 f w t) = .ok (.rt d false, [.own true f', .shr (.int w), .shr (.int t), s3, s4, s5]) ∧ okB 100 4 d = true ∧ Fd N f' := by
  obtain ⟨ls, f1, e1, g1, l1, h1⟩ := labs n (m := 3) (i := 0) (ς := S35 f w t) (b := true) (N := N + 150) (by omega) rfl h
  simp only [List.set_cons_zero] at e1
  obtain ⟨ds, f2, e2, pd, dl, h2⟩ := comp_draw (P := Pn (n + 4)) (e := .tup [(.var 5), (.var 2), (.call 19 [(.var 0), (.con (.int 9))]), (.call 19 [(.var 0), (.con (.int 200))])]) (j := 5) (k := .seq) (ss := [.call 22 [.var 0, .con (.int 3)]]) (ς0 := S35 f w t) (ς := S35 f w t)
    (rs := [.tup ls]) (xs := ls) (b := true) (f := f1) (c := 2) (N := N + 140) (Pd := fun d => okB 100 2 d = true)
    (by
      have e1' : evE (Pn (n + 4)) (.call 22 [.var 0, .con (.int 3)]) (S35 f w t) = .ok (.tup ls, false, S35 f1 w t) := e1
      simp only [evL, e1', R.bind_ok, List.set_cons_zero]) rfl (by omega) (by simp) rfl (h1.less (by omega)) fun x hx M f hf => by
      obtain ⟨a, f', ea, _, _, hf'⟩ := drC (n + 3) (i := 0) (ς := [.own true f, .shr (.int w), .shr (.int t), .no, .no, .shr x]) (b := true) 9 (N := M + 1) rfl hf (by omega) (by omega)
      obtain ⟨b, f'', eb, _, _, hf''⟩ := drC (n + 3) (i := 0) (ς := [.own true f', .shr (.int w), .shr (.int t), .no, .no, .shr x]) (b := true) 200 (N := M) rfl hf' (by omega) (by omega)
      simp only [List.set_cons_zero] at ea eb
      refine ⟨.tup [x, .int t, .int a, .int b], false, f'', ?_, ?_, hf''⟩
      · simp only [List.set_cons_zero, List.set_cons_succ]
        simp [Iq.run, ioFit, evB, evS, evE.eq_1, evE.eq_2, evE.eq_3, evE.eq_4, evE.eq_5, evE.eq_6, evE.eq_7, evE.eq_8, evE.eq_9, evE.eq_10, evE.eq_11, evE.eq_12, evE.eq_13, evE.eq_14, evE.eq_15, evE.eq_16, evE.eq_17, evE.eq_19, evE.eq_20, evE.eq_21, evE.eq_22, evE.eq_24, evE.eq_25, evE.eq_26, evE.eq_27, evE.eq_28, evE.eq_29, evE.eq_30, evE.eq_31, evE.eq_32, evL, evA, evO, evT, Iq.hd, deref, R.bind_ok, R.bind_bad, truth, intOf, callG, hdS, argsS, argS, putOuts, setOwn, outs, isOwn, ea, eb]
      · refine okB_tup (fun y hy => ?_) (by simp)
        simp only [List.mem_cons, List.not_mem_nil, or_false] at hy
        rcases hy with rfl | rfl | rfl | rfl
        · exact nm_g (g1 _ hx) _
        · rfl
        · rfl
        · rfl
  simp only [List.set_cons_zero] at e2
  have gd : okB 100 3 (.tup ds) = true := okB_tup pd (by rw [dl]; omega)
  have i0 : evS (Pn (n + 4)) (B35b.getD 0 .nev) (S35 f w t) = .ok (.nx, [.own true f2, .shr (.int w), .shr (.int t), .shr (.tup ds), .no, .no]) := by
    simp only [B35b, B35, f35, List.getD_cons_zero, List.getD_cons_succ]
    simp [Iq.run, ioFit, evB, evS, evE.eq_1, evE.eq_2, evE.eq_3, evE.eq_4, evE.eq_5, evE.eq_6, evE.eq_7, evE.eq_8, evE.eq_9, evE.eq_10, evE.eq_11, evE.eq_12, evE.eq_13, evE.eq_14, evE.eq_15, evE.eq_16, evE.eq_17, evE.eq_19, evE.eq_20, evE.eq_21, evE.eq_22, evE.eq_24, evE.eq_25, evE.eq_26, evE.eq_27, evE.eq_28, evE.eq_29, evE.eq_30, evE.eq_31, evE.eq_32, evL, evA, evO, evT, Iq.hd, deref, R.bind_ok, R.bind_bad, truth, intOf, callG, hdS, argsS, argS, putOuts, setOwn, outs, isOwn, e2, biD]
  have en := eq_nilT gd (by decide)
  obtain ⟨p, f3, i1, h3'⟩ : ∃ p f3, evS (Pn (n + 4)) (B35b.getD 1 .nev) [.own true f2, .shr (.int w), .shr (.int t), .shr (.tup ds), .no, .no] = .ok (.nx, [.own true f3, .shr (.int w), .shr (.int t), .shr (.tup ds), .shr (.int p), .no]) ∧ Fd (N + 100) f3 := by
    obtain ⟨r, f3, e3, _, _, h3⟩ := drC (n + 3) (i := 0) (ς := [.own true f2, .shr (.int w), .shr (.int t), .shr (.tup ds), .no, .no]) (b := true) 9 (N := N + 139) rfl h2 (by omega) (by omega)
    simp only [List.set_cons_zero] at e3
    cases z : nilT (.tup ds) with
    | true => exact ⟨t, f2, by simp only [B35b, B35, f35, List.getD_cons_zero, List.getD_cons_succ]; simp [Iq.run, ioFit, evB, evS, evE.eq_1, evE.eq_2, evE.eq_3, evE.eq_4, evE.eq_5, evE.eq_6, evE.eq_7, evE.eq_8, evE.eq_9, evE.eq_10, evE.eq_11, evE.eq_12, evE.eq_13, evE.eq_14, evE.eq_15, evE.eq_16, evE.eq_17, evE.eq_19, evE.eq_20, evE.eq_21, evE.eq_22, evE.eq_24, evE.eq_25, evE.eq_26, evE.eq_27, evE.eq_28, evE.eq_29, evE.eq_30, evE.eq_31, evE.eq_32, evL, evA, evO, evT, Iq.hd, deref, R.bind_ok, R.bind_bad, truth, intOf, callG, hdS, argsS, argS, putOuts, setOwn, outs, isOwn, cmpD, notR, en, z], h2.less (by omega)⟩
    | false => exact ⟨r - 1, f3, by simp only [B35b, B35, f35, List.getD_cons_zero, List.getD_cons_succ]; simp [Iq.run, ioFit, evB, evS, evE.eq_1, evE.eq_2, evE.eq_3, evE.eq_4, evE.eq_5, evE.eq_6, evE.eq_7, evE.eq_8, evE.eq_9, evE.eq_10, evE.eq_11, evE.eq_12, evE.eq_13, evE.eq_14, evE.eq_15, evE.eq_16, evE.eq_17, evE.eq_19, evE.eq_20, evE.eq_21, evE.eq_22, evE.eq_24, evE.eq_25, evE.eq_26, evE.eq_27, evE.eq_28, evE.eq_29, evE.eq_30, evE.eq_31, evE.eq_32, evL, evA, evO, evT, Iq.hd, deref, R.bind_ok, R.bind_bad, truth, intOf, callG, hdS, argsS, argS, putOuts, setOwn, outs, isOwn, cmpD, notR, en, z, e3, binD], h3.less (by omega)⟩
  have cond : evT (Pn (n + 4)) (.at (.cmp .Lt (.var 1) (.con (.int 5)))) (S35 f w t) = .ok (true, S35 f w t) := by
    simp [Iq.run, ioFit, evB, evS, evE.eq_1, evE.eq_2, evE.eq_3, evE.eq_4, evE.eq_5, evE.eq_6, evE.eq_7, evE.eq_8, evE.eq_9, evE.eq_10, evE.eq_11, evE.eq_12, evE.eq_13, evE.eq_14, evE.eq_15, evE.eq_16, evE.eq_17, evE.eq_19, evE.eq_20, evE.eq_21, evE.eq_22, evE.eq_24, evE.eq_25, evE.eq_26, evE.eq_27, evE.eq_28, evE.eq_29, evE.eq_30, evE.eq_31, evE.eq_32, evL, evA, evO, evT, Iq.hd, deref, R.bind_ok, R.bind_bad, truth, intOf, callG, hdS, argsS, argS, putOuts, setOwn, outs, isOwn, cmpD, ltD, hw]
  have st : evS (Pn (n + 4)) (B35 3) (S35 f w t) = evB (Pn (n + 4)) [B35b.getD 0 .nev, B35b.getD 1 .nev, B35b.getD 2 .nev, B35b.getD 3 .nev] (S35 f w t) := by
    show evS (Pn (n + 4)) (.ife (.at (.cmp .Lt (.var 1) (.con (.int 5)))) [B35b.getD 0 .nev, B35b.getD 1 .nev, B35b.getD 2 .nev, B35b.getD 3 .nev] []) (S35 f w t) = _
    simp only [evS.eq_8, cond, R.bind_ok, cond_true]
  rw [st]
  by_cases w3 : w = 3
  · subst w3
    obtain ⟨gs, f4, e4, g4, l4, h4⟩ := labs n (m := 3) (i := 0) (ς := [.own true f3, .shr (.int 3), .shr (.int t), .shr (.tup ds), .shr (.int p), .no]) (b := true) (N := N) (by omega) rfl (h3'.less (by omega))
    have e4' : evE (Pn (n + 4)) (.call 22 [.var 0, .con (.int 3)]) [.own true f3, .shr (.int 3), .shr (.int t), .shr (.tup ds), .shr (.int p), .no] = .ok (.tup gs, false, [.own true f4, .shr (.int 3), .shr (.int t), .shr (.tup ds), .shr (.int p), .no]) := e4
    have i2 : evS (Pn (n + 4)) (B35b.getD 2 .nev) [.own true f3, .shr (.int 3), .shr (.int t), .shr (.tup ds), .shr (.int p), .no] = .ok (.rt (.tup [.str "wait", .tup ds, .int p, .int t, .tup gs]) false, [.own true f4, .shr (.int 3), .shr (.int t), .shr (.tup ds), .shr (.int p), .no]) := by
      simp only [B35b, B35, f35, List.getD_cons_zero, List.getD_cons_succ]
      simp [Iq.run, ioFit, evB, evS, evE.eq_1, evE.eq_2, evE.eq_3, evE.eq_4, evE.eq_5, evE.eq_6, evE.eq_7, evE.eq_8, evE.eq_9, evE.eq_10, evE.eq_11, evE.eq_12, evE.eq_13, evE.eq_14, evE.eq_15, evE.eq_16, evE.eq_17, evE.eq_19, evE.eq_20, evE.eq_21, evE.eq_22, evE.eq_24, evE.eq_25, evE.eq_26, evE.eq_27, evE.eq_28, evE.eq_29, evE.eq_30, evE.eq_31, evE.eq_32, evL, evA, evO, evT, Iq.hd, deref, R.bind_ok, R.bind_bad, truth, intOf, callG, hdS, argsS, argS, putOuts, setOwn, outs, isOwn, cmpD, int_eq, e4']
    refine ⟨_, f4, _, _, _, ev_nx i0 (ev_nx i1 (ev_rt i2)), ?_, h4⟩
    refine okB_tup (fun y hy => ?_) (by simp)
    simp only [List.mem_cons, List.not_mem_nil, or_false] at hy
    rcases hy with rfl | rfl | rfl | rfl | rfl
    · decide +kernel
    · exact gd
    · rfl
    · rfl
    · exact nm_tup g4 (by omega) _
  · obtain ⟨r, f4, e4, _, _, h4⟩ := drC (n + 3) (i := 0) (ς := [.own true f3, .shr (.int w), .shr (.int t), .shr (.tup ds), .shr (.int p), .no]) (b := true) 9 (N := N + 50) rfl (h3'.less (by omega)) (by omega) (by omega)
    obtain ⟨gs, f5, e5, g5, l5, h5⟩ := labs n (m := 3) (i := 0) (ς := [.own true f4, .shr (.int w), .shr (.int t), .shr (.tup ds), .shr (.int p), .no]) (b := true) (N := N) (by omega) rfl h4
    have e5' : evE (Pn (n + 4)) (.call 22 [.var 0, .con (.int 3)]) [.own true f4, .shr (.int w), .shr (.int t), .shr (.tup ds), .shr (.int p), .no] = .ok (.tup gs, false, [.own true f5, .shr (.int w), .shr (.int t), .shr (.tup ds), .shr (.int p), .no]) := e5
    simp only [List.set_cons_zero] at e4
    have i2 : evS (Pn (n + 4)) (B35b.getD 2 .nev) [.own true f3, .shr (.int w), .shr (.int t), .shr (.tup ds), .shr (.int p), .no] = .ok (.nx, [.own true f3, .shr (.int w), .shr (.int t), .shr (.tup ds), .shr (.int p), .no]) := by
      simp only [B35b, B35, f35, List.getD_cons_zero, List.getD_cons_succ]
      have w3' : (w == 3) = false := beq_eq_false_iff_ne.mpr w3
      simp [Iq.run, ioFit, evB, evS, evE.eq_1, evE.eq_2, evE.eq_3, evE.eq_4, evE.eq_5, evE.eq_6, evE.eq_7, evE.eq_8, evE.eq_9, evE.eq_10, evE.eq_11, evE.eq_12, evE.eq_13, evE.eq_14, evE.eq_15, evE.eq_16, evE.eq_17, evE.eq_19, evE.eq_20, evE.eq_21, evE.eq_22, evE.eq_24, evE.eq_25, evE.eq_26, evE.eq_27, evE.eq_28, evE.eq_29, evE.eq_30, evE.eq_31, evE.eq_32, evL, evA, evO, evT, Iq.hd, deref, R.bind_ok, R.bind_bad, truth, intOf, callG, hdS, argsS, argS, putOuts, setOwn, outs, isOwn, cmpD, int_eq, w3']
    have i3 : evS (Pn (n + 4)) (B35b.getD 3 .nev) [.own true f3, .shr (.int w), .shr (.int t), .shr (.tup ds), .shr (.int p), .no] = .ok (.rt (.tup [.str "poll", .tup ds, .int p, .int t, .int r, .tup gs]) false, [.own true f5, .shr (.int w), .shr (.int t), .shr (.tup ds), .shr (.int p), .no]) := by
      simp only [B35b, B35, f35, List.getD_cons_zero, List.getD_cons_succ]
      simp [Iq.run, ioFit, evB, evS, evE.eq_1, evE.eq_2, evE.eq_3, evE.eq_4, evE.eq_5, evE.eq_6, evE.eq_7, evE.eq_8, evE.eq_9, evE.eq_10, evE.eq_11, evE.eq_12, evE.eq_13, evE.eq_14, evE.eq_15, evE.eq_16, evE.eq_17, evE.eq_19, evE.eq_20, evE.eq_21, evE.eq_22, evE.eq_24, evE.eq_25, evE.eq_26, evE.eq_27, evE.eq_28, evE.eq_29, evE.eq_30, evE.eq_31, evE.eq_32, evL, evA, evO, evT, Iq.hd, deref, R.bind_ok, R.bind_bad, truth, intOf, callG, hdS, argsS, argS, putOuts, setOwn, outs, isOwn, e4, e5']
    refine ⟨_, f5, _, _, _, ev_nx i0 (ev_nx i1 (ev_nx i2 (ev_rt i3))), ?_, h5⟩
    refine okB_tup (fun y hy => ?_) (by simp)
    simp only [List.mem_cons, List.not_mem_nil, or_false] at hy
    rcases hy with rfl | rfl | rfl | rfl | rfl | rfl
    · decide +kernel
    · exact gd
    · rfl
    · rfl
    · rfl
    · exact nm_tup g5 (by omega) _
end Q
set_option Elab.async false
set_option linter.all false
set_option maxRecDepth 100000
set_option maxHeartbeats 4000000
namespace Q
open PySem L2 Iq
/-- a drawing def of the feed alone -/
theorem act (n : Nat) {N : Nat} {f : D} (h : Fd (N + 202) f) : ∃ d f', (Pn (n + 5)).fn 35 [.own true f] = .ok (d, false, [f']) ∧ okB 100 4 d = true ∧ Fd N f' := by
  rw [fn35]
  obtain ⟨w, t, f1, e0, w0, w1, t0, t1, h1⟩ := x_0 (n + 3) (N := N + 200) h
  have fin : ∀ {d f' s3 s4 s5}, evB (Pn (n + 4)) [B35 1, B35 2, B35 3, B35 4, B35 5] (S35 f1 w t) = .ok (.rt d false, [.own true f', .shr (.int w), .shr (.int t), s3, s4, s5]) → Iq.run (Pn (n + 4)) f35 (pack f35 [.own true f]) = .ok (d, false, [f']) := fun e =>
    run_io ⟨rfl, by decide, by decide, rfl⟩ (ev_nx (s := B35 0) e0 e) rfl
  by_cases a1 : w < 2
  · obtain ⟨d, f', e, g, h'⟩ := x_1 (n + 3) (N := N) (t := t) a1 (h1.less (by omega))
    exact ⟨d, f', fin (ev_rt e), g, h'⟩
  by_cases a2 : w = 2
  · subst a2
    obtain ⟨d, f', e, g, h'⟩ := x_2 (n + 1) (N := N) (t := t) (h1.less (by omega))
    exact ⟨d, f', fin (ev_nx (x_1n _ (by omega)) (ev_rt e)), g, h'⟩
  by_cases a3 : w < 5
  · obtain ⟨d, f', s3, s4, s5, e, g, h'⟩ := x_3 n (N := N) (t := t) (w := w) (by omega) a3 (h1.less (by omega))
    exact ⟨d, f', fin (ev_nx (x_1n _ (by omega)) (ev_nx (x_2n _ a2) (ev_rt e))), g, h'⟩
  by_cases a4 : w < 7
  · obtain ⟨d, f', e, g, h'⟩ := x_4 (n + 1) (N := N) (t := t) (w := w) (by omega) a4 (h1.less (by omega))
    exact ⟨d, f', fin (ev_nx (x_1n _ (by omega)) (ev_nx (x_2n _ a2) (ev_nx (x_3n _ a3) (ev_rt e)))), g, h'⟩
  · obtain ⟨d, f', e, g, h'⟩ := x_5 (n + 3) (N := N) (t := t) (w := w) (h1.less (by omega))
    exact ⟨d, f', fin (ev_nx (x_1n _ (by omega)) (ev_nx (x_2n _ a2) (ev_nx (x_3n _ a3) (ev_nx (x_4n _ a4) (ev_rt e))))), g, h'⟩
/-! ### odd values -/
def odds : List D := [.non, .bl true, .bl false, .int 0, .int 1, .int 2, .int 3, .int (-1), .int (-2), .int (10 ^ 59), .int (-10 ^ 59), .str "", .str "a", .str "B", .str "a b", .str "a1", .str "-", .str "go", .str "exit",
  .str "abcdefgh", .str "abcdefghi", .tup [], .lst [], .tup [.str "a"], .lst [.str "a"], .tup [.str "b", .str "a"], .tup [.str "a", .str "a"], .tup [.int 0], .lst [.int 0], .tup [.int 1, .int 0], .tup [.int 0, .int (-1)],
  .tup [.int 0, .int 2], .tup [.str "a", .int 0, .int 0, .int 0], .tup [.tup [.str "a", .int 0, .int 0, .int 0]], .str "wait", .tup [.bl true], .tup [.int 0, .bl true]]
theorem odds_ok : odds.all (okB 100 2) = true := by decide +kernel
abbrev B37 (i : Nat) : Sm := f37.body.getD i .nev
theorem pw59 : binD .Pow (.int 10) (.int 59) = .ok (.int (10 ^ 59), false) := by rfl
theorem odd (n : Nat) {N : Nat} {f : D} (h : Fd (N + 1) f) : ∃ d f', (Pn (n + 3)).fn 37 [.own true f] = .ok (d, false, [f']) ∧ okB 100 2 d = true ∧ Fd N f' := by
  rw [fn37]
  obtain ⟨x, f', hx, e, h'⟩ := pick n (xs := odds) h (by decide) (by decide)
  refine ⟨x, f', ?_, List.all_eq_true.mp odds_ok x hx, h'⟩
  have z19 : (19 : Nat) + 12 ≤ sizeLine := Nat.le_trans (by decide) big
  have z31 : (31 : Nat) + 6 ≤ sizeLine := Nat.le_trans (by decide) big
  have q0 : evS (Pn (n + 2)) (B37 0) [.own true f, .no] = .ok (.nx, [.own true f, .own false (.lst (odds.take 19))]) := by
    simp [B37, f37, Iq.run, ioFit, evB, evS, evE.eq_1, evE.eq_2, evE.eq_3, evE.eq_4, evE.eq_5, evE.eq_6, evE.eq_7, evE.eq_8, evE.eq_9, evE.eq_10, evE.eq_11, evE.eq_12, evE.eq_13, evE.eq_14, evE.eq_15, evE.eq_16, evE.eq_17, evE.eq_19, evE.eq_20, evE.eq_21, evE.eq_22, evE.eq_24, evE.eq_25, evE.eq_26, evE.eq_27, evE.eq_28, evE.eq_29, evE.eq_30, evE.eq_31, evE.eq_32, evL, evA, evO, evT, Iq.hd, deref, R.bind_ok, R.bind_bad, truth, intOf, callG, hdS, argsS, argS, putOuts, setOwn, outs, isOwn, pw59, odds]
  have q1 : evS (Pn (n + 2)) (B37 1) [.own true f, .own false (.lst (odds.take 19))] = .ok (.nx, [.own true f, .own false (.lst (odds.take 31))]) := by
    simp [B37, f37, Iq.run, ioFit, evB, evS, evE.eq_1, evE.eq_2, evE.eq_3, evE.eq_4, evE.eq_5, evE.eq_6, evE.eq_7, evE.eq_8, evE.eq_9, evE.eq_10, evE.eq_11, evE.eq_12, evE.eq_13, evE.eq_14, evE.eq_15, evE.eq_16, evE.eq_17, evE.eq_19, evE.eq_20, evE.eq_21, evE.eq_22, evE.eq_24, evE.eq_25, evE.eq_26, evE.eq_27, evE.eq_28, evE.eq_29, evE.eq_30, evE.eq_31, evE.eq_32, evL, evA, evO, evT, Iq.hd, deref, R.bind_ok, R.bind_bad, truth, intOf, callG, hdS, argsS, argS, putOuts, setOwn, outs, isOwn, odds, binD, z19]
  have ea : evE (Pn (n + 2)) (.bin .Add (.var 1) (.lst [(.tup [(.con (.int 0)), (.con (.int 2))]), (.tup [(.con (.str "a")), (.con (.int 0)), (.con (.int 0)), (.con (.int 0))]), (.tup [(.tup [(.con (.str "a")), (.con (.int 0)), (.con (.int 0)), (.con (.int 0))])]), (.con (.str "wait")), (.tup [(.con (.bl true))]), (.tup [(.con (.int 0)), (.con (.bl true))])])) [.own true f, .own false (.lst (odds.take 31))]
      = .ok (.lst odds, true, [.own true f, .own false (.lst (odds.take 31))]) := by
    simp [Iq.run, ioFit, evB, evS, evE.eq_1, evE.eq_2, evE.eq_3, evE.eq_4, evE.eq_5, evE.eq_6, evE.eq_7, evE.eq_8, evE.eq_9, evE.eq_10, evE.eq_11, evE.eq_12, evE.eq_13, evE.eq_14, evE.eq_15, evE.eq_16, evE.eq_17, evE.eq_19, evE.eq_20, evE.eq_21, evE.eq_22, evE.eq_24, evE.eq_25, evE.eq_26, evE.eq_27, evE.eq_28, evE.eq_29, evE.eq_30, evE.eq_31, evE.eq_32, evL, evA, evO, evT, Iq.hd, deref, R.bind_ok, R.bind_bad, truth, intOf, callG, hdS, argsS, argS, putOuts, setOwn, outs, isOwn, odds, binD, z31]
  have e2 := call2g (k := 20) (i := 0) (b := true) (io20 _) rfl ea rfl e
  have nu : outs [.own true f', .own false (.lst (odds.take 31))] 0 [true] = .ok [f'] := rfl
  have q2 : evS (Pn (n + 2)) (B37 2) [.own true f, .own false (.lst (odds.take 31))] = .ok (.rt x false, [.own true f', .own false (.lst (odds.take 31))]) := by
    simp only [List.set_cons_zero] at e2
    simp only [B37, f37, List.getD_cons_zero, List.getD_cons_succ]
    simp only [evS, e2, R.bind_ok]
  exact run_io ⟨rfl, by decide, by decide, rfl⟩ (ev_nx (s := B37 0) q0 (ev_nx (s := B37 1) q1 (ev_rt (s := B37 2) q2))) nu
end Q
set_option Elab.async false
set_option linter.all false
set_option maxRecDepth 100000
set_option maxHeartbeats 4000000
namespace Q
open PySem L2 Iq
abbrev B36 (i : Nat) : Sm := f36.body.getD i .nev
abbrev S36 (f : D) (w m : Int) : List Sl := [.own true f, .shr (.int w), .shr (.int m), .no, .no, .no, .no, .no]
theorem y_0 (n : Nat) {N : Nat} {f : D} (h : Fd (N + 2) f) : ∃ w m f', evS (Pn (n + 1)) (B36 0) [.own true f, .no, .no, .no, .no, .no, .no, .no] = .ok (.nx, S36 f' w m) ∧ 0 ≤ w ∧ w < 9 ∧ 0 ≤ m ∧ Fd N f' := by
  obtain ⟨w, f1, e1, w0, w1, h1⟩ := drC n (i := 0) (ς := [.own true f, .no, .no, .no, .no, .no, .no, .no]) (b := true) 9 (N := N + 1) rfl h (by omega) (by omega)
  obtain ⟨t, f2, e2, t0, t1, h2⟩ := drC n (i := 0) (ς := [.own true f1, .no, .no, .no, .no, .no, .no, .no]) (b := true) 300 (N := N) rfl h1 (by omega) (by omega)
  simp only [List.set_cons_zero] at e1 e2
  refine ⟨w, t, f2, ?_, w0, w1, t0, h2⟩
  simp [B36, f36, Iq.run, ioFit, evB, evS, evE.eq_1, evE.eq_2, evE.eq_3, evE.eq_4, evE.eq_5, evE.eq_6, evE.eq_7, evE.eq_8, evE.eq_9, evE.eq_10, evE.eq_11, evE.eq_12, evE.eq_13, evE.eq_14, evE.eq_15, evE.eq_16, evE.eq_17, evE.eq_19, evE.eq_20, evE.eq_21, evE.eq_22, evE.eq_24, evE.eq_25, evE.eq_26, evE.eq_27, evE.eq_28, evE.eq_29, evE.eq_30, evE.eq_31, evE.eq_32, evL, evA, evO, evT, Iq.hd, deref, R.bind_ok, R.bind_bad, truth, intOf, callG, hdS, argsS, argS, putOuts, setOwn, outs, isOwn, e1, e2, setAll]
theorem y_1 (n : Nat) {N : Nat} {f : D} {w m : Int} (hw : w < 4) (h : Fd (N + 202) f) : ∃ d f', evS (Pn (n + 5)) (B36 1) (S36 f w m) = .ok (.rt d false, S36 f' w m) ∧ okB 100 4 d = true ∧ Fd N f' := by
  obtain ⟨d, f', e, g, h'⟩ := act n h
  have e' := call1 (n := n + 5) (k := 35) (i := 0) (ς := S36 f w m) (b := true) (io35 _) rfl e
  simp only [List.set_cons_zero] at e'
  refine ⟨d, f', ?_, g, h'⟩
  simp [B36, f36, Iq.run, ioFit, evB, evS, evE.eq_1, evE.eq_2, evE.eq_3, evE.eq_4, evE.eq_5, evE.eq_6, evE.eq_7, evE.eq_8, evE.eq_9, evE.eq_10, evE.eq_11, evE.eq_12, evE.eq_13, evE.eq_14, evE.eq_15, evE.eq_16, evE.eq_17, evE.eq_19, evE.eq_20, evE.eq_21, evE.eq_22, evE.eq_24, evE.eq_25, evE.eq_26, evE.eq_27, evE.eq_28, evE.eq_29, evE.eq_30, evE.eq_31, evE.eq_32, evL, evA, evO, evT, Iq.hd, deref, R.bind_ok, R.bind_bad, truth, intOf, callG, hdS, argsS, argS, putOuts, setOwn, outs, isOwn, cmpD, ltD, hw, e']
theorem y_1n (n : Nat) {f : D} {w m : Int} (hw : ¬ w < 4) : evS (Pn n) (B36 1) (S36 f w m) = .ok (.nx, S36 f w m) := by
  simp [B36, f36, Iq.run, ioFit, evB, evS, evE.eq_1, evE.eq_2, evE.eq_3, evE.eq_4, evE.eq_5, evE.eq_6, evE.eq_7, evE.eq_8, evE.eq_9, evE.eq_10, evE.eq_11, evE.eq_12, evE.eq_13, evE.eq_14, evE.eq_15, evE.eq_16, evE.eq_17, evE.eq_19, evE.eq_20, evE.eq_21, evE.eq_22, evE.eq_24, evE.eq_25, evE.eq_26, evE.eq_27, evE.eq_28, evE.eq_29, evE.eq_30, evE.eq_31, evE.eq_32, evL, evA, evO, evT, Iq.hd, deref, R.bind_ok, R.bind_bad, truth, intOf, callG, hdS, argsS, argS, putOuts, setOwn, outs, isOwn, cmpD, ltD, hw]
theorem y_2n (n : Nat) {f : D} {w m : Int} (hw : w ≠ 4) : evS (Pn n) (B36 2) (S36 f w m) = .ok (.nx, S36 f w m) := by
  have : (w == 4) = false := beq_eq_false_iff_ne.mpr hw
  simp [B36, f36, Iq.run, ioFit, evB, evS, evE.eq_1, evE.eq_2, evE.eq_3, evE.eq_4, evE.eq_5, evE.eq_6, evE.eq_7, evE.eq_8, evE.eq_9, evE.eq_10, evE.eq_11, evE.eq_12, evE.eq_13, evE.eq_14, evE.eq_15, evE.eq_16, evE.eq_17, evE.eq_19, evE.eq_20, evE.eq_21, evE.eq_22, evE.eq_24, evE.eq_25, evE.eq_26, evE.eq_27, evE.eq_28, evE.eq_29, evE.eq_30, evE.eq_31, evE.eq_32, evL, evA, evO, evT, Iq.hd, deref, R.bind_ok, R.bind_bad, truth, intOf, callG, hdS, argsS, argS, putOuts, setOwn, outs, isOwn, cmpD, int_eq, this]
theorem y_3n (n : Nat) {f : D} {w m : Int} (hw : w ≠ 5) : evS (Pn n) (B36 3) (S36 f w m) = .ok (.nx, S36 f w m) := by
  have : (w == 5) = false := beq_eq_false_iff_ne.mpr hw
  simp [B36, f36, Iq.run, ioFit, evB, evS, evE.eq_1, evE.eq_2, evE.eq_3, evE.eq_4, evE.eq_5, evE.eq_6, evE.eq_7, evE.eq_8, evE.eq_9, evE.eq_10, evE.eq_11, evE.eq_12, evE.eq_13, evE.eq_14, evE.eq_15, evE.eq_16, evE.eq_17, evE.eq_19, evE.eq_20, evE.eq_21, evE.eq_22, evE.eq_24, evE.eq_25, evE.eq_26, evE.eq_27, evE.eq_28, evE.eq_29, evE.eq_30, evE.eq_31, evE.eq_32, evL, evA, evO, evT, Iq.hd, deref, R.bind_ok, R.bind_bad, truth, intOf, callG, hdS, argsS, argS, putOuts, setOwn, outs, isOwn, cmpD, int_eq, this]
theorem y_4n (n : Nat) {f : D} {w m : Int} (hw : ¬ w < 8) : evS (Pn n) (B36 4) (S36 f w m) = .ok (.nx, S36 f w m) := by
  simp [B36, f36, Iq.run, ioFit, evB, evS, evE.eq_1, evE.eq_2, evE.eq_3, evE.eq_4, evE.eq_5, evE.eq_6, evE.eq_7, evE.eq_8, evE.eq_9, evE.eq_10, evE.eq_11, evE.eq_12, evE.eq_13, evE.eq_14, evE.eq_15, evE.eq_16, evE.eq_17, evE.eq_19, evE.eq_20, evE.eq_21, evE.eq_22, evE.eq_24, evE.eq_25, evE.eq_26, evE.eq_27, evE.eq_28, evE.eq_29, evE.eq_30, evE.eq_31, evE.eq_32, evL, evA, evO, evT, Iq.hd, deref, R.bind_ok, R.bind_bad, truth, intOf, callG, hdS, argsS, argS, putOuts, setOwn, outs, isOwn, cmpD, ltD, hw]
theorem y_2 (n : Nat) {N : Nat} {f : D} {m : Int} (h : Fd (N + 1000) f) : ∃ d f' s3, evS (Pn (n + 5)) (B36 2) (S36 f 4 m) = .ok (.rt d false, [.own true f', .shr (.int 4), .shr (.int m), s3, .no, .no, .no, .no]) ∧ okB 100 6 d = true ∧ Fd N f' := by
  obtain ⟨r, f1, e1, r0, r1, h1⟩ := drC (n + 4) (i := 0) (ς := S36 f 4 m) (b := true) 4 (N := N + 999) rfl h (by omega) (by omega)
  simp only [List.set_cons_zero] at e1
  have len : (Iq.upTo 0 (1 + r).toNat).length = (1 + r).toNat := by simp [Iq.upTo]
  obtain ⟨ds, f2, e2, pd, dl, h2⟩ := comp_draw (P := Pn (n + 5)) (e := .call 35 [.var 0]) (j := 7) (k := .rng) (ss := [.bin .Add (.con (.int 1)) (.call 19 [.var 0, .con (.int 4)])]) (ς0 := S36 f 4 m) (ς := S36 f 4 m)
    (rs := [.int (1 + r)]) (xs := Iq.upTo 0 (1 + r).toNat) (b := true) (f := f1) (c := 202) (N := N + 100) (Pd := fun d => okB 100 4 d = true)
    (by simp [Iq.run, ioFit, evB, evS, evE.eq_1, evE.eq_2, evE.eq_3, evE.eq_4, evE.eq_5, evE.eq_6, evE.eq_7, evE.eq_8, evE.eq_9, evE.eq_10, evE.eq_11, evE.eq_12, evE.eq_13, evE.eq_14, evE.eq_15, evE.eq_16, evE.eq_17, evE.eq_19, evE.eq_20, evE.eq_21, evE.eq_22, evE.eq_24, evE.eq_25, evE.eq_26, evE.eq_27, evE.eq_28, evE.eq_29, evE.eq_30, evE.eq_31, evE.eq_32, evL, evA, evO, evT, Iq.hd, deref, R.bind_ok, R.bind_bad, truth, intOf, callG, hdS, argsS, argS, putOuts, setOwn, outs, isOwn, e1, binD]) (by simp only [walk]; rw [if_pos (by omega)]) (by omega) (by simp) rfl (h1.less (by rw [len]; omega)) fun x hx M f hf => by
      obtain ⟨d, f', e, g, hf'⟩ := act n hf
      exact ⟨d, false, f', call1 (io35 _) rfl e, g, hf'⟩
  simp only [List.set_cons_zero] at e2
  obtain ⟨a, f3, e3, g3, h3⟩ := lab (n + 2) (i := 0) (ς := [.own true f2, .shr (.int 4), .shr (.int m), .shr (.tup ds), .no, .no, .no, .no]) (b := true) (N := N + 88) rfl h2
  obtain ⟨ls, f4, e4, g4, l4, h4⟩ := labs (n + 1) (m := 3) (i := 0) (ς := [.own true f3, .shr (.int 4), .shr (.int m), .shr (.tup ds), .no, .no, .no, .no]) (b := true) (N := N) (by omega) rfl (h3.less (by omega))
  have e4' : evE (Pn (n + 5)) (.call 22 [.var 0, .con (.int 3)]) [.own true f3, .shr (.int 4), .shr (.int m), .shr (.tup ds), .no, .no, .no, .no] = .ok (.tup ls, false, [.own true f4, .shr (.int 4), .shr (.int m), .shr (.tup ds), .no, .no, .no, .no]) := e4
  simp only [List.set_cons_zero] at e3
  refine ⟨.tup [a, .tup ls, .tup ds], f4, .shr (.tup ds), ?_, ?_, h4⟩
  · simp [B36, f36, Iq.run, ioFit, evB, evS, evE.eq_1, evE.eq_2, evE.eq_3, evE.eq_4, evE.eq_5, evE.eq_6, evE.eq_7, evE.eq_8, evE.eq_9, evE.eq_10, evE.eq_11, evE.eq_12, evE.eq_13, evE.eq_14, evE.eq_15, evE.eq_16, evE.eq_17, evE.eq_19, evE.eq_20, evE.eq_21, evE.eq_22, evE.eq_24, evE.eq_25, evE.eq_26, evE.eq_27, evE.eq_28, evE.eq_29, evE.eq_30, evE.eq_31, evE.eq_32, evL, evA, evO, evT, Iq.hd, deref, R.bind_ok, R.bind_bad, truth, intOf, callG, hdS, argsS, argS, putOuts, setOwn, outs, isOwn, cmpD, int_eq, e2, biD, e3, e4']
  · refine okB_tup (fun y hy => ?_) (by simp)
    simp only [List.mem_cons, List.not_mem_nil, or_false] at hy
    rcases hy with rfl | rfl | rfl
    · exact nm_g g3 _
    · exact nm_tup g4 (by omega) _
    · exact okB_tup pd (by rw [dl, len]; omega)
abbrev words8 : List D := [.str "go", .str "take", .str "fork", .str "none", .str "later", .str "kill", .str "release", .str "exit"]
theorem words8_ok : words8.all nmB = true := by decide +kernel
theorem y_3 (n : Nat) {N : Nat} {f : D} {m : Int} (h : Fd (N + 2) f) : ∃ d f' s4 s5, evS (Pn (n + 1)) (B36 3) (S36 f 5 m) = .ok (.rt d false, [.own true f', .shr (.int 5), .shr (.int m), .no, s4, s5, .no, .no]) ∧ okB 100 6 d = true ∧ Fd N f' := by
  obtain ⟨r, f1, e1, r0, r1, h1⟩ := drC n (i := 0) (ς := [.own true f, .shr (.int 5), .shr (.int m), .no, .own false (.lst words8), .no, .no, .no]) (b := true) 8 (N := N + 1) rfl h (by omega) (by omega)
  obtain ⟨x, hx, ex⟩ := at_some (xs := words8) r0 (by simpa using r1)
  obtain ⟨c, f2, e2, _, _, h2⟩ := drC n (i := 0) (ς := [.own true f1, .shr (.int 5), .shr (.int m), .no, .own false (.lst words8), .shr (.int r), .no, .no]) (b := true) 40 (N := N) rfl h1 (by omega) (by omega)
  simp only [List.set_cons_zero] at e1 e2
  have gx := nm_g (List.all_eq_true.mp words8_ok x hx) 5
  by_cases z : r < 2
  · refine ⟨.tup [.int m, x, .int c], f2, .own false (.lst words8), .shr (.int r), ?_, ?_, h2⟩
    rotate_left
    · refine okB_tup (fun y hy => ?_) (by simp)
      simp only [List.mem_cons, List.not_mem_nil, or_false] at hy
      rcases hy with rfl | rfl | rfl
      · rfl
      · exact gx
      · rfl
    · simp [B36, f36, Iq.run, ioFit, evB, evS, evE.eq_1, evE.eq_2, evE.eq_3, evE.eq_4, evE.eq_5, evE.eq_6, evE.eq_7, evE.eq_8, evE.eq_9, evE.eq_10, evE.eq_11, evE.eq_12, evE.eq_13, evE.eq_14, evE.eq_15, evE.eq_16, evE.eq_17, evE.eq_19, evE.eq_20, evE.eq_21, evE.eq_22, evE.eq_24, evE.eq_25, evE.eq_26, evE.eq_27, evE.eq_28, evE.eq_29, evE.eq_30, evE.eq_31, evE.eq_32, evL, evA, evO, evT, Iq.hd, deref, R.bind_ok, R.bind_bad, truth, intOf, callG, hdS, argsS, argS, putOuts, setOwn, outs, isOwn, cmpD, int_eq, ltD, e1, idxD, ex, z, e2]
  · refine ⟨.tup [.int m, x, .int (-1)], f1, .own false (.lst words8), .shr (.int r), ?_, ?_, h1.less (by omega)⟩
    rotate_left
    · refine okB_tup (fun y hy => ?_) (by simp)
      simp only [List.mem_cons, List.not_mem_nil, or_false] at hy
      rcases hy with rfl | rfl | rfl
      · rfl
      · exact gx
      · rfl
    · simp [B36, f36, Iq.run, ioFit, evB, evS, evE.eq_1, evE.eq_2, evE.eq_3, evE.eq_4, evE.eq_5, evE.eq_6, evE.eq_7, evE.eq_8, evE.eq_9, evE.eq_10, evE.eq_11, evE.eq_12, evE.eq_13, evE.eq_14, evE.eq_15, evE.eq_16, evE.eq_17, evE.eq_19, evE.eq_20, evE.eq_21, evE.eq_22, evE.eq_24, evE.eq_25, evE.eq_26, evE.eq_27, evE.eq_28, evE.eq_29, evE.eq_30, evE.eq_31, evE.eq_32, evL, evA, evO, evT, Iq.hd, deref, R.bind_ok, R.bind_bad, truth, intOf, callG, hdS, argsS, argS, putOuts, setOwn, outs, isOwn, cmpD, int_eq, ltD, e1, idxD, ex, z]
theorem y_5 (n : Nat) {N : Nat} {f : D} {w m : Int} (h : Fd (N + 63) f) : ∃ d f', evS (Pn (n + 4)) (B36 5) (S36 f w m) = .ok (.rt d false, S36 f' w m) ∧ okB 100 6 d = true ∧ Fd N f' := by
  obtain ⟨a, f1, e1, g1, h1⟩ := lab (n + 1) (i := 0) (ς := S36 f w m) (b := true) (N := N + 51) rfl h
  obtain ⟨ls, f2, e2, g2, l2, h2⟩ := labs n (m := 4) (i := 0) (ς := S36 f1 w m) (b := true) (N := N + 1) (by omega) rfl (h1.less (by omega))
  obtain ⟨r, f3, e3, r0, r1, h3⟩ := drC (n + 3) (i := 0) (ς := S36 f2 w m) (b := true) 3 (N := N) rfl h2 (by omega) (by omega)
  have e2' : evE (Pn (n + 4)) (.call 22 [.var 0, .con (.int 4)]) (S36 f1 w m) = .ok (.tup ls, false, S36 f2 w m) := e2
  simp only [List.set_cons_zero] at e1 e3
  obtain ⟨x, hx, ex⟩ := at_some (xs := [D.int m, a, .tup ls]) r0 (by simpa using r1)
  refine ⟨x, f3, ?_, ?_, h3⟩
  · simp [B36, f36, Iq.run, ioFit, evB, evS, evE.eq_1, evE.eq_2, evE.eq_3, evE.eq_4, evE.eq_5, evE.eq_6, evE.eq_7, evE.eq_8, evE.eq_9, evE.eq_10, evE.eq_11, evE.eq_12, evE.eq_13, evE.eq_14, evE.eq_15, evE.eq_16, evE.eq_17, evE.eq_19, evE.eq_20, evE.eq_21, evE.eq_22, evE.eq_24, evE.eq_25, evE.eq_26, evE.eq_27, evE.eq_28, evE.eq_29, evE.eq_30, evE.eq_31, evE.eq_32, evL, evA, evO, evT, Iq.hd, deref, R.bind_ok, R.bind_bad, truth, intOf, callG, hdS, argsS, argS, putOuts, setOwn, outs, isOwn, e1, e2', e3, idxD, ex]
  · simp only [List.mem_cons, List.not_mem_nil, or_false] at hx
    rcases hx with rfl | rfl | rfl
    · rfl
    · exact nm_g g1 _
    · exact nm_tup g2 (by omega) _
end Q
set_option Elab.async false
set_option linter.all false
set_option maxRecDepth 100000
set_option maxHeartbeats 4000000
namespace Q
open PySem L2 Iq
abbrev conts (m : Int) : List D := [.tup [], .tup [.int m, .int (-1)], .tup [.int 0, .int 0], .tup [.int m, .int 1], .tup [.int 7, .int 2]]
theorem conts_ok (m : Int) : ∀ x ∈ conts m, okB 100 1 x = true := fun x hx => by
  simp only [conts, List.mem_cons, List.not_mem_nil, or_false] at hx
  rcases hx with rfl | rfl | rfl | rfl | rfl <;> rfl
abbrev T36 (f : D) (w m : Int) (s6 s7 : Sl) : List Sl := [.own true f, .shr (.int w), .shr (.int m), .no, .no, .no, s6, s7]
def Two (m : Int) (s : Sl) : Prop := s = .own false (.lst (conts m)) ∨ s = .shr (.lst (conts m))
theorem one20 (n : Nat) {N : Nat} {f : D} {w m : Int} {s6 s7 : Sl} (hs : Two m s6) (h : Fd (N + 1) f) : ∃ d f', evE (Pn (n + 2)) (.call 20 [.var 0, .var 6]) (T36 f w m s6 s7) = .ok (d, false, T36 f' w m (.shr (.lst (conts m))) s7) ∧ okB 100 1 d = true ∧ Fd N f' := by
  obtain ⟨x, f', hx, e, h'⟩ := pick n (xs := conts m) h (by simp) (by simp)
  have ea : evE (Pn (n + 2)) (.var 6) (T36 f w m s6 s7) = .ok (.lst (conts m), false, T36 f w m (.shr (.lst (conts m))) s7) := by
    rcases hs with rfl | rfl <;> simp [Iq.run, ioFit, evB, evS, evE.eq_1, evE.eq_2, evE.eq_3, evE.eq_4, evE.eq_5, evE.eq_6, evE.eq_7, evE.eq_8, evE.eq_9, evE.eq_10, evE.eq_11, evE.eq_12, evE.eq_13, evE.eq_14, evE.eq_15, evE.eq_16, evE.eq_17, evE.eq_19, evE.eq_20, evE.eq_21, evE.eq_22, evE.eq_24, evE.eq_25, evE.eq_26, evE.eq_27, evE.eq_28, evE.eq_29, evE.eq_30, evE.eq_31, evE.eq_32, evL, evA, evO, evT, Iq.hd, deref, R.bind_ok, R.bind_bad, truth, intOf, callG, hdS, argsS, argS, putOuts, setOwn, outs, isOwn]
  have e2 := call2g (k := 20) (i := 0) (b := true) (io20 _) rfl ea rfl e
  exact ⟨x, f', e2, conts_ok m x hx, h'⟩
theorem lc_20 (n : Nat) {N : Nat} {w m : Int} : ∀ (xs : List D) (f : D) (s6 s7 : Sl), Two m s6 → Fd (N + xs.length) f →
    ∃ ds f' t6 t7, lcGo (evQ (Pn (n + 2)) none) (evE (Pn (n + 2)) (.call 20 [.var 0, .var 6])) (.nm 7) xs (T36 f w m s6 s7) = .ok (ds, T36 f' w m t6 t7) ∧ (∀ d ∈ ds, okB 100 1 d = true) ∧ ds.length = xs.length ∧ Two m t6 ∧ Fd N f'
  | [], f, s6, s7, hs, h => ⟨[], f, s6, s7, rfl, by simp, rfl, hs, h.less (by simp)⟩
  | x :: xs, f, s6, s7, hs, h => by
    obtain ⟨d, f1, e1, pd, h1⟩ := one20 n (N := N + xs.length) (f := f) (w := w) (s7 := .shr x) hs (h.less (by simp only [List.length_cons]; omega))
    obtain ⟨ds, f2, t6, t7, e2, pds, len, ht, h2⟩ := lc_20 n (w := w) xs f1 (.shr (.lst (conts m))) (.shr x) (.inr rfl) h1
    refine ⟨d :: ds, f2, t6, t7, ?_, fun z hz => ?_, by simp [len], ht, h2⟩
    · have q : ∀ ς, evQ (Pn (n + 2)) none ς = .ok (true, ς) := fun ς => by simp only [evQ]
      have e1' : evE (Pn (n + 2)) (.call 20 [.var 0, .var 6]) (((T36 f w m s6 s7).set 7 .no).set 7 (.shr x)) = .ok (d, false, T36 f1 w m (.shr (.lst (conts m))) (.shr x)) := e1
      simp only [lcGo, bindT, tgS, wipeS, R.bind_ok, q, cond_true, e1', e2]
    · rcases List.mem_cons.mp hz with rfl | hz
      · exact pd
      · exact pds z hz
theorem y_4 (n : Nat) {N : Nat} {f : D} {w m : Int} (hw : w < 8) (h : Fd (N + 10) f) : ∃ d f' s6, evS (Pn (n + 2)) (B36 4) (S36 f w m) = .ok (.rt d false, T36 f' w m s6 .no) ∧ okB 100 6 d = true ∧ Fd N f' := by
  obtain ⟨a, f1, e1, _, _, h1⟩ := drC (n + 1) (i := 0) (ς := T36 f w m (.own false (.lst (conts m))) .no) (b := true) 40 (N := N + 9) rfl h (by omega) (by omega)
  obtain ⟨r, f2, e2, r0, r1, h2⟩ := drC (n + 1) (i := 0) (ς := T36 f1 w m (.own false (.lst (conts m))) .no) (b := true) 4 (N := N + 8) rfl h1 (by omega) (by omega)
  simp only [List.set_cons_zero] at e1 e2
  have len : (Iq.upTo 0 r.toNat).length = r.toNat := by simp [Iq.upTo]
  obtain ⟨ds, f3, t6, t7, e3, pd, dl, ht, h3⟩ := lc_20 n (N := N) (w := w) (m := m) (Iq.upTo 0 r.toNat) f2 (.own false (.lst (conts m))) .no (.inl rfl) (h2.less (by rw [len]; omega))
  have co := ev_comp (P := Pn (n + 2)) (ς := T36 f1 w m (.own false (.lst (conts m))) .no) (ς1 := T36 f2 w m (.own false (.lst (conts m))) .no) (e := .call 20 [.var 0, .var 6]) (t := .nm 7) (k := .rng) (ss := [.call 19 [.var 0, .con (.int 4)]]) (c := none) (rs := [.int r]) (xs := Iq.upTo 0 r.toNat)
    (by simp only [evL, e2, R.bind_ok]) (by simp only [walk]; rw [if_pos (by omega)]) rfl e3
  have bk : backS (T36 f2 w m (.own false (.lst (conts m))) .no) (tgS (.nm 7)) (T36 f3 w m t6 t7) = T36 f3 w m t6 .no := rfl
  rw [bk] at co
  refine ⟨.tup [.int a, .tup ds], f3, t6, ?_, ?_, h3⟩
  · simp only [T36] at e1 co
    simp [B36, f36, Iq.run, ioFit, evB, evS, evE.eq_1, evE.eq_2, evE.eq_3, evE.eq_4, evE.eq_5, evE.eq_6, evE.eq_7, evE.eq_8, evE.eq_9, evE.eq_10, evE.eq_11, evE.eq_12, evE.eq_13, evE.eq_14, evE.eq_15, evE.eq_16, evE.eq_17, evE.eq_19, evE.eq_20, evE.eq_21, evE.eq_22, evE.eq_24, evE.eq_25, evE.eq_26, evE.eq_27, evE.eq_28, evE.eq_29, evE.eq_30, evE.eq_31, evE.eq_32, evL, evA, evO, evT, Iq.hd, deref, R.bind_ok, R.bind_bad, truth, intOf, callG, hdS, argsS, argS, putOuts, setOwn, outs, isOwn, cmpD, ltD, hw, e1, co, biD]
  · refine okB_tup (fun y hy => ?_) (by simp)
    simp only [List.mem_cons, List.not_mem_nil, or_false] at hy
    rcases hy with rfl | rfl
    · rfl
    · exact okB_mono (Nat.le_refl _) (by omega) (okB_tup pd (by rw [dl, len]; omega))
theorem some_ (n : Nat) {N : Nat} {f : D} (h : Fd (N + 1002) f) : ∃ d f', (Pn (n + 6)).fn 36 [.own true f] = .ok (d, false, [f']) ∧ okB 100 6 d = true ∧ Fd N f' := by
  rw [fn36]
  obtain ⟨w, m, f1, e0, w0, w1, m0, h1⟩ := y_0 (n + 4) (N := N + 1000) h
  have fin : ∀ {d f' t}, evB (Pn (n + 5)) [B36 1, B36 2, B36 3, B36 4, B36 5] (S36 f1 w m) = .ok (.rt d false, .own true f' :: t) → Iq.run (Pn (n + 5)) f36 (pack f36 [.own true f]) = .ok (d, false, [f']) := fun e =>
    run_io ⟨rfl, by decide, by decide, rfl⟩ (ev_nx (s := B36 0) e0 e) rfl
  by_cases a1 : w < 4
  · obtain ⟨d, f', e, g, h'⟩ := y_1 n (N := N) (m := m) a1 (h1.less (by omega))
    exact ⟨d, f', fin (ev_rt e), okB_mono (Nat.le_refl _) (by omega) g, h'⟩
  by_cases a2 : w = 4
  · subst a2
    obtain ⟨d, f', s3, e, g, h'⟩ := y_2 n (N := N) (m := m) h1
    exact ⟨d, f', fin (ev_nx (y_1n _ (by omega)) (ev_rt e)), g, h'⟩
  by_cases a3 : w = 5
  · subst a3
    obtain ⟨d, f', s4, s5, e, g, h'⟩ := y_3 (n + 4) (N := N) (m := m) (h1.less (by omega))
    exact ⟨d, f', fin (ev_nx (y_1n _ (by omega)) (ev_nx (y_2n _ (by omega)) (ev_rt e))), g, h'⟩
  by_cases a4 : w < 8
  · obtain ⟨d, f', s6, e, g, h'⟩ := y_4 (n + 3) (N := N) (m := m) (w := w) a4 (h1.less (by omega))
    exact ⟨d, f', fin (ev_nx (y_1n _ (by omega)) (ev_nx (y_2n _ a2) (ev_nx (y_3n _ a3) (ev_rt e)))), g, h'⟩
  · obtain ⟨d, f', e, g, h'⟩ := y_5 (n + 1) (N := N) (m := m) (w := w) (h1.less (by omega))
    exact ⟨d, f', fin (ev_nx (y_1n _ (by omega)) (ev_nx (y_2n _ a2) (ev_nx (y_3n _ a3) (ev_nx (y_4n _ a4) (ev_rt e))))), g, h'⟩
end Q
set_option Elab.async false
set_option linter.all false
set_option maxRecDepth 100000
set_option maxHeartbeats 4000000
namespace Q
open PySem L2 Iq
/-! ### a change at any place -/
theorem cutA {xs : List D} {a : Nat} : cutL xs none (some (a : Int)) = xs.take a := by
  unfold cutL
  rw [HT.sIx_none, HT.sIx_nat, List.drop_zero, Nat.sub_zero, List.take_eq_take_iff]
  omega
theorem cutB {xs : List D} {a : Nat} : cutL xs (some (a : Int)) none = xs.drop a := by
  unfold cutL
  rw [HT.sIx_none, HT.sIx_nat, List.take_of_length_le (by simp)]
  by_cases h : a ≤ xs.length
  · rw [Nat.min_eq_left h]
  · rw [Nat.min_eq_right (by omega), List.drop_length, List.drop_eq_nil_of_le (by omega)]
theorem cutC {xs : List D} {a b : Nat} (h : b ≤ xs.length) (hab : a ≤ b) : cutL xs (some (a : Int)) (some (b : Int)) = (xs.drop a).take (b - a) := by
  unfold cutL
  rw [HT.sIx_nat, HT.sIx_nat, Nat.min_eq_left h, Nat.min_eq_left (Nat.le_trans hab h)]
abbrev B38 (i : Nat) : Sm := f38.body.getD i .nev
theorem z_0t (n : Nat) {N : Nat} {f d : D} (hd : (∀ xs, d ≠ .tup xs)) (hg : G d) (h : Fd (N + 1) f) : ∃ x f', evS (Pn (n + 3)) (B38 0) [.own true f, .shr d, .no, .no] = .ok (.rt x false, [.own true f', .shr d, .no, .no]) ∧ okB 100 2 x = true ∧ Fd N f' := by
  obtain ⟨x, f', e, g, h'⟩ := odd n h
  have e' := call1 (n := n + 3) (k := 37) (i := 0) (ς := [.own true f, .shr d, .no, .no]) (b := true) (io37 _) rfl e
  simp only [List.set_cons_zero] at e'
  refine ⟨x, f', ?_, g, h'⟩
  cases d with
  | tup xs => exact absurd rfl (hd xs)
  | fn _ => exact hg.fn.elim
  | dic _ => exact hg.dic.elim
  | _ => simp [B38, f38, Iq.run, ioFit, evB, evS, evE.eq_1, evE.eq_2, evE.eq_3, evE.eq_4, evE.eq_5, evE.eq_6, evE.eq_7, evE.eq_8, evE.eq_9, evE.eq_10, evE.eq_11, evE.eq_12, evE.eq_13, evE.eq_14, evE.eq_15, evE.eq_16, evE.eq_17, evE.eq_19, evE.eq_20, evE.eq_21, evE.eq_22, evE.eq_24, evE.eq_25, evE.eq_26, evE.eq_27, evE.eq_28, evE.eq_29, evE.eq_30, evE.eq_31, evE.eq_32, evL, evA, evO, evT, Iq.hd, deref, R.bind_ok, R.bind_bad, truth, intOf, callG, hdS, argsS, argS, putOuts, setOwn, outs, isOwn, isTys, isTy, ty_beq, e']
theorem z_0e (n : Nat) {N : Nat} {f : D} (h : Fd (N + 1) f) : ∃ x f', evS (Pn (n + 3)) (B38 0) [.own true f, .shr (.tup []), .no, .no] = .ok (.rt x false, [.own true f', .shr (.tup []), .no, .no]) ∧ okB 100 2 x = true ∧ Fd N f' := by
  obtain ⟨x, f', e, g, h'⟩ := odd n h
  have e' := call1 (n := n + 3) (k := 37) (i := 0) (ς := [.own true f, .shr (.tup []), .no, .no]) (b := true) (io37 _) rfl e
  simp only [List.set_cons_zero] at e'
  have en : eqD (.tup []) (.tup []) = .ok true := eq_nilT (l := 1000) (k := 60) rfl (by decide)
  refine ⟨x, f', ?_, g, h'⟩
  simp [B38, f38, Iq.run, ioFit, evB, evS, evE.eq_1, evE.eq_2, evE.eq_3, evE.eq_4, evE.eq_5, evE.eq_6, evE.eq_7, evE.eq_8, evE.eq_9, evE.eq_10, evE.eq_11, evE.eq_12, evE.eq_13, evE.eq_14, evE.eq_15, evE.eq_16, evE.eq_17, evE.eq_19, evE.eq_20, evE.eq_21, evE.eq_22, evE.eq_24, evE.eq_25, evE.eq_26, evE.eq_27, evE.eq_28, evE.eq_29, evE.eq_30, evE.eq_31, evE.eq_32, evL, evA, evO, evT, Iq.hd, deref, R.bind_ok, R.bind_bad, truth, intOf, callG, hdS, argsS, argS, putOuts, setOwn, outs, isOwn, isTys, isTy, ty_beq, cmpD, en, e']
theorem z_0 (n : Nat) {N : Nat} {f y : D} {ys : List D} (hg : G (.tup (y :: ys))) (h : Fd (N + 2) f) : (∃ x f', evS (Pn (n + 3)) (B38 0) [.own true f, .shr (.tup (y :: ys)), .no, .no] = .ok (.rt x false, [.own true f', .shr (.tup (y :: ys)), .no, .no]) ∧ okB 100 2 x = true ∧ Fd N f') ∨
    ∃ f', evS (Pn (n + 3)) (B38 0) [.own true f, .shr (.tup (y :: ys)), .no, .no] = .ok (.nx, [.own true f', .shr (.tup (y :: ys)), .no, .no]) ∧ Fd N f' := by
  obtain ⟨r, f1, e1, r0, r1, h1⟩ := drC (n + 2) (i := 0) (ς := [.own true f, .shr (.tup (y :: ys)), .no, .no]) (b := true) 6 (N := N + 1) rfl h (by omega) (by omega)
  simp only [List.set_cons_zero] at e1
  have en : eqD (.tup (y :: ys)) (.tup []) = .ok false := eq_nilT hg (by decide)
  by_cases z : r = 0
  · obtain ⟨x, f', e, g, h'⟩ := odd n h1
    have e' := call1 (n := n + 3) (k := 37) (i := 0) (ς := [.own true f1, .shr (.tup (y :: ys)), .no, .no]) (b := true) (io37 _) rfl e
    simp only [List.set_cons_zero] at e'
    subst z
    exact .inl ⟨x, f', by simp [B38, f38, Iq.run, ioFit, evB, evS, evE.eq_1, evE.eq_2, evE.eq_3, evE.eq_4, evE.eq_5, evE.eq_6, evE.eq_7, evE.eq_8, evE.eq_9, evE.eq_10, evE.eq_11, evE.eq_12, evE.eq_13, evE.eq_14, evE.eq_15, evE.eq_16, evE.eq_17, evE.eq_19, evE.eq_20, evE.eq_21, evE.eq_22, evE.eq_24, evE.eq_25, evE.eq_26, evE.eq_27, evE.eq_28, evE.eq_29, evE.eq_30, evE.eq_31, evE.eq_32, evL, evA, evO, evT, Iq.hd, deref, R.bind_ok, R.bind_bad, truth, intOf, callG, hdS, argsS, argS, putOuts, setOwn, outs, isOwn, isTys, isTy, ty_beq, cmpD, en, e1, int_eq, e'], g, h'⟩
  · have z' : (r == 0) = false := beq_eq_false_iff_ne.mpr z
    exact .inr ⟨f1, by simp [B38, f38, Iq.run, ioFit, evB, evS, evE.eq_1, evE.eq_2, evE.eq_3, evE.eq_4, evE.eq_5, evE.eq_6, evE.eq_7, evE.eq_8, evE.eq_9, evE.eq_10, evE.eq_11, evE.eq_12, evE.eq_13, evE.eq_14, evE.eq_15, evE.eq_16, evE.eq_17, evE.eq_19, evE.eq_20, evE.eq_21, evE.eq_22, evE.eq_24, evE.eq_25, evE.eq_26, evE.eq_27, evE.eq_28, evE.eq_29, evE.eq_30, evE.eq_31, evE.eq_32, evL, evA, evO, evT, Iq.hd, deref, R.bind_ok, R.bind_bad, truth, intOf, callG, hdS, argsS, argS, putOuts, setOwn, outs, isOwn, isTys, isTy, ty_beq, cmpD, en, e1, int_eq, z'], h1.less (by omega)⟩
abbrev S38 (f : D) (xs : List D) (a : Nat) (w : Int) : List Sl := [.own true f, .shr (.tup xs), .shr (.int (a : Nat)), .shr (.int w)]
theorem z_1 (n : Nat) {N : Nat} {f : D} {xs : List D} (hx : 0 < xs.length) (hl : xs.length ≤ 1000) (h : Fd (N + 2) f) : ∃ (a : Nat) (w : Int) (f' : D), evS (Pn (n + 1)) (B38 1) [.own true f, .shr (.tup xs), .no, .no] = .ok (.nx, S38 f' xs a w) ∧ a < xs.length ∧ 0 ≤ w ∧ w < 9 ∧ Fd N f' := by
  obtain ⟨a, f1, e1, a0, a1, h1⟩ := drE n (i := 0) (a := .bi .len (.var 1)) (ς := [.own true f, .shr (.tup xs), .no, .no]) (b := true) (fa := false) (m := (xs.length : Nat)) (N := N + 1) (by simp [Iq.run, ioFit, evB, evS, evE.eq_1, evE.eq_2, evE.eq_3, evE.eq_4, evE.eq_5, evE.eq_6, evE.eq_7, evE.eq_8, evE.eq_9, evE.eq_10, evE.eq_11, evE.eq_12, evE.eq_13, evE.eq_14, evE.eq_15, evE.eq_16, evE.eq_17, evE.eq_19, evE.eq_20, evE.eq_21, evE.eq_22, evE.eq_24, evE.eq_25, evE.eq_26, evE.eq_27, evE.eq_28, evE.eq_29, evE.eq_30, evE.eq_31, evE.eq_32, evL, evA, evO, evT, Iq.hd, deref, R.bind_ok, R.bind_bad, truth, intOf, callG, hdS, argsS, argS, putOuts, setOwn, outs, isOwn, biD]) rfl h (by omega) (by omega)
  obtain ⟨w, f2, e2, w0, w1, h2⟩ := drC n (i := 0) (ς := [.own true f1, .shr (.tup xs), .no, .no]) (b := true) 9 (N := N) rfl h1 (by omega) (by omega)
  simp only [List.set_cons_zero] at e1 e2
  obtain ⟨k, rfl⟩ : ∃ k : Nat, a = (k : Int) := ⟨a.toNat, by omega⟩
  refine ⟨k, w, f2, ?_, by omega, w0, w1, h2⟩
  simp [B38, f38, Iq.run, ioFit, evB, evS, evE.eq_1, evE.eq_2, evE.eq_3, evE.eq_4, evE.eq_5, evE.eq_6, evE.eq_7, evE.eq_8, evE.eq_9, evE.eq_10, evE.eq_11, evE.eq_12, evE.eq_13, evE.eq_14, evE.eq_15, evE.eq_16, evE.eq_17, evE.eq_19, evE.eq_20, evE.eq_21, evE.eq_22, evE.eq_24, evE.eq_25, evE.eq_26, evE.eq_27, evE.eq_28, evE.eq_29, evE.eq_30, evE.eq_31, evE.eq_32, evL, evA, evO, evT, Iq.hd, deref, R.bind_ok, R.bind_bad, truth, intOf, callG, hdS, argsS, argS, putOuts, setOwn, outs, isOwn, e1, e2, setAll]
theorem okT {l k : Nat} {xs : List D} : okB l (k + 1) (.tup xs) = true ↔ xs.length ≤ l ∧ ∀ x ∈ xs, okB l k x = true := by
  simp only [okB, Bool.and_eq_true, decide_eq_true_eq, List.all_eq_true]
theorem okL {l k : Nat} {xs : List D} : okB l (k + 1) (.lst xs) = true ↔ xs.length ≤ l ∧ ∀ x ∈ xs, okB l k x = true := by
  simp only [okB, Bool.and_eq_true, decide_eq_true_eq, List.all_eq_true]
section
variable (n : Nat) {f : D} {xs : List D} {a : Nat} {w : Int}
theorem eqw {v : Int} (h : w ≠ v) : (w == v) = false := beq_eq_false_iff_ne.mpr h
theorem z_2n (h : w ≠ 0) : evS (Pn n) (B38 2) (S38 f xs a w) = .ok (.nx, S38 f xs a w) := by simp [B38, f38, Iq.run, ioFit, evB, evS, evE.eq_1, evE.eq_2, evE.eq_3, evE.eq_4, evE.eq_5, evE.eq_6, evE.eq_7, evE.eq_8, evE.eq_9, evE.eq_10, evE.eq_11, evE.eq_12, evE.eq_13, evE.eq_14, evE.eq_15, evE.eq_16, evE.eq_17, evE.eq_19, evE.eq_20, evE.eq_21, evE.eq_22, evE.eq_24, evE.eq_25, evE.eq_26, evE.eq_27, evE.eq_28, evE.eq_29, evE.eq_30, evE.eq_31, evE.eq_32, evL, evA, evO, evT, Iq.hd, deref, R.bind_ok, R.bind_bad, truth, intOf, callG, hdS, argsS, argS, putOuts, setOwn, outs, isOwn, cmpD, int_eq, eqw h]
theorem z_3n (h : w ≠ 1) : evS (Pn n) (B38 3) (S38 f xs a w) = .ok (.nx, S38 f xs a w) := by simp [B38, f38, Iq.run, ioFit, evB, evS, evE.eq_1, evE.eq_2, evE.eq_3, evE.eq_4, evE.eq_5, evE.eq_6, evE.eq_7, evE.eq_8, evE.eq_9, evE.eq_10, evE.eq_11, evE.eq_12, evE.eq_13, evE.eq_14, evE.eq_15, evE.eq_16, evE.eq_17, evE.eq_19, evE.eq_20, evE.eq_21, evE.eq_22, evE.eq_24, evE.eq_25, evE.eq_26, evE.eq_27, evE.eq_28, evE.eq_29, evE.eq_30, evE.eq_31, evE.eq_32, evL, evA, evO, evT, Iq.hd, deref, R.bind_ok, R.bind_bad, truth, intOf, callG, hdS, argsS, argS, putOuts, setOwn, outs, isOwn, cmpD, int_eq, eqw h]
theorem z_4n (h : w ≠ 2) : evS (Pn n) (B38 4) (S38 f xs a w) = .ok (.nx, S38 f xs a w) := by simp [B38, f38, Iq.run, ioFit, evB, evS, evE.eq_1, evE.eq_2, evE.eq_3, evE.eq_4, evE.eq_5, evE.eq_6, evE.eq_7, evE.eq_8, evE.eq_9, evE.eq_10, evE.eq_11, evE.eq_12, evE.eq_13, evE.eq_14, evE.eq_15, evE.eq_16, evE.eq_17, evE.eq_19, evE.eq_20, evE.eq_21, evE.eq_22, evE.eq_24, evE.eq_25, evE.eq_26, evE.eq_27, evE.eq_28, evE.eq_29, evE.eq_30, evE.eq_31, evE.eq_32, evL, evA, evO, evT, Iq.hd, deref, R.bind_ok, R.bind_bad, truth, intOf, callG, hdS, argsS, argS, putOuts, setOwn, outs, isOwn, cmpD, int_eq, eqw h]
theorem z_5n (h : w ≠ 3) : evS (Pn n) (B38 5) (S38 f xs a w) = .ok (.nx, S38 f xs a w) := by simp [B38, f38, Iq.run, ioFit, evB, evS, evE.eq_1, evE.eq_2, evE.eq_3, evE.eq_4, evE.eq_5, evE.eq_6, evE.eq_7, evE.eq_8, evE.eq_9, evE.eq_10, evE.eq_11, evE.eq_12, evE.eq_13, evE.eq_14, evE.eq_15, evE.eq_16, evE.eq_17, evE.eq_19, evE.eq_20, evE.eq_21, evE.eq_22, evE.eq_24, evE.eq_25, evE.eq_26, evE.eq_27, evE.eq_28, evE.eq_29, evE.eq_30, evE.eq_31, evE.eq_32, evL, evA, evO, evT, Iq.hd, deref, R.bind_ok, R.bind_bad, truth, intOf, callG, hdS, argsS, argS, putOuts, setOwn, outs, isOwn, cmpD, int_eq, eqw h]
theorem up1 : (a : Int) + 1 = ((a + 1 : Nat) : Int) := by omega
theorem z_2 (hl : xs.length ≤ 1000) : evS (Pn n) (B38 2) (S38 f xs a 0) = .ok (.rt (.tup (xs.take a ++ xs.drop (a + 1))) false, S38 f xs a 0) := by
  have sz : (xs.take a).length + (xs.drop (a + 1)).length ≤ sizeLine := Nat.le_trans (by simp only [List.length_take, List.length_drop]; omega) big
  have c1 : cutL xs (some ((a : Int) + 1)) none = xs.drop (a + 1) := by rw [up1, cutB]
  simp only [List.length_take, List.length_drop] at sz
  simp [B38, f38, Iq.run, ioFit, evB, evS, evE.eq_1, evE.eq_2, evE.eq_3, evE.eq_4, evE.eq_5, evE.eq_6, evE.eq_7, evE.eq_8, evE.eq_9, evE.eq_10, evE.eq_11, evE.eq_12, evE.eq_13, evE.eq_14, evE.eq_15, evE.eq_16, evE.eq_17, evE.eq_19, evE.eq_20, evE.eq_21, evE.eq_22, evE.eq_24, evE.eq_25, evE.eq_26, evE.eq_27, evE.eq_28, evE.eq_29, evE.eq_30, evE.eq_31, evE.eq_32, evL, evA, evO, evT, Iq.hd, deref, R.bind_ok, R.bind_bad, truth, intOf, callG, hdS, argsS, argS, putOuts, setOwn, outs, isOwn, evO, cmpD, int_eq, add_ok, sliD, cutA, c1, binD, sz]
theorem z_3 (hl : xs.length ≤ 1000) : evS (Pn n) (B38 3) (S38 f xs a 1) = .ok (.rt (.tup (xs.take (a + 1) ++ xs.drop a)) false, S38 f xs a 1) := by
  have sz : (xs.take (a + 1)).length + (xs.drop a).length ≤ sizeLine := Nat.le_trans (by simp only [List.length_take, List.length_drop]; omega) (show 3000 ≤ sizeLine by decide)
  have c1 : cutL xs none (some ((a : Int) + 1)) = xs.take (a + 1) := by rw [up1, cutA]
  simp only [List.length_take, List.length_drop] at sz
  simp [B38, f38, Iq.run, ioFit, evB, evS, evE.eq_1, evE.eq_2, evE.eq_3, evE.eq_4, evE.eq_5, evE.eq_6, evE.eq_7, evE.eq_8, evE.eq_9, evE.eq_10, evE.eq_11, evE.eq_12, evE.eq_13, evE.eq_14, evE.eq_15, evE.eq_16, evE.eq_17, evE.eq_19, evE.eq_20, evE.eq_21, evE.eq_22, evE.eq_24, evE.eq_25, evE.eq_26, evE.eq_27, evE.eq_28, evE.eq_29, evE.eq_30, evE.eq_31, evE.eq_32, evL, evA, evO, evT, Iq.hd, deref, R.bind_ok, R.bind_bad, truth, intOf, callG, hdS, argsS, argS, putOuts, setOwn, outs, isOwn, evO, cmpD, int_eq, add_ok, sliD, cutB, c1, binD, sz]
theorem z_4 : evS (Pn n) (B38 4) (S38 f xs a 2) = .ok (.rt (.lst xs) true, S38 f xs a 2) := by
  simp [B38, f38, Iq.run, ioFit, evB, evS, evE.eq_1, evE.eq_2, evE.eq_3, evE.eq_4, evE.eq_5, evE.eq_6, evE.eq_7, evE.eq_8, evE.eq_9, evE.eq_10, evE.eq_11, evE.eq_12, evE.eq_13, evE.eq_14, evE.eq_15, evE.eq_16, evE.eq_17, evE.eq_19, evE.eq_20, evE.eq_21, evE.eq_22, evE.eq_24, evE.eq_25, evE.eq_26, evE.eq_27, evE.eq_28, evE.eq_29, evE.eq_30, evE.eq_31, evE.eq_32, evL, evA, evO, evT, Iq.hd, deref, R.bind_ok, R.bind_bad, truth, intOf, callG, hdS, argsS, argS, putOuts, setOwn, outs, isOwn, cmpD, int_eq, biD]
theorem z_5 (ha : a < xs.length) (hl : xs.length ≤ 1000) : evS (Pn n) (B38 5) (S38 f xs a 3) = .ok (.rt (.tup (xs.take a ++ xs.drop (a + 1) ++ (xs.drop a).take 1)) false, S38 f xs a 3) := by
  have s1 : min a xs.length + (xs.length - (a + 1)) ≤ sizeLine := Nat.le_trans (by omega) big
  have s2 : min a xs.length + (xs.length - (a + 1)) + min 1 (xs.length - a) ≤ sizeLine := Nat.le_trans (by omega) (show 3000 ≤ sizeLine by decide)
  have c1 : cutL xs (some ((a : Int) + 1)) none = xs.drop (a + 1) := by rw [up1, cutB]
  have c2 : cutL xs (some (a : Int)) (some ((a : Int) + 1)) = (xs.drop a).take 1 := by
    rw [up1, cutC (by omega) (by omega)]
    congr 1; omega
  simp [B38, f38, Iq.run, ioFit, evB, evS, evE.eq_1, evE.eq_2, evE.eq_3, evE.eq_4, evE.eq_5, evE.eq_6, evE.eq_7, evE.eq_8, evE.eq_9, evE.eq_10, evE.eq_11, evE.eq_12, evE.eq_13, evE.eq_14, evE.eq_15, evE.eq_16, evE.eq_17, evE.eq_19, evE.eq_20, evE.eq_21, evE.eq_22, evE.eq_24, evE.eq_25, evE.eq_26, evE.eq_27, evE.eq_28, evE.eq_29, evE.eq_30, evE.eq_31, evE.eq_32, evL, evA, evO, evT, Iq.hd, deref, R.bind_ok, R.bind_bad, truth, intOf, callG, hdS, argsS, argS, putOuts, setOwn, outs, isOwn, evO, cmpD, int_eq, add_ok, sliD, cutA, c1, c2, binD, s1, s2]
end
end Q
set_option Elab.async false
set_option linter.all false
set_option maxRecDepth 100000
set_option maxHeartbeats 4000000
namespace Q
open PySem L2 Iq
theorem z_6 (n : Nat) {f f' d : D} {xs : List D} {a : Nat} {w : Int} {x : D} {fr : Bool} (hx : xs[a]? = some x) (hl : xs.length ≤ 1000) (e : (Pn n).fn 38 [.own true f, .shr x] = .ok (d, fr, [f'])) :
    evS (Pn n) (B38 6) (S38 f xs a w) = .ok (.rt (.tup (xs.take a ++ [d] ++ xs.drop (a + 1))) false, S38 f' xs a w) := by
  obtain ⟨ha, hxe⟩ := List.getElem?_eq_some_iff.mp hx
  have ix : atI xs (a : Int) = some x := by
    unfold atI ixN
    simp [hxe, ha]
  have ea : evE (Pn n) (.idx (.var 1) (.var 2)) (S38 f xs a w) = .ok (x, false, S38 f xs a w) := by simp [Iq.run, ioFit, evB, evS, evE.eq_1, evE.eq_2, evE.eq_3, evE.eq_4, evE.eq_5, evE.eq_6, evE.eq_7, evE.eq_8, evE.eq_9, evE.eq_10, evE.eq_11, evE.eq_12, evE.eq_13, evE.eq_14, evE.eq_15, evE.eq_16, evE.eq_17, evE.eq_19, evE.eq_20, evE.eq_21, evE.eq_22, evE.eq_24, evE.eq_25, evE.eq_26, evE.eq_27, evE.eq_28, evE.eq_29, evE.eq_30, evE.eq_31, evE.eq_32, evL, evA, evO, evT, Iq.hd, deref, R.bind_ok, R.bind_bad, truth, intOf, callG, hdS, argsS, argS, putOuts, setOwn, outs, isOwn, idxD, ix]
  have e2 : evE (Pn n) (.call 38 [.var 0, .idx (.var 1) (.var 2)]) (S38 f xs a w) = .ok (d, fr, S38 f' xs a w) := call2 (io38 _) rfl ea e
  have s1 : min a xs.length + 1 ≤ sizeLine := Nat.le_trans (by omega) (show 3000 ≤ sizeLine by decide)
  have s2 : min a xs.length + 1 + (xs.length - (a + 1)) ≤ sizeLine := Nat.le_trans (by omega) (show 3000 ≤ sizeLine by decide)
  have c1 : cutL xs (some ((a : Int) + 1)) none = xs.drop (a + 1) := by rw [up1, cutB]
  simp [B38, f38, Iq.run, ioFit, evB, evS, evE.eq_1, evE.eq_2, evE.eq_3, evE.eq_4, evE.eq_5, evE.eq_6, evE.eq_7, evE.eq_8, evE.eq_9, evE.eq_10, evE.eq_11, evE.eq_12, evE.eq_13, evE.eq_14, evE.eq_15, evE.eq_16, evE.eq_17, evE.eq_19, evE.eq_20, evE.eq_21, evE.eq_22, evE.eq_24, evE.eq_25, evE.eq_26, evE.eq_27, evE.eq_28, evE.eq_29, evE.eq_30, evE.eq_31, evE.eq_32, evL, evA, evO, evT, Iq.hd, deref, R.bind_ok, R.bind_bad, truth, intOf, callG, hdS, argsS, argS, putOuts, setOwn, outs, isOwn, evO, add_ok, sliD, cutA, c1, binD, s1, s2, e2]
theorem bent {l : Nat} (h1 : 100 ≤ l) (h9 : l ≤ 900) : ∀ (k : Nat), k ≤ 50 → ∀ (n N : Nat) (f d : D), okB l k d = true → Fd (N + 5 * (k + 1)) f →
    ∃ d' fr f', (Pn (n + k + 5)).fn 38 [.own true f, .shr d] = .ok (d', fr, [f']) ∧ okB (l + 1) (k + 2) d' = true ∧ Fd N f' := by
  intro k
  induction k with
  | zero =>
    intro hk n N f d hd hf
    have g : G d := okB_mono (by omega) (by omega) hd
    have nt : ∀ xs, d ≠ .tup xs := fun xs e => by subst e; simp only [okB] at hd; cases hd
    obtain ⟨x, f', e, gx, h'⟩ := z_0t (n + 1) (N := N) nt g (hf.less (by omega))
    refine ⟨x, false, f', ?_, okB_mono (by omega) (by omega) gx, h'⟩
    rw [fn38]
    exact run_io ⟨rfl, by decide, by decide, rfl⟩ (ev_rt (s := B38 0) e) rfl
  | succ k ih =>
    intro hk n N f d hd hf
    have g : G d := okB_mono (by omega) (by omega) hd
    show ∃ d' fr f', (Pn (n + k + 5 + 1)).fn 38 [.own true f, .shr d] = _ ∧ _
    rw [fn38]
    cases d with
    | tup xs =>
      obtain ⟨hl, hx⟩ := okT.mp hd
      cases xs with
      | nil =>
        obtain ⟨x, f', e, gx, h'⟩ := z_0e (n + k + 2) (N := N) (hf.less (by omega))
        exact ⟨x, false, f', run_io ⟨rfl, by decide, by decide, rfl⟩ (ev_rt (s := B38 0) e) rfl, okB_mono (by omega) (by omega) gx, h'⟩
      | cons y ys =>
        rcases z_0 (n + k + 2) (N := N + 5 * (k + 1) + 3) g (hf.less (by omega)) with ⟨x, f', e, gx, h'⟩ | ⟨f1, e0, hf1⟩
        · exact ⟨x, false, f', run_io ⟨rfl, by decide, by decide, rfl⟩ (ev_rt (s := B38 0) e) rfl, okB_mono (by omega) (by omega) gx, h'.less (by omega)⟩
        generalize hxs : y :: ys = xs at *
        have hx0 : 0 < xs.length := by rw [← hxs]; simp
        obtain ⟨a, w, f2, e1, ha, w0, w1, hf2⟩ := z_1 (n + k + 4) (N := N + 5 * (k + 1)) hx0 (by omega) (hf1.less (by omega))
        have fin : ∀ {d' fr f3}, evB (Pn (n + k + 5)) [B38 2, B38 3, B38 4, B38 5, B38 6] (S38 f2 xs a w) = .ok (.rt d' fr, S38 f3 xs a w) → Iq.run (Pn (n + k + 5)) f38 (pack f38 [.own true f, .shr (.tup xs)]) = .ok (d', fr, [f3]) := fun e =>
          run_io ⟨rfl, by decide, by decide, rfl⟩ (ev_nx (s := B38 0) e0 (ev_nx (s := B38 1) e1 e)) rfl
        have up : ∀ x ∈ xs, okB (l + 1) (k + 2) x = true := fun x hx' => okB_mono (by omega) (by omega) (hx x hx')
        by_cases a0 : w = 0
        · subst a0
          refine ⟨_, _, f2, fin (ev_rt (z_2 _ (by omega))), okT.mpr ⟨by simp only [List.length_append, List.length_take, List.length_drop]; omega, fun x hx' => up x ?_⟩, hf2.less (by omega)⟩
          rcases List.mem_append.mp hx' with h | h
          · exact List.mem_of_mem_take h
          · exact List.mem_of_mem_drop h
        by_cases a1 : w = 1
        · subst a1
          refine ⟨_, _, f2, fin (ev_nx (z_2n _ a0) (ev_rt (z_3 _ (by omega)))), okT.mpr ⟨by simp only [List.length_append, List.length_take, List.length_drop]; omega, fun x hx' => up x ?_⟩, hf2.less (by omega)⟩
          rcases List.mem_append.mp hx' with h | h
          · exact List.mem_of_mem_take h
          · exact List.mem_of_mem_drop h
        by_cases a2 : w = 2
        · subst a2
          exact ⟨_, _, f2, fin (ev_nx (z_2n _ a0) (ev_nx (z_3n _ a1) (ev_rt (z_4 _)))), okL.mpr ⟨by omega, up⟩, hf2.less (by omega)⟩
        by_cases a3 : w = 3
        · subst a3
          refine ⟨_, _, f2, fin (ev_nx (z_2n _ a0) (ev_nx (z_3n _ a1) (ev_nx (z_4n _ a2) (ev_rt (z_5 _ ha (by omega)))))), okT.mpr ⟨by simp only [List.length_append, List.length_take, List.length_drop]; omega, fun x hx' => up x ?_⟩, hf2.less (by omega)⟩
          rcases List.mem_append.mp hx' with h | h
          · rcases List.mem_append.mp h with h | h
            · exact List.mem_of_mem_take h
            · exact List.mem_of_mem_drop h
          · exact List.mem_of_mem_drop (List.mem_of_mem_take h)
        · have hxa : xs[a]? = some xs[a] := List.getElem?_eq_getElem ha
          obtain ⟨d', fr, f3, e3, g3, hf3⟩ := ih (by omega) n N f2 xs[a] (hx _ (List.getElem_mem ha)) hf2
          refine ⟨_, _, f3, fin (ev_nx (z_2n _ a0) (ev_nx (z_3n _ a1) (ev_nx (z_4n _ a2) (ev_nx (z_5n _ a3) (ev_rt (z_6 _ hxa (by omega) e3)))))), okT.mpr ⟨by simp only [List.length_append, List.length_take, List.length_drop, List.length_singleton]; omega, fun x hx' => ?_⟩, hf3⟩
          rcases List.mem_append.mp hx' with h | h
          · rcases List.mem_append.mp h with h | h
            · exact up x (List.mem_of_mem_take h)
            · obtain rfl := List.mem_singleton.mp h
              exact g3
          · exact up x (List.mem_of_mem_drop h)
    | _ =>
      obtain ⟨x, f', e, gx, h'⟩ := z_0t (n + k + 2) (N := N) (fun xs e => by cases e) g (hf.less (by omega))
      exact ⟨x, false, f', run_io ⟨rfl, by decide, by decide, rfl⟩ (ev_rt (s := B38 0) e) rfl, okB_mono (by omega) (by omega) gx, h'⟩
end Q
set_option Elab.async false
set_option linter.all false
set_option maxRecDepth 100000
set_option maxHeartbeats 4000000
namespace Q
open PySem L2 Iq
def fixOk (r : R (D × Bool × List D)) : Bool := match r with
  | .ok (.lst xs, true, []) => xs.all (okB 1000 60)
  | _ => false
theorem fix_ok : fixOk ((Pn 30).fn 39 []) = true := by decide +kernel
theorem fixed : ∃ xs, (Pn 30).fn 39 [] = .ok (.lst xs, true, []) ∧ ∀ x ∈ xs, G x := by
  have h := fix_ok
  unfold fixOk at h
  split at h
  · rename_i xs e
    exact ⟨xs, e, fun x hx => List.all_eq_true.mp h x hx⟩
  · cases h
abbrev B40 (i : Nat) : Sm := f40.body.getD i .nev
theorem right {i : Nat} {ς : List Sl} {d : D} (hs : ς[i]? = some (.shr d)) (g : G d) : evS (Pn 30) (.ife (.nt (.at (.call 34 [.var i]))) [.ret (.con (.bl false))] []) ς = .ok (.nx, ς) := by
  have e : (Pn 30).fn 34 [.shr d] = .ok (.bl true, false, []) := c34 20 g
  have e1 : evE (Pn 30) (.call 34 [.var i]) ς = .ok (.bl true, false, ς) := by simp [Iq.run, ioFit, evB, evS, evE.eq_1, evE.eq_2, evE.eq_3, evE.eq_4, evE.eq_5, evE.eq_6, evE.eq_7, evE.eq_8, evE.eq_9, evE.eq_10, evE.eq_11, evE.eq_12, evE.eq_13, evE.eq_14, evE.eq_15, evE.eq_16, evE.eq_17, evE.eq_18, evE.eq_19, evE.eq_20, evE.eq_21, evE.eq_22, evE.eq_24, evE.eq_25, evE.eq_26, evE.eq_27, evE.eq_28, evE.eq_29, evE.eq_30, evE.eq_31, evE.eq_32, evL, evA, evO, evT, Iq.hd, deref, R.bind_ok, R.bind_bad, truth, intOf, callG, hdS, argsS, argS, putOuts, setOwn, outs, isOwn, io34, hs, e]
  simp [Iq.run, ioFit, evB, evS, evE.eq_1, evE.eq_2, evE.eq_3, evE.eq_4, evE.eq_5, evE.eq_6, evE.eq_7, evE.eq_8, evE.eq_9, evE.eq_10, evE.eq_11, evE.eq_12, evE.eq_13, evE.eq_14, evE.eq_15, evE.eq_16, evE.eq_17, evE.eq_19, evE.eq_20, evE.eq_21, evE.eq_22, evE.eq_24, evE.eq_25, evE.eq_26, evE.eq_27, evE.eq_28, evE.eq_29, evE.eq_30, evE.eq_31, evE.eq_32, evL, evA, evO, evT, Iq.hd, deref, R.bind_ok, R.bind_bad, truth, intOf, callG, hdS, argsS, argS, putOuts, setOwn, outs, isOwn, e1]
theorem for_ok {j : Nat} {ς : List Sl} : ∀ (xs : List D) (u : Sl), j < ς.length → (∀ x ∈ xs, G x) → ∃ v, (v = u ∨ ∃ d, v = .shr d) ∧ forGo (.nm j) (evB (Pn 30) [.ife (.nt (.at (.call 34 [.var j]))) [.ret (.con (.bl false))] []]) xs (ς.set j u) = .ok (.nx, ς.set j v)
  | [], u, _, _ => ⟨u, .inl rfl, rfl⟩
  | x :: xs, u, hj, h => by
    obtain ⟨v, hv, e⟩ := for_ok (ς := ς) xs (.shr x) hj fun y hy => h y (List.mem_cons_of_mem _ hy)
    refine ⟨v, .inr (hv.elim (fun e => ⟨_, e⟩) id), ?_⟩
    have r := right (i := j) (ς := ς.set j (.shr x)) (d := x) (by simp [hj]) (h x List.mem_cons_self)
    have b : evB (Pn 30) [.ife (.nt (.at (.call 34 [.var j]))) [.ret (.con (.bl false))] []] (ς.set j (.shr x)) = .ok (.nx, ς.set j (.shr x)) := ev_nx r rfl
    simp only [forGo, bindT, set_set_no, R.bind_ok, b, e]
theorem bent30 {N l k : Nat} {f d : D} (h1 : 100 ≤ l) (h9 : l ≤ 900) (hk : k ≤ 20) (hd : okB l k d = true) (hf : Fd (N + 105) f) : ∃ d' fr f', (Pn 30).fn 38 [.own true f, .shr d] = .ok (d', fr, [f']) ∧ okB (l + 1) (k + 2) d' = true ∧ Fd N f' := by
  have := bent h1 h9 k (by omega) (25 - k) N f d hd (hf.less (by omega))
  rwa [show 25 - k + k + 5 = 30 by omega] at this
theorem feed40 (ns : List Int) : ∃ f, Fd 4611686018427387904 f ∧ (Pn 30).fn 18 [.shr (.lst (ns.map .int))] = .ok (f, true, []) := feed_go 29 ns
def L40 : List Sm := match B40 2 with
  | .loop _ _ _ p => p
  | _ => []
abbrev S40 (s : D) (f : D) (s2 s3 s4 s5 s6 : Sl) : List Sl := [.shr s, .own false f, s2, s3, s4, s5, s6]
/-- a value as a slot holds it -/
def holds (s : Sl) (d : D) : Prop := s = .own false d ∨ s = .shr d
theorem bcall {N l k : Nat} {s f d : D} {s2 s3 s4 s5 s6 : Sl} {i : Nat} {ς1 : List Sl} (h1 : 100 ≤ l) (h9 : l ≤ 900) (hk : k ≤ 20) (hd : okB l k d = true) (hf : Fd (N + 105) f)
    (hv : evE (Pn 30) (.var i) (S40 s f s2 s3 s4 s5 s6) = .ok (d, false, ς1)) (h0 : ς1[1]? = some (.own false f)) : ∃ d' fr f', evE (Pn 30) (.call 38 [.var 1, .var i]) (S40 s f s2 s3 s4 s5 s6) = .ok (d', fr, ς1.set 1 (.own false f')) ∧ okB (l + 1) (k + 2) d' = true ∧ Fd N f' := by
  obtain ⟨d', fr, f', e, g, h⟩ := bent30 h1 h9 hk hd hf
  exact ⟨d', fr, f', call2g (io38 _) rfl hv h0 e, g, h⟩
end Q
set_option Elab.async false
set_option linter.all false
set_option maxRecDepth 100000
set_option maxHeartbeats 4000000
namespace Q
open PySem L2 Iq
abbrev fl (fr : Bool) (d : D) : Sl := bif fr then .own false d else .shr d
theorem rd4 {s f d : D} {s2 s3 s5 s6 : Sl} {fr : Bool} : evE (Pn 30) (.var 4) (S40 s f s2 s3 (fl fr d) s5 s6) = .ok (d, false, S40 s f s2 s3 (.shr d) s5 s6) := by
  cases fr <;> simp [Iq.run, ioFit, evB, evS, evE.eq_1, evE.eq_2, evE.eq_3, evE.eq_4, evE.eq_5, evE.eq_6, evE.eq_7, evE.eq_8, evE.eq_9, evE.eq_10, evE.eq_11, evE.eq_12, evE.eq_13, evE.eq_14, evE.eq_15, evE.eq_16, evE.eq_17, evE.eq_19, evE.eq_20, evE.eq_21, evE.eq_22, evE.eq_24, evE.eq_25, evE.eq_26, evE.eq_27, evE.eq_28, evE.eq_29, evE.eq_30, evE.eq_31, evE.eq_32, evL, evA, evO, evT, Iq.hd, deref, R.bind_ok, R.bind_bad, truth, intOf, callG, hdS, argsS, argS, putOuts, setOwn, outs, isOwn]
theorem rd5 {s f d : D} {s2 s3 s4 s6 : Sl} {fr : Bool} : evE (Pn 30) (.var 5) (S40 s f s2 s3 s4 (fl fr d) s6) = .ok (d, false, S40 s f s2 s3 s4 (.shr d) s6) := by
  cases fr <;> simp [Iq.run, ioFit, evB, evS, evE.eq_1, evE.eq_2, evE.eq_3, evE.eq_4, evE.eq_5, evE.eq_6, evE.eq_7, evE.eq_8, evE.eq_9, evE.eq_10, evE.eq_11, evE.eq_12, evE.eq_13, evE.eq_14, evE.eq_15, evE.eq_16, evE.eq_17, evE.eq_19, evE.eq_20, evE.eq_21, evE.eq_22, evE.eq_24, evE.eq_25, evE.eq_26, evE.eq_27, evE.eq_28, evE.eq_29, evE.eq_30, evE.eq_31, evE.eq_32, evL, evA, evO, evT, Iq.hd, deref, R.bind_ok, R.bind_bad, truth, intOf, callG, hdS, argsS, argS, putOuts, setOwn, outs, isOwn]
theorem lap {N : Nat} {s f x : D} {s2 s4 s5 s6 : Sl} (hf : Fd (N + 2000) f) : ∃ f' t2 t4 t5 t6, evB (Pn 30) L40 (S40 s f s2 (.shr x) s4 s5 s6) = .ok (.nx, S40 s f' t2 (.shr x) t4 t5 t6) ∧ Fd N f' := by
  obtain ⟨d, f1, e1, g1, h1⟩ := some_ 24 (N := N + 900) (f := f) (hf.less (by omega))
  have e1' : evE (Pn 30) (.call 36 [.var 1]) (S40 s f s2 (.shr x) s4 s5 s6) = .ok (d, false, S40 s f1 s2 (.shr x) s4 s5 s6) := call1 (io36 _) rfl e1
  have q0 : evS (Pn 30) (.asg 2 (.call 36 [.var 1])) (S40 s f s2 (.shr x) s4 s5 s6) = .ok (.nx, S40 s f1 (.shr d) (.shr x) s4 s5 s6) := by
    simp only [evS, e1', R.bind_ok]; rfl
  obtain ⟨d4, r4, f2, e2, g2, h2⟩ := bcall (N := N + 700) (s := s) (s2 := .shr d) (s3 := .shr x) (s4 := s4) (s5 := s5) (s6 := s6) (i := 2) (ς1 := S40 s f1 (.shr d) (.shr x) s4 s5 s6) (by omega) (by omega) (by omega) g1 (h1.less (by omega)) (by simp [Iq.run, ioFit, evB, evS, evE.eq_1, evE.eq_2, evE.eq_3, evE.eq_4, evE.eq_5, evE.eq_6, evE.eq_7, evE.eq_8, evE.eq_9, evE.eq_10, evE.eq_11, evE.eq_12, evE.eq_13, evE.eq_14, evE.eq_15, evE.eq_16, evE.eq_17, evE.eq_19, evE.eq_20, evE.eq_21, evE.eq_22, evE.eq_24, evE.eq_25, evE.eq_26, evE.eq_27, evE.eq_28, evE.eq_29, evE.eq_30, evE.eq_31, evE.eq_32, evL, evA, evO, evT, Iq.hd, deref, R.bind_ok, R.bind_bad, truth, intOf, callG, hdS, argsS, argS, putOuts, setOwn, outs, isOwn]) rfl
  have e2' : evE (Pn 30) (.call 38 [.var 1, .var 2]) (S40 s f1 (.shr d) (.shr x) s4 s5 s6) = .ok (d4, r4, S40 s f2 (.shr d) (.shr x) s4 s5 s6) := e2
  have q1 : evS (Pn 30) (.asg 4 (.call 38 [.var 1, .var 2])) (S40 s f1 (.shr d) (.shr x) s4 s5 s6) = .ok (.nx, S40 s f2 (.shr d) (.shr x) (fl r4 d4) s5 s6) := by
    simp only [evS, e2', R.bind_ok]; rfl
  obtain ⟨d5, r5, f3, e3, g3, h3⟩ := bcall (N := N + 500) (s := s) (s2 := .shr d) (s3 := .shr x) (s4 := fl r4 d4) (s5 := s5) (s6 := s6) (i := 4) (by omega) (by omega) (by omega) g2 (h2.less (by omega)) rd4 rfl
  have e3' : evE (Pn 30) (.call 38 [.var 1, .var 4]) (S40 s f2 (.shr d) (.shr x) (fl r4 d4) s5 s6) = .ok (d5, r5, S40 s f3 (.shr d) (.shr x) (.shr d4) s5 s6) := e3
  have q2 : evS (Pn 30) (.asg 5 (.call 38 [.var 1, .var 4])) (S40 s f2 (.shr d) (.shr x) (fl r4 d4) s5 s6) = .ok (.nx, S40 s f3 (.shr d) (.shr x) (.shr d4) (fl r5 d5) s6) := by
    simp only [evS, e3', R.bind_ok]; rfl
  obtain ⟨d6, r6, f4, e4, g4, h4⟩ := bcall (N := N) (s := s) (s2 := .shr d) (s3 := .shr x) (s4 := .shr d4) (s5 := .shr d5) (s6 := s6) (i := 5) (by omega) (by omega) (by omega) g3 (h3.less (by omega)) (rd5 (fr := false)) rfl
  have e4' : evE (Pn 30) (.call 38 [.var 1, .var 5]) (S40 s f3 (.shr d) (.shr x) (.shr d4) (.shr d5) s6) = .ok (d6, r6, S40 s f4 (.shr d) (.shr x) (.shr d4) (.shr d5) s6) := e4
  have et : evE (Pn 30) (.tup [(.var 2), (.var 4), (.var 5), (.call 38 [(.var 1), (.var 5)])]) (S40 s f3 (.shr d) (.shr x) (.shr d4) (fl r5 d5) s6) = .ok (.tup [d, d4, d5, d6], false, S40 s f4 (.shr d) (.shr x) (.shr d4) (.shr d5) s6) := by
    have v2 : evE (Pn 30) (.var 2) (S40 s f3 (.shr d) (.shr x) (.shr d4) (fl r5 d5) s6) = .ok (d, false, S40 s f3 (.shr d) (.shr x) (.shr d4) (fl r5 d5) s6) := by simp [Iq.run, ioFit, evB, evS, evE.eq_1, evE.eq_2, evE.eq_3, evE.eq_4, evE.eq_5, evE.eq_6, evE.eq_7, evE.eq_8, evE.eq_9, evE.eq_10, evE.eq_11, evE.eq_12, evE.eq_13, evE.eq_14, evE.eq_15, evE.eq_16, evE.eq_17, evE.eq_19, evE.eq_20, evE.eq_21, evE.eq_22, evE.eq_24, evE.eq_25, evE.eq_26, evE.eq_27, evE.eq_28, evE.eq_29, evE.eq_30, evE.eq_31, evE.eq_32, evL, evA, evO, evT, Iq.hd, deref, R.bind_ok, R.bind_bad, truth, intOf, callG, hdS, argsS, argS, putOuts, setOwn, outs, isOwn]
    have v4 : evE (Pn 30) (.var 4) (S40 s f3 (.shr d) (.shr x) (.shr d4) (fl r5 d5) s6) = .ok (d4, false, S40 s f3 (.shr d) (.shr x) (.shr d4) (fl r5 d5) s6) := by simp [Iq.run, ioFit, evB, evS, evE.eq_1, evE.eq_2, evE.eq_3, evE.eq_4, evE.eq_5, evE.eq_6, evE.eq_7, evE.eq_8, evE.eq_9, evE.eq_10, evE.eq_11, evE.eq_12, evE.eq_13, evE.eq_14, evE.eq_15, evE.eq_16, evE.eq_17, evE.eq_19, evE.eq_20, evE.eq_21, evE.eq_22, evE.eq_24, evE.eq_25, evE.eq_26, evE.eq_27, evE.eq_28, evE.eq_29, evE.eq_30, evE.eq_31, evE.eq_32, evL, evA, evO, evT, Iq.hd, deref, R.bind_ok, R.bind_bad, truth, intOf, callG, hdS, argsS, argS, putOuts, setOwn, outs, isOwn]
    simp only [evE.eq_5, evL, v2, v4, rd5, e4', R.bind_ok]
  have gs : ∀ y ∈ [d, d4, d5, d6], G y := fun y hy => by
    simp only [List.mem_cons, List.not_mem_nil, or_false] at hy
    rcases hy with rfl | rfl | rfl | rfl
    · exact okB_mono (by omega) (by omega) g1
    · exact okB_mono (by omega) (by omega) g2
    · exact okB_mono (by omega) (by omega) g3
    · exact okB_mono (by omega) (by omega) g4
  obtain ⟨v, _, e5⟩ := for_ok (j := 6) (ς := S40 s f4 (.shr d) (.shr x) (.shr d4) (.shr d5) s6) [d, d4, d5, d6] s6 (by simp) gs
  have e5' : forGo (.nm 6) (evB (Pn 30) [.ife (.nt (.at (.call 34 [.var 6]))) [.ret (.con (.bl false))] []]) [d, d4, d5, d6] (S40 s f4 (.shr d) (.shr x) (.shr d4) (.shr d5) s6) = .ok (.nx, S40 s f4 (.shr d) (.shr x) (.shr d4) (.shr d5) v) := e5
  have q3 : evS (Pn 30) (.loop (.nm 6) .seq [(.tup [(.var 2), (.var 4), (.var 5), (.call 38 [(.var 1), (.var 5)])])] [.ife (.nt (.at (.call 34 [.var 6]))) [.ret (.con (.bl false))] []]) (S40 s f3 (.shr d) (.shr x) (.shr d4) (fl r5 d5) s6) = .ok (.nx, S40 s f4 (.shr d) (.shr x) (.shr d4) (.shr d5) v) := by
    simp only [evS, evL, et, R.bind_ok, walk]
    exact e5'
  exact ⟨f4, .shr d, .shr d4, .shr d5, v, ev_nx q0 (ev_nx q1 (ev_nx q2 (ev_nx q3 rfl))), h4⟩
theorem laps {N : Nat} {s : D} : ∀ (xs : List D) (f : D) (s2 s3 s4 s5 s6 : Sl), Fd (N + 2000 * xs.length) f → ∃ f' t2 t3 t4 t5 t6, forGo (.nm 3) (evB (Pn 30) L40) xs (S40 s f s2 s3 s4 s5 s6) = .ok (.nx, S40 s f' t2 t3 t4 t5 t6)
  | [], f, s2, s3, s4, s5, s6, _ => ⟨f, s2, s3, s4, s5, s6, rfl⟩
  | x :: xs, f, s2, s3, s4, s5, s6, h => by
    obtain ⟨f1, t2, t4, t5, t6, e, h1⟩ := lap (N := N + 2000 * xs.length) (s := s) (x := x) (s2 := s2) (s4 := s4) (s5 := s5) (s6 := s6) (h.less (by simp only [List.length_cons, Nat.mul_succ]; omega))
    obtain ⟨f2, u2, u3, u4, u5, u6, e2⟩ := laps (s := s) xs f1 t2 (.shr x) t4 t5 t6 h1
    refine ⟨f2, u2, u3, u4, u5, u6, ?_⟩
    have b : bindT (.nm 3) x (S40 s f s2 s3 s4 s5 s6) = .ok (S40 s f s2 (.shr x) s4 s5 s6) := rfl
    simp only [forGo, b, R.bind_ok, e, e2]
theorem law_go (ns : List Int) : ∃ fr, pg.call 31 40 [.shr (.lst (ns.map .int))] = .ok (.bl true, fr, []) := by
  refine ⟨false, ?_⟩
  show (Pn (30 + 1)).fn 40 _ = _
  rw [fn40]
  obtain ⟨f, hf, e0⟩ := feed40 ns
  obtain ⟨xs, ex, gx⟩ := fixed
  have c0 : evE (Pn 30) (.call 18 [.var 0]) [.shr (.lst (ns.map .int)), .no, .no, .no, .no, .no, .no] = .ok (f, true, [.shr (.lst (ns.map .int)), .no, .no, .no, .no, .no, .no]) := by
    simp [Iq.run, ioFit, evB, evS, evE.eq_1, evE.eq_2, evE.eq_3, evE.eq_4, evE.eq_5, evE.eq_6, evE.eq_7, evE.eq_8, evE.eq_9, evE.eq_10, evE.eq_11, evE.eq_12, evE.eq_13, evE.eq_14, evE.eq_15, evE.eq_16, evE.eq_17, evE.eq_18, evE.eq_19, evE.eq_20, evE.eq_21, evE.eq_22, evE.eq_24, evE.eq_25, evE.eq_26, evE.eq_27, evE.eq_28, evE.eq_29, evE.eq_30, evE.eq_31, evE.eq_32, evL, evA, evO, evT, Iq.hd, deref, R.bind_ok, R.bind_bad, truth, intOf, callG, hdS, argsS, argS, putOuts, setOwn, outs, isOwn, io18, e0]
  have q0 : evS (Pn 30) (B40 0) [.shr (.lst (ns.map .int)), .no, .no, .no, .no, .no, .no] = .ok (.nx, S40 (.lst (ns.map .int)) f .no .no .no .no .no) := by
    show evS (Pn 30) (.asg 1 (.call 18 [.var 0])) _ = _
    simp only [evS, c0, R.bind_ok]; rfl
  have c1 : evE (Pn 30) (.call 39 []) (S40 (.lst (ns.map .int)) f .no .no .no .no .no) = .ok (.lst xs, true, S40 (.lst (ns.map .int)) f .no .no .no .no .no) := by
    simp [Iq.run, ioFit, evB, evS, evE.eq_1, evE.eq_2, evE.eq_3, evE.eq_4, evE.eq_5, evE.eq_6, evE.eq_7, evE.eq_8, evE.eq_9, evE.eq_10, evE.eq_11, evE.eq_12, evE.eq_13, evE.eq_14, evE.eq_15, evE.eq_16, evE.eq_17, evE.eq_18, evE.eq_19, evE.eq_20, evE.eq_21, evE.eq_22, evE.eq_24, evE.eq_25, evE.eq_26, evE.eq_27, evE.eq_28, evE.eq_29, evE.eq_30, evE.eq_31, evE.eq_32, evL, evA, evO, evT, Iq.hd, deref, R.bind_ok, R.bind_bad, truth, intOf, callG, hdS, argsS, argS, putOuts, setOwn, outs, isOwn, ex]
  obtain ⟨v, _, e1⟩ := for_ok (j := 2) (ς := S40 (.lst (ns.map .int)) f .no .no .no .no .no) xs .no (by simp) gx
  have e1' : forGo (.nm 2) (evB (Pn 30) [.ife (.nt (.at (.call 34 [.var 2]))) [.ret (.con (.bl false))] []]) xs (S40 (.lst (ns.map .int)) f .no .no .no .no .no) = .ok (.nx, S40 (.lst (ns.map .int)) f v .no .no .no .no) := e1
  have q1 : evS (Pn 30) (B40 1) (S40 (.lst (ns.map .int)) f .no .no .no .no .no) = .ok (.nx, S40 (.lst (ns.map .int)) f v .no .no .no .no) := by
    show evS (Pn 30) (.loop (.nm 2) .seq [.call 39 []] [.ife (.nt (.at (.call 34 [.var 2]))) [.ret (.con (.bl false))] []]) _ = _
    simp only [evS, evL, c1, R.bind_ok, walk]
    exact e1'
  obtain ⟨f', t2, t3, t4, t5, t6, e2⟩ := laps (N := 0) (s := .lst (ns.map .int)) (Iq.upTo 0 12) f v .no .no .no .no (hf.less (by decide))
  have q2 : evS (Pn 30) (B40 2) (S40 (.lst (ns.map .int)) f v .no .no .no .no) = .ok (.nx, S40 (.lst (ns.map .int)) f' t2 t3 t4 t5 t6) := by
    show evS (Pn 30) (.loop (.nm 3) .rng [.con (.int 12)] L40) _ = _
    simp only [evS, evL, evE.eq_2, R.bind_ok, walk]
    rw [if_pos (by decide)]
    exact e2
  exact run_rt (ς' := S40 (.lst (ns.map .int)) f' t2 t3 t4 t5 t6) ⟨rfl, by decide, by decide, rfl⟩ rfl (ev_nx (s := B40 0) q0 (ev_nx (s := B40 1) q1 (ev_nx (s := B40 2) q2 (ev_rt (s := B40 3) (by show evS (Pn 30) (.ret (.con (.bl true))) _ = _; simp only [evS, evE.eq_2, R.bind_ok])))))
end Q
set_option Elab.async false
set_option linter.all false
set_option maxRecDepth 100000
set_option maxHeartbeats 0
namespace Q
open PySem L2 Iq
abbrev R : PySem.W.OpenRow := PySem.W.OpenLaw.row PySem.Challenge.rw_forkyields_k01_kinds
abbrev hook : PySem.W.Hook := hookI 6 pg.hk
def obs (s : PySem.W.SharedT) : AlI × Bool := obsIG 6 pg.hk (HandSHeadRun.getT s)
theorem obs_eq (s : PySem.W.SharedT) : obs s = hook.obs s.abs := obsIG_eq (HandSHeadRun.getT_eq s)
def loose : List PySem.Str := [("LETTERS" : PySem.Str), ("LONGEST_NAME" : PySem.Str), ("POOL" : PySem.Str), ("NO_PLACE" : PySem.Str), ("LIVING" : PySem.Str), ("STEP_WORDS" : PySem.Str), ("NUMBERED_WORDS" : PySem.Str), ("WAIT_WORDS" : PySem.Str), ("SLOT_WORDS" : PySem.Str), ("is_integer" : PySem.Str), ("is_number" : PySem.Str), ("is_name" : PySem.Str), ("is_rising" : PySem.Str), ("is_name_set" : PySem.Str), ("are_numbers" : PySem.Str), ("is_tuple_of" : PySem.Str), ("is_place_or_none" : PySem.Str), ("is_row" : PySem.Str), ("are_rows" : PySem.Str), ("is_wait" : PySem.Str), ("is_fork" : PySem.Str), ("is_instruction" : PySem.Str), ("has_kind_shape" : PySem.Str), ("is_kind" : PySem.Str), ("is_step" : PySem.Str), ("is_content" : PySem.Str), ("is_state" : PySem.Str), ("_law_feed" : PySem.Str), ("_law_draw" : PySem.Str), ("_law_pick" : PySem.Str), ("_law_label" : PySem.Str), ("_law_labels" : PySem.Str), ("_law_is_int" : PySem.Str), ("_law_is_num" : PySem.Str), ("_law_is_label" : PySem.Str), ("_law_are_labels" : PySem.Str), ("_law_is_rows" : PySem.Str), ("_law_is_take" : PySem.Str), ("_law_is_act" : PySem.Str), ("_law_is_kind" : PySem.Str)] ++ [("_law_is_step" : PySem.Str), ("_law_is_content" : PySem.Str), ("_law_is_state" : PySem.Str), ("_law_right" : PySem.Str), ("_law_some_act" : PySem.Str), ("_law_some" : PySem.Str), ("_law_odd" : PySem.Str), ("_law_bent" : PySem.Str), ("_law_fixed" : PySem.Str)]
theorem goes (w : World) : HandSHeadRun.RunEq R (PySem.W.view R.prog [51]) hook obs 3000 loose w := by
  revert w
  refine PySem.W.byRow2 "special-get-raises" (fun w os => ?_) (fun w os => ?_) <;> kernel_rfl
end Q
open PySem PySem.W PySem.Calls PyProof.Rows in
theorem Q.done {n : Nat} (hr : L2.Room n callerA) (hp : ∀ ns : List Int, ns.length ≤ 63 → ∃ fr, Q.pg.call n 40 [.shr (.lst (ns.map .int))] = .ok (.bl true, fr, [])) : PySem.Challenge.rw_forkyields_k01_kinds.Holds := by
  w_on; o_law
  refine HandSHeadRun.head_any (r := OpenLaw.row PySem.Challenge.rw_forkyields_k01_kinds) (q := view (OpenLaw.row PySem.Challenge.rw_forkyields_k01_kinds).prog [51]) (H := Q.hook) (ob := Q.obs) (M := 3000) (loose := Q.loose) (d := HandSHeadRun.topDef (OpenLaw.row PySem.Challenge.rw_forkyields_k01_kinds).prog 51) (kwd := []) Q.obs_eq
    (by kernel_rfl) (fun s => by kernel_rfl) Q.goes (by kernel_rfl) (by kernel_rfl) (by kernel_rfl) (by rfl) (by first | assumption | decide +kernel) (by decide +kernel) ⟨rfl, rfl, rfl, rfl, rfl, by decide +kernel⟩ ?hw ?hc
  case hw => w_witness2
  case hc => exact Iq.walk_iq (l := PySem.Challenge.rw_forkyields_k01_kinds) (m := 63) (i := 40) (df := Q.d40) rfl (by decide) (by kernel_rfl) hr Q.txt rfl rfl rfl (by kernel_rfl) hp
set_option Elab.async false
set_option maxRecDepth 100000
theorem PySem.Challenge.cw_forkyields_k01_kinds_holds : PySem.Challenge.rw_forkyields_k01_kinds.Holds :=
  Q.done (n := 31) ⟨rfl, by decide, by decide⟩ fun ns _ => Q.law_go ns
