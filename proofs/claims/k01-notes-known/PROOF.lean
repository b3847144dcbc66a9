import PyProof.Rows.All
import Wide.All
import OpenK.AllK
import Wide.FinOn
import PyProof.EqAt
import PyProof.EqKinds
import PyProof.TupleCall
import HandS.ForExc
import HandS.Comp
import HandS.Dict
import HandS.Iter
import HandS.Text
import HandS.More
import HandS.IsInst
import HandS.CallSlots
import HandS.Wide
import HandS.Lambda
import HandS.TupAny
import KE.KUnpackStar
import HandS.HeadHook3
import HandS.ExcInit
import HandS.ExcOwn
import KE.KExcInit
import HandS.TryMany
import HandS.ExcIs
import HandS.ExcField
import KE.DatumIndex
import HandS.EndTab
import HandS.Head0
import HandS.Head1
import HandS.Head2
import HandS.HeadEnd
import HandS.HeadHook1
import HandS.HeadHook2
import HandS.HeadHook4
import PySem.Challenge.RW_whocame_k01_notes_known
import Wide.Once
section
set_option Elab.async false
set_option linter.all false
set_option maxRecDepth 100000
set_option maxHeartbeats 4000000
namespace DL
open PySem PySem.Spec PyProof.Rows L2

/-- plain data, and names of defs and classes -/
inductive D where
  | non | bl (b : Bool) | int (i : Int) | str (x : Str)
  | tup (xs : List D) | lst (xs : List D) | dct (ks : List Key) (ds : List D)
  | fn (n : Nat) | cl (n : Nat) | ty (n : String)
  | th (r : List D) (x : Option (Nat × List Str))
  | xc (n : Nat) (ns : List Str) (ds : List D)

/-- what a name holds: a thing that is shared and stays, or a list of its own -/
inductive Slot where
  | v (d : D)
  | m (ds : List D)
abbrev Env := List (Option Slot)

/-! ### what a piece of text tells -/
/-- an exception: its class, its own fields -/
structure Xc where
  cls : Nat
  fs : List (Str × D)
inductive R (α : Type) where
  | ok (a : α) (e : Env)
  | exc (x : Xc) (e : Env)
  | bad
inductive RS where
  | nx (e : Env) | rt (s : Slot) (e : Env) | bk (e : Env) | ct (e : Env)
  | exc (x : Xc) (e : Env)
  | bad

/-- what is not in A stays, and does not come into A' -/
def NT (o : HO) : Prop := ∀ ps, o ≠ .tbl ps
def Kp (A : Addr → Prop) (H : Hp) (A' : Addr → Prop) (H' : Hp) : Prop := ∀ a o, H a = some o → (¬ A a ∧ NT o) → H' a = some o ∧ ¬ A' a
theorem Kp.refl {A H} : Kp A H A H := fun _ _ h n => ⟨h, n.1⟩
theorem Kp.trans {A H A1 H1 A2 H2} (a : Kp A H A1 H1) (b : Kp A1 H1 A2 H2) : Kp A H A2 H2 := fun c o h n => b c o (a c o h n).1 ⟨(a c o h n).2, n.2⟩
/-- it is no code object -/
def NC (o : HO) : Prop := (∀ c q, LamX.CodeO c q ≠ o) ∧ NT o
theorem nc_lst {xs} : NC (.lst xs) := ⟨(fun c q z => by unfold LamX.CodeO at z; cases z), (fun _ z => by cases z)⟩
theorem nc_dK {xs} : NC (.dK xs) := ⟨(fun c q z => by unfold LamX.CodeO at z; cases z), (fun _ z => by cases z)⟩
theorem nt_tup {xs} : NT (.tup xs) := fun _ z => by cases z
theorem nt_lst {xs} : NT (.lst xs) := fun _ z => by cases z
theorem nt_dK {xs} : NT (.dK xs) := fun _ z => by cases z
theorem nt_frz {o xs} : NT (.frz o xs) := fun _ z => by cases z
theorem nt_xd {xs} : NT (.xd xs) := fun _ z => by cases z
theorem nt_code {c q} : NT (LamX.CodeO c q) := LamX.codeO_ne
theorem tabs_new {T : List (Addr × Str)} {H : Hp} {a : Addr} {o : HO} (t : LamX.Tabs T H) (h : H a = none) : LamX.Tabs T (upd H a o) := t.ext fun b u e => by
  rw [upd_ne (ne_of_none e h)]
  exact e
/-- an object that is neither a table nor a code object is changed -/
theorem tabs_upd {T : List (Addr × Str)} {H : Hp} {a : Addr} {vs us : List V} (t : LamX.Tabs T H) (h : H a = some (.lst vs)) : LamX.Tabs T (upd H a (.lst us)) := fun p hp => by
  obtain ⟨ps, h1, h2, h3⟩ := t p hp
  have n1 : p.1 ≠ a := fun z => by
    rw [z, h] at h1
    cases h1
  refine ⟨ps, by rw [upd_ne n1]; exact h1, h2, fun pos cv hc => ?_⟩
  obtain ⟨c, e1, e2⟩ := h3 pos cv hc
  have n2 : c ≠ a := fun z => by
    rw [z, h] at e2
    cases e2
  exact ⟨c, e1, by rw [upd_ne n2]; exact e2⟩

/-- a lambda that was handed in -/
structure Thk where
  f : Addr
  c : Addr
  q : Str
  ok : (Addr → Prop) → Hp → List D → Option (Nat × List Str) → Prop
  stable : ∀ A H A' H' r x, Kp A H A' H' → ok A H r x → ok A' H' r x
/-- an exception that is being looked at -/
structure Exv where
  a : Addr
  cls : Value
  d : Option Addr
/-- where the program's defs and classes stand; the tables of code objects; the lambda, in a def that got one -/
structure G where
  K : PySem.W.Frag
  fnA : Nat → Addr
  clA : Nat → Addr
  T : List (Addr × Str)
  th : Option Thk
  ex : Option Exv
/-- what a call of it tells -/
def tellsO (r : R D) : Option (List D × Option (Nat × List Str)) := match r with
  | .ok d _ => some ([d], none)
  | .exc x _ => some (x.fs.map (·.2), some (x.cls, x.fs.map (·.1)))
  | .bad => none

def QT (g : G) (H : Hp) (A : Addr → Prop) (a : Addr) (vs : List V) : Prop :=
  (¬ A a ∧ Rd H a (.tup vs)) ∨ ∃ (o : Obj) (its : Array Value) (n : Nat), g.K.lookup a = some o ∧ o.cls = .type "tuple" ∧ o.data = .seq its n ∧ its.size ≤ sizeLine ∧ Vals vs its.toList
def QL (g : G) (H : Hp) (A : Addr → Prop) (a : Addr) (vs : List V) : Prop :=
  (¬ A a ∧ Rd H a (.lst vs)) ∨ ∃ (o : Obj) (its : Array Value) (n : Nat), g.K.lookup a = some o ∧ o.cls = .type "list" ∧ o.dict = none ∧ o.data = .seq its n ∧ its.size ≤ sizeLine ∧ Vals vs its.toList

mutual
def Rep (g : G) (H : Hp) (A : Addr → Prop) : D → V → Prop
  | .non, v => v = .non
  | .bl b, v => v = .bl b
  | .int i, v => v = .int i
  | .str x, v => v = .str x
  | .tup ds, v => ∃ a vs, v = .ref a ∧ QT g H A a vs ∧ RepL g H A ds vs
  | .lst ds, v => ∃ a vs, v = .ref a ∧ QL g H A a vs ∧ RepL g H A ds vs
  | .dct ks ds, v => ∃ a vs, v = .ref a ∧ (¬ A a ∧ H a = some (.dK (ks.zip vs))) ∧ ks.length = vs.length ∧ RepL g H A ds vs
  | .fn n, v => v = .ref (g.fnA n)
  | .cl n, v => v = .ref (g.clA n)
  | .ty n, v => v = .ty n
  | .th r x, v => ∃ t, g.th = some t ∧ v = .ref t.f ∧ (¬ A t.c ∧ H t.c = some (LamX.CodeO t.c t.q)) ∧ t.ok A H r x
  | .xc n ns ds, v => ∃ x, g.ex = some x ∧ v = .ref x.a ∧ x.cls = .ref (g.clA n) ∧ (ns = [] → x.d = none) ∧ (ns ≠ [] → ∃ dd fs, x.d = some dd ∧ (¬ A dd ∧ H dd = some (.xd fs)) ∧ fs.map (·.1) = ns ∧ RepL g H A ds (fs.map (·.2)))
def RepL (g : G) (H : Hp) (A : Addr → Prop) : List D → List V → Prop
  | [], vs => vs = []
  | d :: ds, vs => ∃ v r, vs = v :: r ∧ Rep g H A d v ∧ RepL g H A ds r
end

section
variable {g : G} {H H' : Hp} {A A' : Addr → Prop}
theorem QT.kp {a vs} (h : QT g H A a vs) (k : Kp A H A' H') : QT g H' A' a vs := by
  rcases h with ⟨n, h | ⟨o, h⟩⟩ | h
  · exact .inl ⟨(k _ _ h ⟨n, nt_tup⟩).2, .inl (k _ _ h ⟨n, nt_tup⟩).1⟩
  · exact .inl ⟨(k _ _ h ⟨n, nt_frz⟩).2, .inr ⟨o, (k _ _ h ⟨n, nt_frz⟩).1⟩⟩
  · exact .inr h
theorem QL.kp {a vs} (h : QL g H A a vs) (k : Kp A H A' H') : QL g H' A' a vs := by
  rcases h with ⟨n, h | ⟨o, h⟩⟩ | h
  · exact .inl ⟨(k _ _ h ⟨n, nt_lst⟩).2, .inl (k _ _ h ⟨n, nt_lst⟩).1⟩
  · exact .inl ⟨(k _ _ h ⟨n, nt_frz⟩).2, .inr ⟨o, (k _ _ h ⟨n, nt_frz⟩).1⟩⟩
  · exact .inr h
theorem QT.sq {a vs} (h : QT g H A a vs) : SqT g.K H a vs := by
  rcases h with ⟨_, h⟩ | h
  · exact .inl h
  · exact .inr h
theorem QL.sq {a vs} (h : QL g H A a vs) : SqL g.K H a vs := by
  rcases h with ⟨_, h⟩ | h
  · exact .inl h
  · exact .inr h
mutual
theorem Rep.kp (k : Kp A H A' H') : ∀ (d : D) (v : V), Rep g H A d v → Rep g H' A' d v
  | .non, _, h => h
  | .bl _, _, h => h
  | .int _, _, h => h
  | .str _, _, h => h
  | .tup ds, _, ⟨a, vs, e, q, r⟩ => ⟨a, vs, e, q.kp k, RepL.kp k ds vs r⟩
  | .lst ds, _, ⟨a, vs, e, q, r⟩ => ⟨a, vs, e, q.kp k, RepL.kp k ds vs r⟩
  | .dct ks ds, _, ⟨a, vs, e, ⟨n, q⟩, l, r⟩ => ⟨a, vs, e, ⟨(k _ _ q ⟨n, nt_dK⟩).2, (k _ _ q ⟨n, nt_dK⟩).1⟩, l, RepL.kp k ds vs r⟩
  | .fn _, _, h => h
  | .cl _, _, h => h
  | .ty _, _, h => h
  | .th r x, _, ⟨t, h1, h2, ⟨n, q⟩, h3⟩ => ⟨t, h1, h2, ⟨(k _ _ q ⟨n, nt_code⟩).2, (k _ _ q ⟨n, nt_code⟩).1⟩, t.stable _ _ _ _ _ _ k h3⟩
  | .xc n ns ds, _, ⟨x, h1, h2, h3, h0, h4⟩ => ⟨x, h1, h2, h3, h0, fun z => by
    obtain ⟨dd, fs, q1, ⟨q2, q3⟩, q4, q5⟩ := h4 z
    exact ⟨dd, fs, q1, ⟨(k _ _ q3 ⟨q2, nt_xd⟩).2, (k _ _ q3 ⟨q2, nt_xd⟩).1⟩, q4, RepL.kp k ds _ q5⟩⟩
theorem RepL.kp (k : Kp A H A' H') : ∀ (ds : List D) (vs : List V), RepL g H A ds vs → RepL g H' A' ds vs
  | [], _, h => h
  | d :: ds, _, ⟨v, r, e, h1, h2⟩ => ⟨v, r, e, Rep.kp k d v h1, RepL.kp k ds r h2⟩
end
theorem RepL.length : ∀ {ds : List D} {vs : List V}, RepL g H A ds vs → ds.length = vs.length
  | [], _, h => by rw [show _ = [] from h]; rfl
  | d :: ds, _, ⟨v, r, e, h1, h2⟩ => by rw [e]; simp [RepL.length h2]
theorem RepL.get : ∀ {ds : List D} {vs : List V} {i : Nat} {v : V}, RepL g H A ds vs → vs[i]? = some v → ∃ d, ds[i]? = some d ∧ Rep g H A d v
  | [], _, i, v, h, e => by rw [show _ = [] from h] at e; simp at e
  | d :: ds, _, 0, v, ⟨u, r, e, h1, h2⟩, q => by subst e; simp at q; subst q; exact ⟨d, rfl, h1⟩
  | d :: ds, _, i + 1, v, ⟨u, r, e, h1, h2⟩, q => by
    subst e
    obtain ⟨d', e1, e2⟩ := RepL.get (i := i) (v := v) h2 (by simpa using q)
    exact ⟨d', by simpa using e1, e2⟩
theorem RepL.at : ∀ {ds : List D} {vs : List V} {i : Nat} {d : D}, RepL g H A ds vs → ds[i]? = some d → ∃ v, vs[i]? = some v ∧ Rep g H A d v
  | [], _, i, v, h, e => by simp at e
  | d :: ds, _, 0, v, ⟨u, r, e, h1, h2⟩, q => by subst e; simp at q; subst q; exact ⟨u, rfl, h1⟩
  | d :: ds, _, i + 1, v, ⟨u, r, e, h1, h2⟩, q => by
    subst e
    obtain ⟨d', e1, e2⟩ := RepL.at (i := i) (d := v) h2 (by simpa using q)
    exact ⟨d', by simpa using e1, e2⟩
theorem RepL.append : ∀ {ds es : List D} {vs us : List V}, RepL g H A ds vs → RepL g H A es us → RepL g H A (ds ++ es) (vs ++ us)
  | [], _, _, _, h, k => by rw [show _ = [] from h]; exact k
  | d :: ds, es, _, us, ⟨v, r, e, h1, h2⟩, k => ⟨v, r ++ us, by rw [e]; rfl, h1, RepL.append h2 k⟩
theorem RepL.drop : ∀ {ds : List D} {vs : List V} (n : Nat), RepL g H A ds vs → RepL g H A (ds.drop n) (vs.drop n)
  | _, _, 0, h => h
  | [], _, n + 1, h => by rw [show _ = [] from h]; rfl
  | d :: ds, _, n + 1, ⟨v, r, e, h1, h2⟩ => by rw [e]; exact RepL.drop n h2
theorem RepL.take : ∀ {ds : List D} {vs : List V} (n : Nat), RepL g H A ds vs → RepL g H A (ds.take n) (vs.take n)
  | _, _, 0, h => rfl
  | [], _, n + 1, h => by rw [show _ = [] from h]; rfl
  | d :: ds, _, n + 1, ⟨v, r, e, h1, h2⟩ => ⟨v, r.take n, by rw [e]; rfl, h1, RepL.take n h2⟩
theorem RepL.set : ∀ {ds : List D} {vs : List V} (n : Nat) {d : D} {v : V}, RepL g H A ds vs → Rep g H A d v → RepL g H A (ds.set n d) (vs.set n v)
  | [], _, n, _, _, h, _ => by rw [show _ = [] from h]; rfl
  | d :: ds, _, 0, _, _, ⟨v, r, e, h1, h2⟩, k => ⟨_, r, by rw [e]; rfl, k, h2⟩
  | d :: ds, _, n + 1, _, _, ⟨v, r, e, h1, h2⟩, k => ⟨v, r.set n _, by rw [e]; rfl, h1, RepL.set n h2 k⟩
theorem RepL.reverse : ∀ {ds : List D} {vs : List V}, RepL g H A ds vs → RepL g H A ds.reverse vs.reverse
  | [], _, h => by rw [show _ = [] from h]; rfl
  | d :: ds, _, ⟨v, r, e, h1, h2⟩ => by
    rw [e, List.reverse_cons, List.reverse_cons]
    exact RepL.append (RepL.reverse h2) ⟨v, [], rfl, h1, rfl⟩
theorem RepL.ints (ns : List Int) : RepL g H A (ns.map D.int) (ns.map V.int) := by
  induction ns with
  | nil => rfl
  | cons n r ih => exact ⟨_, _, rfl, rfl, ih⟩
end

/-- the object at a is a list that a name holds as its own -/
def isM (e : Env) (σ : L2.St) (a : Addr) : Prop := ∃ (i : Nat) (ds : List D), e[i]? = some (some (.m ds)) ∧ σ[i]? = some (some (.ref a))
def Av (P : Addr → Prop) (e : Env) (σ : L2.St) : Addr → Prop := fun a => P a ∨ isM e σ a

/-- ps: the places and addresses of the parameters that are lists to be changed -/
structure StRel (g : G) (P : Addr → Prop) (ps : List (Nat × Addr)) (e : Env) (σ : L2.St) (H : Hp) : Prop where
  len : e.length = σ.length
  vv : ∀ (i : Nat) (d : D), e[i]? = some (some (.v d)) → ∃ v, σ[i]? = some (some v) ∧ Rep g H (Av P e σ) d v
  mm : ∀ (i : Nat) (ds : List D), e[i]? = some (some (.m ds)) → ∃ a vs, σ[i]? = some (some (.ref a)) ∧ H a = some (.lst vs) ∧ RepL g H (Av P e σ) ds vs ∧ ¬ P a
  inj : ∀ (i j : Nat) (a : Addr) (ds es : List D), e[i]? = some (some (.m ds)) → e[j]? = some (some (.m es)) → σ[i]? = some (some (.ref a)) → σ[j]? = some (some (.ref a)) → i = j
  prv : ∀ a, P a → ∃ o, H a = some o ∧ NC o
  par : ∀ p ∈ ps, σ[p.1]? = some (some (.ref p.2)) ∧ ∃ ds, e[p.1]? = some (some (.m ds))
  tb : LamX.Tabs g.T H

section
variable {g : G} {P P' : Addr → Prop} {ps : List (Nat × Addr)} {e e' : Env} {σ σ' : L2.St} {H H' : Hp}
theorem isM.there (s : StRel g P ps e σ H) {a : Addr} (h : isM e σ a) : ∃ vs, H a = some (.lst vs) := by
  obtain ⟨i, ds, h1, h2⟩ := h
  obtain ⟨b, vs, q1, q2, _⟩ := s.mm i ds h1
  rw [h2] at q1; cases q1
  exact ⟨vs, q2⟩
theorem Av.there (s : StRel g P ps e σ H) {a : Addr} (h : Av P e σ a) : ∃ o, H a = some o := by
  rcases h with h | h
  · exact let ⟨o, h, _⟩ := s.prv a h; ⟨o, h⟩
  · exact let ⟨_, h⟩ := h.there s; ⟨_, h⟩
theorem Av.nc (s : StRel g P ps e σ H) {a : Addr} (h : Av P e σ a) : ∃ o, H a = some o ∧ NC o := by
  rcases h with h | h
  · exact s.prv a h
  · exact let ⟨_, h⟩ := h.there s; ⟨_, h, nc_lst⟩
theorem StRel.fresh (s : StRel g P ps e σ H) {a : Addr} (h : H a = none) : ¬ Av P e σ a := fun z => by
  obtain ⟨o, q⟩ := Av.there s z
  rw [h] at q; cases q
/-- the heap grows by a new object -/
theorem kp_new {A : Addr → Prop} {a : Addr} {o : HO} (h : H a = none) : Kp A H A (upd H a o) := fun b u e n => by
  rw [upd_ne (ne_of_none e h)]
  exact ⟨e, n.1⟩
/-- all names stand, what is not a list of their own stays -/
theorem StRel.kp (s : StRel g P ps e σ H) (k : Kp (Av P e σ) H (Av P e σ) H') (hm : ∀ a, isM e σ a → H' a = H a) (hp : ∀ a, P a → H' a = H a) (ht : LamX.Tabs g.T H') : StRel g P ps e σ H' where
  tb := ht
  len := s.len
  vv := fun i d h => let ⟨v, h1, h2⟩ := s.vv i d h; ⟨v, h1, Rep.kp k _ _ h2⟩
  mm := fun i ds h => by
    obtain ⟨a, vs, h1, h2, h3, h4⟩ := s.mm i ds h
    exact ⟨a, vs, h1, by rw [hm a ⟨i, ds, h, h1⟩]; exact h2, RepL.kp k _ _ h3, h4⟩
  inj := s.inj
  prv := fun a h => by rw [hp a h]; exact s.prv a h
  par := s.par
theorem StRel.new (s : StRel g P ps e σ H) {a : Addr} {o : HO} (h : H a = none) : StRel g P ps e σ (upd H a o) :=
  s.kp (kp_new h) (fun b hb => upd_ne fun z => by
    obtain ⟨vs, q⟩ := hb.there s
    rw [z, h] at q; cases q) (fun b hb => upd_ne fun z => by
    obtain ⟨vs, q, _⟩ := s.prv b hb
    rw [z, h] at q; cases q) (tabs_new s.tb h)
/-- fewer things are set apart -/
theorem Rep.mono {A A' : Addr → Prop} (h : ∀ a, A' a → A a) {d : D} {v : V} (r : Rep g H A d v) : Rep g H A' d v := Rep.kp (fun _ _ q n => ⟨q, fun z => n.1 (h _ z)⟩) d v r
theorem RepL.mono {A A' : Addr → Prop} (h : ∀ a, A' a → A a) {d : List D} {v : List V} (r : RepL g H A d v) : RepL g H A' d v := RepL.kp (fun _ _ q n => ⟨q, fun z => n.1 (h _ z)⟩) d v r
theorem StRel.mono (s : StRel g P ps e σ H) (h : ∀ a, P' a → P a) : StRel g P' ps e σ H where
  len := s.len
  vv := fun i d q => let ⟨v, h1, h2⟩ := s.vv i d q; ⟨v, h1, Rep.mono (fun a z => z.elim (fun z => .inl (h a z)) .inr) h2⟩
  mm := fun i ds q => let ⟨a, vs, h1, h2, h3, h4⟩ := s.mm i ds q; ⟨a, vs, h1, h2, RepL.mono (fun a z => z.elim (fun z => .inl (h a z)) .inr) h3, fun z => h4 (h a z)⟩
  inj := s.inj
  prv := fun a q => s.prv a (h a q)
  par := s.par
  tb := s.tb
end

/-- an exception's fields in the heap -/
def RepF (g : G) (H : Hp) (A : Addr → Prop) : List (Str × D) → List (Str × V) → Prop
  | [], vs => vs = []
  | (n, d) :: ds, vs => ∃ v r, vs = (n, v) :: r ∧ Rep g H A d v ∧ RepF g H A ds r
def XRep (g : G) (H : Hp) (A : Addr → Prop) (x : Xc) (cls : Value) (d : Option Addr) : Prop :=
  cls = .ref (g.clA x.cls) ∧ (x.fs = [] → d = none) ∧ (x.fs ≠ [] → ∃ dd fs, d = some dd ∧ ¬ A dd ∧ H dd = some (.xd fs) ∧ RepF g H A x.fs fs)
theorem RepF.kp {g : G} {H H' : Hp} {A A' : Addr → Prop} (k : Kp A H A' H') : ∀ {l : List (Str × D)} {r : List (Str × V)}, RepF g H A l r → RepF g H' A' l r
  | [], _, h => h
  | (n, d) :: ds, _, ⟨v, r, e, h1, h2⟩ => ⟨v, r, e, Rep.kp k d v h1, RepF.kp k h2⟩
theorem XRep.kp {g : G} {H H' : Hp} {A A' : Addr → Prop} (k : Kp A H A' H') {x : Xc} {cls : Value} {d : Option Addr} (h : XRep g H A x cls d) : XRep g H' A' x cls d :=
  ⟨h.1, h.2.1, fun z => by
    obtain ⟨dd, fs, e, n, q, r⟩ := h.2.2 z
    exact ⟨dd, fs, e, (k _ _ q ⟨n, nt_xd⟩).2, (k _ _ q ⟨n, nt_xd⟩).1, r.kp k⟩⟩

/-- the state goes from one to another -/
structure Go (g : G) (P : Addr → Prop) (ps : List (Nat × Addr)) (e : Env) (σ : L2.St) (H : Hp) (e' : Env) (σ' : L2.St) (H' : Hp) : Prop where
  st : StRel g P ps e' σ' H'
  kp : Kp (Av P e σ) H (Av P e' σ') H'
  pr : ∀ a, P a → H' a = H a
theorem Go.refl {g P ps e σ H} (s : StRel g P ps e σ H) : Go g P ps e σ H e σ H := ⟨s, Kp.refl, fun _ _ => rfl⟩
theorem Go.trans {g P ps e σ H e1 σ1 H1 e2 σ2 H2} (a : Go g P ps e σ H e1 σ1 H1) (b : Go g P ps e1 σ1 H1 e2 σ2 H2) : Go g P ps e σ H e2 σ2 H2 :=
  ⟨b.st, a.kp.trans b.kp, fun c h => (b.pr c h).trans (a.pr c h)⟩
theorem Go.new {g P ps e σ H} (s : StRel g P ps e σ H) {a : Addr} {o : HO} (h : H a = none) : Go g P ps e σ H e σ (upd H a o) :=
  ⟨s.new h, kp_new h, fun b hb => upd_ne fun z => by
    obtain ⟨vs, q, _⟩ := s.prv b hb
    rw [z, h] at q; cases q⟩

/-- .. and a new list of one's own comes, at a -/
abbrev Pl (P : Addr → Prop) (a : Addr) : Addr → Prop := fun b => P b ∨ b = a
structure GoM (g : G) (P : Addr → Prop) (ps : List (Nat × Addr)) (e : Env) (σ : L2.St) (H : Hp) (a : Addr) (ds : List D) (e' : Env) (σ' : L2.St) (H' : Hp) : Prop where
  st : StRel g (Pl P a) ps e' σ' H'
  kp : Kp (Av P e σ) H (Av (Pl P a) e' σ') H'
  pr : ∀ a, P a → H' a = H a
  np : ¬ P a
  at_ : ∃ vs, H' a = some (.lst vs) ∧ RepL g H' (Av (Pl P a) e' σ') ds vs
theorem Av.mono {P P' : Addr → Prop} {e : Env} {σ : L2.St} {a : Addr} (h : ∀ a, P a → P' a) (x : Av P e σ a) : Av P' e σ a := x.elim (fun z => .inl (h a z)) .inr
theorem GoM.go {g P ps e σ H a ds e' σ' H'} (x : GoM g P ps e σ H a ds e' σ' H') : Go g P ps e σ H e' σ' H' :=
  ⟨x.st.mono fun _ z => .inl z, fun b o h n => ⟨(x.kp b o h n).1, fun z => (x.kp b o h n).2 (z.mono fun _ z => .inl z)⟩, x.pr⟩
theorem GoM.trans {g P ps e σ H e1 σ1 H1 a ds e2 σ2 H2} (x : Go g P ps e σ H e1 σ1 H1) (y : GoM g P ps e1 σ1 H1 a ds e2 σ2 H2) : GoM g P ps e σ H a ds e2 σ2 H2 :=
  ⟨y.st, x.kp.trans y.kp, fun c h => (y.pr c h).trans (x.pr c h), y.np, y.at_⟩
/-- it is shared from now on -/
theorem GoM.rep {g P ps e σ H a ds e' σ' H'} (x : GoM g P ps e σ H a ds e' σ' H') : Rep g H' (Av P e' σ') (.lst ds) (.ref a) := by
  obtain ⟨vs, h1, h2⟩ := x.at_
  refine ⟨a, vs, rfl, .inl ⟨fun z => ?_, .inl h1⟩, RepL.mono (fun b z => z.mono fun _ z => .inl z) h2⟩
  rcases z with z | ⟨i, es, q1, q2⟩
  · exact x.np z
  · obtain ⟨b, us, r1, _, _, r4⟩ := x.st.mm i es q1
    rw [q2] at r1; cases r1
    exact r4 (.inr rfl)
/-- a new list -/
theorem GoM.new {g P ps e σ H} (s : StRel g P ps e σ H) {a : Addr} {ds : List D} {vs : List V} (h : H a = none) (r : RepL g H (Av P e σ) ds vs) : GoM g P ps e σ H a ds e σ (upd H a (.lst vs)) := by
  have nA := s.fresh h
  have k : Kp (Av P e σ) H (Av (Pl P a) e σ) (upd H a (.lst vs)) := fun b o q n => by
    have nb : b ≠ a := ne_of_none q h
    rw [upd_ne nb]
    refine ⟨q, fun z => ?_⟩
    rcases z with (z | z) | z
    · exact n.1 (.inl z)
    · exact nb z
    · exact n.1 (.inr z)
  have nP : ¬ P a := fun z => nA (.inl z)
  refine ⟨⟨s.len, fun i d q => ?_, fun i es q => ?_, s.inj, fun b q => ?_, s.par, tabs_new s.tb h⟩, k, fun b q => upd_ne fun z => nP (z ▸ q), nP, vs, upd_same, RepL.kp k _ _ r⟩
  · obtain ⟨v, h1, h2⟩ := s.vv i d q
    exact ⟨v, h1, Rep.kp k _ _ h2⟩
  · obtain ⟨b, us, h1, h2, h3, h4⟩ := s.mm i es q
    have nb : b ≠ a := ne_of_none h2 h
    exact ⟨b, us, h1, by rw [upd_ne nb]; exact h2, RepL.kp k _ _ h3, fun z => z.elim h4 nb⟩
  · by_cases hb : b = a
    · rw [hb, upd_same]; exact ⟨_, rfl, nc_lst⟩
    · rw [upd_ne hb]
      rcases q with q | q
      · exact s.prv b q
      · exact absurd q hb

/-- an expression's reading -/
def tD (g : G) (P : Addr → Prop) (ps : List (Nat × Addr)) (W : WX) (f : Env → R D) : TE := fun σ H Q => ∃ e, StRel g P ps e σ H ∧ match f e with
  | .ok d e' => ∀ v H', Go g P ps e σ H e' σ H' → Rep g H' (Av P e' σ) d v → Q v H'
  | .exc x e' => ∀ cls d H', Go g P ps e σ H e' σ H' → XRep g H' (Av P e' σ) x cls d → W cls d σ H'
  | .bad => False
/-- a list of one's own comes -/
def tM (g : G) (P : Addr → Prop) (ps : List (Nat × Addr)) (W : WX) (f : Env → R (List D)) : TE := fun σ H Q => ∃ e, StRel g P ps e σ H ∧ match f e with
  | .ok ds e' => ∀ a H', GoM g P ps e σ H a ds e' σ H' → Q (.ref a) H'
  | .exc x e' => ∀ cls d H', Go g P ps e σ H e' σ H' → XRep g H' (Av P e' σ) x cls d → W cls d σ H'
  | .bad => False
def tB (g : G) (P : Addr → Prop) (ps : List (Nat × Addr)) (W : WX) (f : Env → R Bool) : TT := fun σ H Q => ∃ e, StRel g P ps e σ H ∧ match f e with
  | .ok b e' => ∀ H', Go g P ps e σ H e' σ H' → Q b H'
  | .exc x e' => ∀ cls d H', Go g P ps e σ H e' σ H' → XRep g H' (Av P e' σ) x cls d → W cls d σ H'
  | .bad => False
def tS (g : G) (P : Addr → Prop) (ps : List (Nat × Addr)) (W : WX) (f : Env → RS) : TS := fun Dn σ H => ∃ e, StRel g P ps e σ H ∧ match f e with
  | .nx e' => ∀ σ' H', Go g P ps e σ H e' σ' H' → Dn.nx σ' H'
  | .rt (.v d) e' => ∀ v σ' H', Go g P ps e σ H e' σ' H' → Rep g H' (Av P e' σ') d v → Dn.rt v H'
  | .rt (.m ds) e' => ∀ a σ' H', GoM g P ps e σ H a ds e' σ' H' → Dn.rt (.ref a) H'
  | .bk e' => ∀ σ' H', Go g P ps e σ H e' σ' H' → Dn.bk σ' H'
  | .ct e' => ∀ σ' H', Go g P ps e σ H e' σ' H' → Dn.ct σ' H'
  | .exc x e' => ∀ cls d σ' H', Go g P ps e σ H e' σ' H' → XRep g H' (Av P e' σ') x cls d → W cls d σ' H'
  | .bad => False
end DL
end

section
set_option Elab.async false
set_option linter.all false
set_option maxRecDepth 100000
set_option maxHeartbeats 4000000
namespace DL
open PySem PySem.Spec PyProof.Rows L2

section
variable {g : G} {P : Addr → Prop} {ps : List (Nat × Addr)} {W : WX} {e e1 : Env} {σ σ' : L2.St} {H H1 H' : Hp}
theorem StRel.same (s : StRel g P ps e σ H) (h : Same H H') : StRel g P ps e σ H' :=
  s.kp (fun a o q n => ⟨h a o q, n.1⟩) (fun a q => by
    obtain ⟨vs, z⟩ := q.there s
    rw [z, h _ _ z]) (fun a q => by
    obtain ⟨o, z, _⟩ := s.prv a q
    rw [z, h _ _ z]) (s.tb.ext h)
theorem Go.same (s : StRel g P ps e σ H) (h : Same H H') : Go g P ps e σ H e σ H' :=
  ⟨s.same h, fun a o q n => ⟨h a o q, n.1⟩, fun a q => by
    obtain ⟨o, z, _⟩ := s.prv a q
    rw [z, h _ _ z]⟩
theorem same_new {a : Addr} {o : HO} (h : H a = none) : Same H (upd H a o) := fun b u q => by
  rw [upd_ne (ne_of_none q h)]
  exact q
theorem kp_same {A : Addr → Prop} (h : Same H H') : Kp A H A H' := fun a o q n => ⟨h a o q, n.1⟩

/-- what is wanted behind an expression that tells r -/
def PR (g : G) (P : Addr → Prop) (ps : List (Nat × Addr)) (W : WX) (e : Env) (σ : L2.St) (H : Hp) {α : Type} (r : R α) (k : α → Env → Hp → Prop) : Prop := match r with
  | .ok a e' => ∀ H', Go g P ps e σ H e' σ H' → k a e' H'
  | .exc x e' => ∀ cls d H', Go g P ps e σ H e' σ H' → XRep g H' (Av P e' σ) x cls d → W cls d σ H'
  | .bad => False
def bnd {α β : Type} (x : R α) (f : α → Env → R β) : R β := match x with
  | .ok a e => f a e
  | .exc x e => .exc x e
  | .bad => .bad
@[simp] theorem bnd_ok {α β : Type} (a : α) (e : Env) (f : α → Env → R β) : bnd (.ok a e) f = f a e := rfl
@[simp] theorem bnd_exc {α β : Type} (x : Xc) (e : Env) (f : α → Env → R β) : bnd (.exc x e) f = .exc x e := rfl
@[simp] theorem bnd_bad {α β : Type} (f : α → Env → R β) : bnd .bad f = .bad := rfl
def opt {α : Type} (o : Option α) (e : Env) : R α := match o with
  | some a => .ok a e
  | none => .bad
@[simp] theorem opt_some {α : Type} (a : α) (e : Env) : opt (some a) e = .ok a e := rfl
@[simp] theorem opt_none {α : Type} (e : Env) : opt (none : Option α) e = .bad := rfl

theorem PR.mono {α : Type} {r : R α} {k k' : α → Env → Hp → Prop} (h : PR g P ps W e σ H r k) (m : ∀ a e' H', Go g P ps e σ H e' σ H' → k a e' H' → k' a e' H') : PR g P ps W e σ H r k' := by
  cases r with
  | ok a e' => exact fun H' q => m _ _ _ q (h H' q)
  | exc x e' => exact h
  | bad => exact h
theorem PR.shift {α : Type} {r : R α} {k : α → Env → Hp → Prop} (h : PR g P ps W e σ H r k) (q : Go g P ps e σ H e1 σ H1) : PR g P ps W e1 σ H1 r k := by
  cases r with
  | ok a e' => exact fun H' z => h H' (q.trans z)
  | exc x e' => exact fun cls d H' z => h cls d H' (q.trans z)
  | bad => exact h
theorem PR.bnd {α β : Type} {x : R α} {f : α → Env → R β} {k : β → Env → Hp → Prop} (h : PR g P ps W e σ H (bnd x f) k) : PR g P ps W e σ H x (fun a e1 H1 => PR g P ps W e1 σ H1 (f a e1) k) := by
  cases x with
  | ok a e' => exact fun H' z => PR.shift h z
  | exc x e' => exact h
  | bad => exact h
theorem PR.opt {α : Type} {o : Option α} {k : α → Env → Hp → Prop} (h : PR g P ps W e σ H (opt o e) k) : ∃ a, o = some a ∧ ∀ H', Go g P ps e σ H e σ H' → k a e H' := by
  cases o with
  | some a => exact ⟨a, rfl, h⟩
  | none => exact h.elim

theorem tD_eq {f : Env → R D} {Q : VK} : tD g P ps W f σ H Q ↔ ∃ e, StRel g P ps e σ H ∧ PR g P ps W e σ H (f e) (fun d e' H' => ∀ v, Rep g H' (Av P e' σ) d v → Q v H') := by
  constructor
  · rintro ⟨e, s, h⟩
    refine ⟨e, s, ?_⟩
    revert h
    cases f e with
    | ok a e' => exact fun h H' q v r => h v H' q r
    | exc x e' => exact fun h => h
    | bad => exact fun h => h
  · rintro ⟨e, s, h⟩
    refine ⟨e, s, ?_⟩
    revert h
    cases f e with
    | ok a e' => exact fun h v H' q r => h H' q v r
    | exc x e' => exact fun h => h
    | bad => exact fun h => h
theorem tB_eq {f : Env → R Bool} {Q : Bool → Hp → Prop} : tB g P ps W f σ H Q ↔ ∃ e, StRel g P ps e σ H ∧ PR g P ps W e σ H (f e) (fun b e' H' => Q b H') := by
  constructor
  · rintro ⟨e, s, h⟩
    refine ⟨e, s, ?_⟩
    revert h
    cases f e with
    | ok a e' => exact fun h => h
    | exc x e' => exact fun h => h
    | bad => exact fun h => h
  · rintro ⟨e, s, h⟩
    refine ⟨e, s, ?_⟩
    revert h
    cases f e with
    | ok a e' => exact fun h => h
    | exc x e' => exact fun h => h
    | bad => exact fun h => h
end

/-- the judgements -/
structure DE (g : G) (mp : List Nat) (X : Cx) (ex : Expr) (f : Env → R D) : Prop where
  run : ∀ (P : Addr → Prop) (ps : List (Nat × Addr)) (W : WX), ps.map (·.1) = mp → Takes X W → PE X ex (tD g P ps W f)
structure DM (g : G) (mp : List Nat) (X : Cx) (ex : Expr) (f : Env → R (List D)) : Prop where
  run : ∀ (P : Addr → Prop) (ps : List (Nat × Addr)) (W : WX), ps.map (·.1) = mp → Takes X W → PE X ex (tM g P ps W f)
structure DB (g : G) (mp : List Nat) (X : Cx) (ex : Expr) (f : Env → R Bool) : Prop where
  run : ∀ (P : Addr → Prop) (ps : List (Nat × Addr)) (W : WX), ps.map (·.1) = mp → Takes X W → PT X ex (tB g P ps W f)
structure DBW (g : G) (mp : List Nat) (X : Cx) (ex : Expr) (f : Env → R Bool) : Prop where
  run : ∀ (P : Addr → Prop) (ps : List (Nat × Addr)) (W : WX), ps.map (·.1) = mp → Takes X W → PW X ex (tB g P ps W f)
/-- arguments that are plain things -/
def tL (g : G) (P : Addr → Prop) (ps : List (Nat × Addr)) (W : WX) (f : Env → R (List D)) : TA := fun σ H Q => ∃ e, StRel g P ps e σ H ∧ PR g P ps W e σ H (f e) (fun ds e' H' => ∀ vs, RepL g H' (Av P e' σ) ds vs → Q vs H')
structure DA (g : G) (mp : List Nat) (X : Cx) (es : List Expr) (f : Env → R (List D)) : Prop where
  run : ∀ (P : Addr → Prop) (ps : List (Nat × Addr)) (W : WX), ps.map (·.1) = mp → Takes X W → PA X es (tL g P ps W f)

theorem pe_imp {X : Cx} {ex : Expr} {t t' : TE} (h : PE X ex t) (m : ∀ σ H Q, t' σ H Q → t σ H Q) : PE X ex t' := ⟨fun pins s σ H Q I q => h.run pins s σ H Q I (m σ H Q q)⟩
theorem pt_imp {X : Cx} {ex : Expr} {t t' : TT} (h : PT X ex t) (m : ∀ σ H Q, t' σ H Q → t σ H Q) : PT X ex t' := ⟨fun pins s σ H Q I q => h.run pins s σ H Q I (m σ H Q q)⟩
theorem pw_imp {X : Cx} {ex : Expr} {t t' : TT} (h : PW X ex t) (m : ∀ σ H Q, t' σ H Q → t σ H Q) : PW X ex t' := ⟨fun w pins s σ H Q I q => h.run w pins s σ H Q I (m σ H Q q)⟩
theorem pa_imp {X : Cx} {es : List Expr} {t t' : TA} (h : PA X es t) (m : ∀ σ H Q, t' σ H Q → t σ H Q) : PA X es t' := ⟨fun p pins s σ H Q I q => h.run p pins s σ H Q I (m σ H Q q)⟩
theorem ps_imp {X : Cx} {st : Stmt} {t t' : TS} (h : PS X st t) (m : ∀ σ H Q, t' Q σ H → t Q σ H) : PS X st t' := ⟨fun pins s σ H Q I q => h.run pins s σ H Q I (m σ H Q q)⟩
theorem pss_imp {X : Cx} {st : List Stmt} {t t' : TS} (h : PSs X st t) (m : ∀ σ H Q, t' Q σ H → t Q σ H) : PSs X st t' := ⟨fun pins s σ H Q I q => h.run pins s σ H Q I (m σ H Q q)⟩

def Tr (A : Addr → Prop) (H : Hp) : Prop := ∀ a, A a → ∃ o, H a = some o
theorem StRel.tr {g P ps e σ H} (s : StRel g P ps e σ H) : Tr (Av P e σ) H := fun _ h => Av.there s h
theorem Tr.fresh {A : Addr → Prop} {H : Hp} (t : Tr A H) {a : Addr} (h : H a = none) : ¬ A a := fun z => by
  obtain ⟨o, q⟩ := t a z
  rw [h] at q; cases q

/-! ### names, constants -/
def dVar (i : Nat) : Env → R D := fun e => match e[i]? with
  | some (some (.v d)) => .ok d e
  | _ => .bad
/-- a list of one's own is shared from now on -/
def dFrz (i : Nat) : Env → R D := fun e => match e[i]? with
  | some (some (.m ds)) => .ok (.lst ds) (e.set i (some (.v (.lst ds))))
  | _ => .bad
def dC (d : D) : Env → R D := fun e => .ok d e
section
variable {g : G} {mp : List Nat} {X : Cx} {x : Str} {pos : Pos}
theorem de_var (i : Nat) (hN : X.N[i]? = some x := by rfl) (hv : Vis X.env.scope x := by first | exact Or.inl rfl | exact Or.inr (Or.inl rfl) | exact Or.inr (Or.inr rfl)) (hd : (x == ("__debug__" : Str)) = false := by decide)
    (hcd : (x == ("__classdict__" : Str)) = false := by decide) : DE g mp X (.Name x pos) (dVar i) := ⟨fun P ps W hp tk => pe_imp (pe_var hN hv hd hcd) fun σ H Q h => by
  obtain ⟨e, s, h⟩ := tD_eq.mp h
  unfold dVar at h
  cases q : e[i]? with
  | none => rw [q] at h; exact h.elim
  | some o =>
    cases o with
    | none => rw [q] at h; exact h.elim
    | some sl =>
      cases sl with
      | m ds => rw [q] at h; exact h.elim
      | v d =>
        rw [q] at h
        obtain ⟨v, e1, r⟩ := s.vv i d q
        exact ⟨v, e1, h H (Go.refl s) v r⟩⟩
theorem StRel.frz {P ps e σ H} (s : StRel g P ps e σ H) {i : Nat} {ds : List D} (q : e[i]? = some (some (.m ds))) (hi : i ∉ ps.map (·.1)) :
    Go g P ps e σ H (e.set i (some (.v (.lst ds)))) σ H ∧ ∃ a, σ[i]? = some (some (.ref a)) ∧ Rep g H (Av P (e.set i (some (.v (.lst ds)))) σ) (.lst ds) (.ref a) := by
  obtain ⟨a, vs, h1, h2, h3, h4⟩ := s.mm i ds q
  have hl : i < e.length := by
    cases Nat.lt_or_ge i e.length with
    | inl h => exact h
    | inr h => rw [List.getElem?_eq_none h] at q; cases q
  have sub : ∀ b, isM (e.set i (some (.v (.lst ds)))) σ b → isM e σ b ∧ b ≠ a := by
    rintro b ⟨j, es, q1, q2⟩
    by_cases hj : i = j
    · subst hj
      rw [List.getElem?_set_self hl] at q1
      cases q1
    · rw [List.getElem?_set_ne hj] at q1
      refine ⟨⟨j, es, q1, q2⟩, fun z => ?_⟩
      subst z
      exact hj (s.inj i j b ds es q q1 h1 q2)
  have subA : ∀ b, Av P (e.set i (some (.v (.lst ds)))) σ b → Av P e σ b := fun b z => z.elim .inl fun z => .inr (sub b z).1
  have k : Kp (Av P e σ) H (Av P (e.set i (some (.v (.lst ds)))) σ) H := fun b o q n => ⟨q, fun z => n.1 (subA b z)⟩
  have rep : Rep g H (Av P (e.set i (some (.v (.lst ds)))) σ) (.lst ds) (.ref a) := by
    refine ⟨a, vs, rfl, .inl ⟨fun z => ?_, .inl h2⟩, RepL.mono subA h3⟩
    rcases z with z | z
    · exact h4 z
    · exact (sub a z).2 rfl
  refine ⟨⟨⟨by rw [List.length_set]; exact s.len, fun j d q' => ?_, fun j es q' => ?_, fun j l b es fs q1 q2 r1 r2 => ?_, s.prv, fun p hp => ?_, s.tb⟩, k, fun _ _ => rfl⟩, a, h1, rep⟩
  · by_cases hj : i = j
    · subst hj
      rw [List.getElem?_set_self hl] at q'
      cases q'
      exact ⟨_, h1, rep⟩
    · rw [List.getElem?_set_ne hj] at q'
      obtain ⟨v, z1, z2⟩ := s.vv j d q'
      exact ⟨v, z1, Rep.kp k _ _ z2⟩
  · by_cases hj : i = j
    · subst hj
      rw [List.getElem?_set_self hl] at q'
      cases q'
    · rw [List.getElem?_set_ne hj] at q'
      obtain ⟨b, us, z1, z2, z3, z4⟩ := s.mm j es q'
      exact ⟨b, us, z1, z2, RepL.kp k _ _ z3, z4⟩
  · by_cases hj : i = j
    · subst hj
      rw [List.getElem?_set_self hl] at q1
      cases q1
    · by_cases hl' : i = l
      · subst hl'
        rw [List.getElem?_set_self hl] at q2
        cases q2
      · rw [List.getElem?_set_ne hj] at q1
        rw [List.getElem?_set_ne hl'] at q2
        exact s.inj j l b es fs q1 q2 r1 r2
  · obtain ⟨z1, es, z2⟩ := s.par p hp
    have hj : i ≠ p.1 := fun z => hi (by rw [z]; exact List.mem_map_of_mem hp)
    exact ⟨z1, es, by rw [List.getElem?_set_ne hj]; exact z2⟩
theorem de_frz (i : Nat) (hi : i ∉ mp := by decide) (hN : X.N[i]? = some x := by rfl) (hv : Vis X.env.scope x := by first | exact Or.inl rfl | exact Or.inr (Or.inl rfl) | exact Or.inr (Or.inr rfl)) (hd : (x == ("__debug__" : Str)) = false := by decide)
    (hcd : (x == ("__classdict__" : Str)) = false := by decide) : DE g mp X (.Name x pos) (dFrz i) := ⟨fun P ps W hp tk => pe_imp (pe_var hN hv hd hcd) fun σ H Q h => by
  obtain ⟨e, s, h⟩ := tD_eq.mp h
  unfold dFrz at h
  cases q : e[i]? with
  | none => rw [q] at h; exact h.elim
  | some o =>
    cases o with
    | none => rw [q] at h; exact h.elim
    | some sl =>
      cases sl with
      | v ds => rw [q] at h; exact h.elim
      | m ds =>
        rw [q] at h
        obtain ⟨go, a, e1, r⟩ := s.frz q (by rw [hp]; exact hi)
        exact ⟨_, e1, h H go _ r⟩⟩
theorem de_c {ex : Expr} {v : V} {d : D} (h : PE X ex (tC v)) (r : ∀ H A, Rep g H A d v) : DE g mp X ex (dC d) := ⟨fun P ps W hp tk => pe_imp h fun σ H Q h => by
  obtain ⟨e, s, h⟩ := tD_eq.mp h
  exact h H (Go.refl s) v (r H _)⟩
theorem de_int {i j} : DE g mp X (.Constant (.int i) j pos) (dC (.int i)) := de_c pe_int fun _ _ => rfl
theorem de_bl {b j} : DE g mp X (.Constant (.bool b) j pos) (dC (.bl b)) := de_c pe_bl fun _ _ => rfl
theorem de_non {j} : DE g mp X (.Constant .none j pos) (dC .non) := de_c pe_non fun _ _ => rfl
theorem de_str {z j} : DE g mp X (.Constant (.str z) j pos) (dC (.str z)) := de_c pe_str fun _ _ => rfl
end

/-! ### operators -/
def Op1 (g : G) (r : V → Hp → VK → Prop) (F : D → Option D) : Prop :=
  ∀ (A : Addr → Prop) (H : Hp) (x : V) (a d : D) (Q : VK), Tr A H → Rep g H A a x → F a = some d → (∀ v H', Same H H' → Rep g H' A d v → Q v H') → r x H Q
def Op2 (g : G) (r : R2) (F : D → D → Option D) : Prop :=
  ∀ (A : Addr → Prop) (H : Hp) (x y : V) (a b d : D) (Q : VK), Tr A H → Rep g H A a x → Rep g H A b y → F a b = some d → (∀ v H', Same H H' → Rep g H' A d v → Q v H') → r x y H Q
def OpC (g : G) (r : List V → Hp → VK → Prop) (F : List D → Option D) : Prop :=
  ∀ (A : Addr → Prop) (H : Hp) (xs : List V) (as : List D) (d : D) (Q : VK), Tr A H → RepL g H A as xs → F as = some d → (∀ v H', Same H H' → Rep g H' A d v → Q v H') → r xs H Q
def dUn (F : D → Option D) (fa : Env → R D) : Env → R D := fun e => bnd (fa e) fun a e1 => opt (F a) e1
def dBin (F : D → D → Option D) (fa fb : Env → R D) : Env → R D := fun e => bnd (fa e) fun a e1 => bnd (fb e1) fun b e2 => opt (F a b) e2
def dCal (F : List D → Option D) (fs : Env → R (List D)) : Env → R D := fun e => bnd (fs e) fun as e1 => opt (F as) e1
/-- a bool, of a D -/
def asB : D → Option Bool
  | .bl b => some b
  | _ => none
def dTest (f : Env → R D) : Env → R Bool := fun e => bnd (f e) fun d e1 => opt (asB d) e1
section
variable {g : G} {mp : List Nat} {X : Cx} {a b c : Expr} {fa fb fc : Env → R D} {pos : Pos}
theorem tD_un {P ps W} {r : V → Hp → VK → Prop} {F : D → Option D} (hF : Op1 g r F) {σ H Q} (h : tD g P ps W (dUn F fa) σ H Q) : tD g P ps W fa σ H fun x H1 => r x H1 Q := by
  obtain ⟨e, s, h⟩ := tD_eq.mp h
  refine tD_eq.mpr ⟨e, s, h.bnd.mono fun d e1 H1 go1 k v rv => ?_⟩
  obtain ⟨d', q, k⟩ := PR.opt k
  exact hF _ _ _ _ _ _ go1.st.tr rv q fun v' H' sm rv' => k H' (Go.same go1.st sm) v' rv'
theorem tD_bin {P ps W} {r : R2} {F : D → D → Option D} (hF : Op2 g r F) {σ H Q} (h : tD g P ps W (dBin F fa fb) σ H Q) : tOp r (tD g P ps W fa) (tD g P ps W fb) σ H Q := by
  obtain ⟨e, s, h⟩ := tD_eq.mp h
  refine tD_eq.mpr ⟨e, s, h.bnd.mono fun d e1 H1 go1 k v rv => ?_⟩
  refine tD_eq.mpr ⟨e1, go1.st, k.bnd.mono fun d2 e2 H2 go2 k v2 rv2 => ?_⟩
  obtain ⟨d', q, k⟩ := PR.opt k
  exact hF _ _ _ _ _ _ _ _ go2.st.tr (Rep.kp go2.kp _ _ rv) rv2 q fun v' H' sm rv' => k H' (Go.same go2.st sm) v' rv'
theorem tD_cal {P ps W} {r : List V → Hp → VK → Prop} {F : List D → Option D} {fs : Env → R (List D)} (hF : OpC g r F) {σ H Q} (h : tD g P ps W (dCal F fs) σ H Q) : tCB r (tL g P ps W fs) σ H Q := by
  obtain ⟨e, s, h⟩ := tD_eq.mp h
  refine ⟨e, s, h.bnd.mono fun d e1 H1 go1 k v rv => ?_⟩
  obtain ⟨d', q, k⟩ := PR.opt k
  exact hF _ _ _ _ _ _ go1.st.tr rv q fun v' H' sm rv' => k H' (Go.same go1.st sm) v' rv'
theorem de_un {op : UnaryOp} {r : V → Hp → VK → Prop} {F : D → Option D} (ho : UnR X (unaryOp op) r) (hF : Op1 g r F) (ha : DE g mp X a fa) : DE g mp X (.UnaryOp op a pos) (dUn F fa) :=
  ⟨fun P ps W hp tk => pe_imp (pe_un ho (ha.run P ps W hp tk)) fun σ H Q h => tD_un hF h⟩
theorem de_bin {op : Operator} {r : R2} {F : D → D → Option D} (ho : OpR X (binaryOp op) r) (hF : Op2 g r F) (ha : DE g mp X a fa) (hb : DE g mp X b fb) : DE g mp X (.BinOp a op b pos) (dBin F fa fb) :=
  ⟨fun P ps W hp tk => pe_imp (pe_op ho (ha.run P ps W hp tk) (hb.run P ps W hp tk)) fun σ H Q h => tD_bin hF h⟩
theorem de_cmp {op : CmpOp} {r : R2} {F : D → D → Option D} (ho : OpR X (compareOp op) r) (hF : Op2 g r F) (ha : DE g mp X a fa) (hb : DE g mp X b fb) (hm : behindInMarks op b = false) : DE g mp X (.Compare a [op] [b] pos) (dBin F fa fb) :=
  ⟨fun P ps W hp tk => pe_imp (pe_cmpR ho (ha.run P ps W hp tk) (hb.run P ps W hp tk) hm) fun σ H Q h => tD_bin hF h⟩
theorem tD_test {P ps W} {f : Env → R D} {σ H Q} (h : tB g P ps W (dTest f) σ H Q) : tD g P ps W f σ H fun x H' => ∃ k, x = .bl k ∧ Q k H' := by
  obtain ⟨e, s, h⟩ := tB_eq.mp h
  refine tD_eq.mpr ⟨e, s, h.bnd.mono fun d e1 H1 go1 k v rv => ?_⟩
  obtain ⟨d', q, k⟩ := PR.opt k
  cases d with
  | bl b =>
    cases q
    exact ⟨_, rv, k _ (Go.refl go1.st)⟩
  | _ => cases q
theorem db_cmp {op : CmpOp} {r : R2} {F : D → D → Option D} (ho : OpR X (compareOp op) r) (hF : Op2 g r F) (ha : DE g mp X a fa) (hb : DE g mp X b fb) (hm : behindInMarks op b = false) : DB g mp X (.Compare a [op] [b] pos) (dTest (dBin F fa fb)) :=
  ⟨fun P ps W hp tk => pt_imp (pt_cmpR ho (ha.run P ps W hp tk) (hb.run P ps W hp tk) hm) fun σ H Q h => tD_bin hF (tD_test h)⟩
theorem db_val (he : ∀ whole, isTrue a X.env whole = (do let v ← whole; standAt a.pos; holding [v] (truthy v))) (ha : DE g mp X a fa) : DB g mp X a (dTest fa) :=
  ⟨fun P ps W hp tk => pt_imp (pt_val (ha.run P ps W hp tk) he) fun σ H Q h => tD_test h⟩
/-! ### a op b op' c -/
def dChain (F F' : D → D → Option D) (fa fb fc : Env → R D) : Env → R D := fun e => bnd (fa e) fun x e1 => bnd (fb e1) fun y e2 => bnd (opt ((F x y).bind asB) e2) fun k e2 => if k = true then bnd (fc e2) fun z e3 => opt (F' y z) e3 else .ok (.bl false) e2
theorem asB_some {o : Option D} {k : Bool} (h : o.bind asB = some k) : o = some (.bl k) := by
  cases o with
  | none => cases h
  | some d => cases d <;> first | (cases h; rfl) | cases h
theorem tD_chain {P ps W} {r r' : R2} {F F' : D → D → Option D} (hF : Op2 g r F) (hF' : Op2 g r' F') {σ H Q} (h : tD g P ps W (dChain F F' fa fb fc) σ H Q) : tChain r r' (tD g P ps W fa) (tD g P ps W fb) (tD g P ps W fc) σ H Q := by
  obtain ⟨e, s, h⟩ := tD_eq.mp h
  refine tD_eq.mpr ⟨e, s, h.bnd.mono fun d e1 H1 go1 k v rv => ?_⟩
  refine tD_eq.mpr ⟨e1, go1.st, k.bnd.mono fun d2 e2 H2 go2 k v2 rv2 => ?_⟩
  obtain ⟨c, q, k⟩ := PR.opt k.bnd
  refine hF _ _ _ _ _ _ _ _ go2.st.tr (Rep.kp go2.kp _ _ rv) rv2 (asB_some q) fun v' H' sm rv' => ⟨c, rv', ?_⟩
  have gs := Go.same go2.st sm
  have k := k H' gs
  cases c with
  | true =>
    rw [if_pos rfl] at k ⊢
    refine tD_eq.mpr ⟨e2, gs.st, k.bnd.mono fun d3 e3 H3 go3 k v3 rv3 => ?_⟩
    obtain ⟨d', q', k⟩ := PR.opt k
    exact hF' _ _ _ _ _ _ _ _ go3.st.tr (Rep.kp (gs.kp.trans go3.kp) _ _ rv2) rv3 q' fun v' H' sm rv' => k H' (Go.same go3.st sm) v' rv'
  | false =>
    rw [if_neg Bool.false_ne_true] at k ⊢
    exact k H' (Go.refl gs.st) _ rfl
theorem de_chain {op op' : CmpOp} {r r' : R2} {F F' : D → D → Option D} (ho : OpR X (compareOp op) r) (ho' : OpR X (compareOp op') r') (hF : Op2 g r F) (hF' : Op2 g r' F') (ha : DE g mp X a fa) (hb : DE g mp X b fb) (hc : DE g mp X c fc)
    (hm : lastMarks [op, op'] [b, c] = false := by with_unfolding_all rfl) : DE g mp X (.Compare a [op, op'] [b, c] pos) (dChain F F' fa fb fc) :=
  ⟨fun P ps W hp tk => pe_imp (pe_chain ho ho' (ha.run P ps W hp tk) (hb.run P ps W hp tk) (hc.run P ps W hp tk) hm) fun σ H Q h => tD_chain hF hF' h⟩
theorem db_chain {op op' : CmpOp} {r r' : R2} {F F' : D → D → Option D} (ho : OpR X (compareOp op) r) (ho' : OpR X (compareOp op') r') (hF : Op2 g r F) (hF' : Op2 g r' F') (ha : DE g mp X a fa) (hb : DE g mp X b fb) (hc : DE g mp X c fc)
    (hm : lastMarks [op, op'] [b, c] = false := by with_unfolding_all rfl) : DB g mp X (.Compare a [op, op'] [b, c] pos) (dTest (dChain F F' fa fb fc)) :=
  ⟨fun P ps W hp tk => pt_imp (pt_chain ho ho' (ha.run P ps W hp tk) (hb.run P ps W hp tk) (hc.run P ps W hp tk) hm) fun σ H Q h => tD_chain hF hF' (tD_test h)⟩

/-! ### and, or, not -/
def dAnd (fa fb : Env → R D) : Env → R D := fun e => bnd (dTest fa e) fun k e1 => if k = true then fb e1 else .ok (.bl false) e1
def dOr (fa fb : Env → R D) : Env → R D := fun e => bnd (dTest fa e) fun k e1 => if k = true then .ok (.bl true) e1 else fb e1
def dNot (fa : Env → R D) : Env → R D := fun e => bnd (dTest fa e) fun k e1 => .ok (.bl (!k)) e1
def bAnd (fa fb : Env → R Bool) : Env → R Bool := fun e => bnd (fa e) fun k e1 => if k = true then fb e1 else .ok false e1
def bOr (fa fb : Env → R Bool) : Env → R Bool := fun e => bnd (fa e) fun k e1 => if k = true then .ok true e1 else fb e1
def bNot (fa : Env → R Bool) : Env → R Bool := fun e => bnd (fa e) fun k e1 => .ok (!k) e1
def dIf (ft : Env → R Bool) (fa fb : Env → R D) : Env → R D := fun e => bnd (ft e) fun k e1 => if k = true then fa e1 else fb e1
variable {rest : List Expr} {ta tb : Env → R Bool}
theorem tD_of {P ps W} {f : Env → R D} {σ H Q} {e : Env} (s : StRel g P ps e σ H) (h : PR g P ps W e σ H (f e) (fun d e' H' => ∀ v, Rep g H' (Av P e' σ) d v → Q v H')) : tD g P ps W f σ H Q := tD_eq.mpr ⟨e, s, h⟩
theorem tB_of {P ps W} {f : Env → R Bool} {σ H Q} {e : Env} (s : StRel g P ps e σ H) (h : PR g P ps W e σ H (f e) (fun b e' H' => Q b H')) : tB g P ps W f σ H Q := tB_eq.mpr ⟨e, s, h⟩
theorem de_one {op} (h : DE g mp X a fa) : DE g mp X (.BoolOp op [a] pos) fa := ⟨fun P ps W hp tk => pe_one (h.run P ps W hp tk)⟩
theorem de_and (ha : DE g mp X a fa) (hb : DE g mp X (.BoolOp .And (b :: rest) pos) fb) : DE g mp X (.BoolOp .And (a :: b :: rest) pos) (dAnd fa fb) :=
  ⟨fun P ps W hp tk => pe_imp (pe_and (ha.run P ps W hp tk) (hb.run P ps W hp tk)) fun σ H Q h => by
    obtain ⟨e, s, h⟩ := tD_eq.mp h
    have h1 := tD_test (tB_of (Q := fun k H1 => if k = true then tD g P ps W fb σ H1 Q else Q (.bl false) H1) s (h.bnd.mono fun k e1 H1 go1 z => by
      cases k with
      | true => rw [if_pos rfl] at z ⊢; exact tD_of go1.st z
      | false => rw [if_neg Bool.false_ne_true] at z ⊢; exact z _ (Go.refl go1.st) _ rfl))
    exact h1⟩
theorem de_or (ha : DE g mp X a fa) (hb : DE g mp X (.BoolOp .Or (b :: rest) pos) fb) : DE g mp X (.BoolOp .Or (a :: b :: rest) pos) (dOr fa fb) :=
  ⟨fun P ps W hp tk => pe_imp (pe_or (ha.run P ps W hp tk) (hb.run P ps W hp tk)) fun σ H Q h => by
    obtain ⟨e, s, h⟩ := tD_eq.mp h
    have h1 := tD_test (tB_of (Q := fun k H1 => if k = true then Q (.bl true) H1 else tD g P ps W fb σ H1 Q) s (h.bnd.mono fun k e1 H1 go1 z => by
      cases k with
      | false => rw [if_neg Bool.false_ne_true] at z ⊢; exact tD_of go1.st z
      | true => rw [if_pos rfl] at z ⊢; exact z _ (Go.refl go1.st) _ rfl))
    exact h1⟩
theorem de_not (ha : DE g mp X a fa) : DE g mp X (.UnaryOp .Not a pos) (dNot fa) :=
  ⟨fun P ps W hp tk => pe_imp (pe_not (ha.run P ps W hp tk)) fun σ H Q h => by
    obtain ⟨e, s, h⟩ := tD_eq.mp h
    exact tD_test (tB_of (Q := fun k H1 => Q (.bl (!k)) H1) s (h.bnd.mono fun k e1 H1 go1 z => z _ (Go.refl go1.st) _ rfl))⟩
theorem dbw_and1 (ha : DB g mp X a ta) : DBW g mp X (.BoolOp .And [a] pos) ta := ⟨fun P ps W hp tk => pw_and1 (ha.run P ps W hp tk)⟩
theorem dbw_or1 (ha : DB g mp X a ta) : DBW g mp X (.BoolOp .Or [a] pos) ta := ⟨fun P ps W hp tk => pw_or1 (ha.run P ps W hp tk)⟩
theorem dbw_and (ha : DB g mp X a ta) (hb : DBW g mp X (.BoolOp .And (b :: rest) pos) tb) : DBW g mp X (.BoolOp .And (a :: b :: rest) pos) (bAnd ta tb) :=
  ⟨fun P ps W hp tk => pw_imp (pw_and (ha.run P ps W hp tk) (hb.run P ps W hp tk)) fun σ H Q h => by
    obtain ⟨e, s, h⟩ := tB_eq.mp h
    exact tB_of s (h.bnd.mono fun k e1 H1 go1 z => by
      cases k with
      | true => rw [if_pos rfl] at z ⊢; exact tB_of go1.st z
      | false => rw [if_neg Bool.false_ne_true] at z ⊢; exact z _ (Go.refl go1.st))⟩
theorem dbw_or (ha : DB g mp X a ta) (hb : DBW g mp X (.BoolOp .Or (b :: rest) pos) tb) : DBW g mp X (.BoolOp .Or (a :: b :: rest) pos) (bOr ta tb) :=
  ⟨fun P ps W hp tk => pw_imp (pw_or (ha.run P ps W hp tk) (hb.run P ps W hp tk)) fun σ H Q h => by
    obtain ⟨e, s, h⟩ := tB_eq.mp h
    exact tB_of s (h.bnd.mono fun k e1 H1 go1 z => by
      cases k with
      | false => rw [if_neg Bool.false_ne_true] at z ⊢; exact tB_of go1.st z
      | true => rw [if_pos rfl] at z ⊢; exact z _ (Go.refl go1.st))⟩
theorem db_w (h : DBW g mp X a ta) : DB g mp X a ta := ⟨fun P ps W hp tk => (h.run P ps W hp tk).pt⟩
theorem db_not (ha : DB g mp X a ta) : DB g mp X (.UnaryOp .Not a pos) (bNot ta) :=
  ⟨fun P ps W hp tk => pt_imp (pt_not (ha.run P ps W hp tk)) fun σ H Q h => by
    obtain ⟨e, s, h⟩ := tB_eq.mp h
    exact tB_of s (h.bnd.mono fun k e1 H1 go1 z => z _ (Go.refl go1.st))⟩
theorem de_ifExp (ht : DB g mp X c ta) (ha : DE g mp X a fa) (hb : DE g mp X b fb) : DE g mp X (.IfExp c a b pos) (dIf ta fa fb) :=
  ⟨fun P ps W hp tk => pe_imp (pe_ifExp (ht.run P ps W hp tk) (ha.run P ps W hp tk) (hb.run P ps W hp tk)) fun σ H Q h => by
    obtain ⟨e, s, h⟩ := tD_eq.mp h
    exact tB_of s (h.bnd.mono fun k e1 H1 go1 z => by
      cases k with
      | true => rw [if_pos rfl] at z ⊢; exact tD_of go1.st z
      | false => rw [if_neg Bool.false_ne_true] at z ⊢; exact tD_of go1.st z)⟩
/-! ### truth -/
def truthD : D → Option Bool
  | .non => some false
  | .bl b => some b
  | .int i => some (i != 0)
  | .str y => if y.length ≤ 16777216 then some ((y.length : Int) != 0) else none
  | .tup xs => some (!xs.isEmpty)
  | .lst xs => some (!xs.isEmpty)
  | .dct ks xs => some (!ks.isEmpty)
  | _ => none
def dTruth (f : Env → R D) : Env → R Bool := fun e => bnd (f e) fun d e1 => opt (truthD d) e1
theorem RepL.isEmpty {H : Hp} {A : Addr → Prop} {ds : List D} {vs : List V} (r : RepL g H A ds vs) : vs.isEmpty = ds.isEmpty := by
  cases ds with
  | nil => rw [show vs = [] from r]; rfl
  | cons d ds => obtain ⟨v, q, e, _⟩ := r; rw [e]; rfl
theorem truth_ok {H : Hp} {A : Addr → Prop} {d : D} {v : V} {k : Bool} (hK : X.K = g.K) (r : Rep g H A d v) (h : truthD d = some k) : TruV X.K v H k := by
  cases d with
  | non => cases h; rw [show v = .non from r]; rfl
  | bl b => have e : b = k := Option.some.inj h; subst e; rw [show v = .bl b from r]; rfl
  | int i => cases h; rw [show v = .int i from r]; rfl
  | str y =>
    rw [show v = .str y from r]
    have h : (if y.length ≤ 16777216 then some ((y.length : Int) != 0) else none) = some k := h
    split at h
    · rename_i q; exact ⟨by rw [sizeLine_eq]; exact q, (Option.some.inj h).symm⟩
    · cases h
  | tup ds =>
    cases h
    obtain ⟨a, vs, e, q, r⟩ := r
    rw [e]
    exact .inr (.inl ⟨vs, by rw [hK]; exact q.sq, by rw [r.isEmpty]⟩)
  | lst ds =>
    cases h
    obtain ⟨a, vs, e, q, r⟩ := r
    rw [e]
    exact .inl ⟨vs, by rw [hK]; exact q.sq, by rw [r.isEmpty]⟩
  | dct ks ds =>
    cases h
    obtain ⟨a, vs, e, ⟨_, q⟩, l, r⟩ := r
    rw [e]
    refine .inr (.inr ⟨_, q, ?_⟩)
    cases ks with
    | nil => rfl
    | cons k ks => cases vs with
      | nil => cases l
      | cons v vs => rfl
  | fn n => cases h
  | cl n => cases h
  | ty n => cases h
  | th r x => cases h
  | xc n ns ds => cases h
theorem db_truth (hK : X.K = g.K) (he : ∀ whole, isTrue a X.env whole = (do let v ← whole; standAt a.pos; holding [v] (truthy v))) (ha : DE g mp X a fa) : DB g mp X a (dTruth fa) :=
  ⟨fun P ps W hp tk => pt_imp (pt_truth (ha.run P ps W hp tk) he) fun σ H Q h => by
    obtain ⟨e, s, h⟩ := tB_eq.mp h
    refine tD_of s (h.bnd.mono fun d e1 H1 go1 k v rv => ?_)
    obtain ⟨b, q, k⟩ := PR.opt k
    exact ⟨b, truth_ok hK rv q, k _ (Go.refl go1.st)⟩⟩

/-! ### arguments, displays -/
def dNil : Env → R (List D) := fun e => .ok [] e
def dCons (fa : Env → R D) (fs : Env → R (List D)) : Env → R (List D) := fun e => bnd (fa e) fun d e1 => bnd (fs e1) fun ds e2 => .ok (d :: ds) e2
def dTup (fs : Env → R (List D)) : Env → R D := fun e => bnd (fs e) fun ds e1 => if ds.length ≤ 1000 then .ok (.tup ds) e1 else .bad
def mLst (fs : Env → R (List D)) : Env → R (List D) := fun e => bnd (fs e) fun ds e1 => if ds.length ≤ 1000 then .ok ds e1 else .bad
variable {es : List Expr} {fs : Env → R (List D)}
theorem da_nil : DA g mp X [] dNil := ⟨fun P ps W hp tk => pa_imp pa_nil fun σ H Q ⟨e, s, h⟩ => h _ (Go.refl s) [] rfl⟩
theorem da_cons (ha : DE g mp X a fa) (hr : DA g mp X es fs) (hs : starEach (a :: es) X.env = (false, eval a X.env) :: starEach es X.env := by rfl) : DA g mp X (a :: es) (dCons fa fs) :=
  ⟨fun P ps W hp tk => pa_imp (pa_cons (ha.run P ps W hp tk) (hr.run P ps W hp tk) hs) fun σ H Q ⟨e, s, h⟩ => by
    refine tD_of s (h.bnd.mono fun d e1 H1 go1 k v rv => ?_)
    exact ⟨e1, go1.st, k.bnd.mono fun ds e2 H2 go2 k vs rvs => k _ (Go.refl go2.st) _ ⟨v, vs, rfl, Rep.kp go2.kp _ _ rv, rvs⟩⟩⟩
theorem kp_laid {A : Addr → Prop} {H : Hp} {a : Addr} {o : HO} (h : H a = none) : Kp A H A (upd H a o) := kp_new h
theorem rep_tup {A : Addr → Prop} {H : Hp} {p : Addr} {ds : List D} {vs : List V} (n : ¬ A p) (h : H p = none) (r : RepL g H A ds vs) : Rep g (upd H p (.tup vs)) A (.tup ds) (.ref p) :=
  ⟨p, vs, rfl, .inl ⟨n, .inl upd_same⟩, RepL.kp (kp_new h) _ _ r⟩
theorem rep_lst {A : Addr → Prop} {H : Hp} {p : Addr} {ds : List D} {vs : List V} (n : ¬ A p) (h : H p = none) (r : RepL g H A ds vs) : Rep g (upd H p (.lst vs)) A (.lst ds) (.ref p) :=
  ⟨p, vs, rfl, .inl ⟨n, .inl upd_same⟩, RepL.kp (kp_new h) _ _ r⟩
theorem le_line {n : Nat} (h : n ≤ 1000) : n ≤ sizeLine := by rw [sizeLine_eq]; omega
theorem de_tup {x1} (h : DA g mp X es fs) : DE g mp X (.Tuple es x1 pos) (dTup fs) :=
  ⟨fun P ps W hp tk => pe_imp (pe_tup (h.run P ps W hp tk)) fun σ H Q q => by
    obtain ⟨e, s, q⟩ := tD_eq.mp q
    refine ⟨e, s, q.bnd.mono fun ds e1 H1 go1 k vs rvs => ?_⟩
    by_cases hl : ds.length ≤ 1000
    · rw [if_pos hl] at k
      refine ⟨by rw [← rvs.length]; exact le_line hl, fun p hp => ?_⟩
      exact k _ (Go.new go1.st hp) _ (rep_tup (go1.st.fresh hp) hp rvs)
    · rw [if_neg hl] at k
      exact k.elim⟩
/-- a list's own rule from what comes -/
def dM (f : Env → R (List D)) : Env → R D := fun e => bnd (f e) fun ds e1 => .ok (.lst ds) e1
theorem de_m (h : DM g mp X a fs) : DE g mp X a (dM fs) :=
  ⟨fun P ps W hp tk => pe_imp (h.run P ps W hp tk) fun σ H Q q => by
    obtain ⟨e, s, q⟩ := tD_eq.mp q
    refine ⟨e, s, ?_⟩
    have q := q.bnd
    revert q
    cases fs e with
    | ok ds e1 => exact fun q a H' gm => q H' gm.go H' (Go.refl gm.go.st) _ gm.rep
    | exc x e1 => exact fun q => q
    | bad => exact fun q => q⟩
theorem tM_of {P ps W} {f f' : Env → R (List D)} {σ H Q} {e : Env} (s : StRel g P ps e σ H) {k : List D → Env → Hp → Prop} (h : PR g P ps W e σ H (f e) k) (m : ∀ ds e1 a H', f e = .ok ds e1 → GoM g P ps e σ H a ds e1 σ H' → Q (.ref a) H') : tM g P ps W f σ H Q := by
  refine ⟨e, s, ?_⟩
  revert h m
  cases f e with
  | ok ds e1 => exact fun h m a H' gm => m ds e1 a H' rfl gm
  | exc x e1 => exact fun h m => h
  | bad => exact fun h m => h
/-- what is wanted of a list of one's own -/
def PM (g : G) (P : Addr → Prop) (ps : List (Nat × Addr)) (W : WX) (e : Env) (σ : L2.St) (H : Hp) (r : R (List D)) (Q : VK) : Prop := match r with
  | .ok ds e' => ∀ a H', GoM g P ps e σ H a ds e' σ H' → Q (.ref a) H'
  | .exc x e' => ∀ cls d H', Go g P ps e σ H e' σ H' → XRep g H' (Av P e' σ) x cls d → W cls d σ H'
  | .bad => False
theorem tM_eq {P ps W} {f : Env → R (List D)} {σ H Q} : tM g P ps W f σ H Q ↔ ∃ e, StRel g P ps e σ H ∧ PM g P ps W e σ H (f e) Q := by
  constructor
  · rintro ⟨e, s, h⟩
    refine ⟨e, s, ?_⟩
    revert h
    cases f e with
    | ok a e' => exact fun h => h
    | exc x e' => exact fun h => h
    | bad => exact fun h => h
  · rintro ⟨e, s, h⟩
    refine ⟨e, s, ?_⟩
    revert h
    cases f e with
    | ok a e' => exact fun h => h
    | exc x e' => exact fun h => h
    | bad => exact fun h => h
theorem PM.shift {P ps W e σ H e1 H1} {r : R (List D)} {Q : VK} (h : PM g P ps W e σ H r Q) (q : Go g P ps e σ H e1 σ H1) : PM g P ps W e1 σ H1 r Q := by
  cases r with
  | ok ds e' => exact fun a H' z => h a H' (GoM.trans q z)
  | exc x e' => exact fun c d H' z => h c d H' (q.trans z)
  | bad => exact h
theorem PM.bnd {P ps W e σ H} {α : Type} {x : R α} {f : α → Env → R (List D)} {Q : VK} (h : PM g P ps W e σ H (bnd x f) Q) : PR g P ps W e σ H x (fun a e1 H1 => PM g P ps W e1 σ H1 (f a e1) Q) := by
  cases x with
  | ok a e' => exact fun H' z => PM.shift h z
  | exc x e' => exact h
  | bad => exact h
theorem dm_lst (h : DA g mp X es fs) : DM g mp X (.List es pos) (mLst fs) :=
  ⟨fun P ps W hp tk => pe_imp (pe_lst (h.run P ps W hp tk)) fun σ H Q q => by
    obtain ⟨e, s, q⟩ := tM_eq.mp q
    refine ⟨e, s, q.bnd.mono fun ds e1 H1 go1 k vs rvs => ?_⟩
    by_cases hl : ds.length ≤ 1000
    · rw [if_pos hl] at k
      exact ⟨by rw [← rvs.length]; exact le_line hl, fun p hp => k _ _ (GoM.new go1.st hp rvs)⟩
    · rw [if_neg hl] at k
      exact k.elim⟩
end
end DL
end

section
set_option Elab.async false
set_option linter.all false
set_option maxRecDepth 100000
set_option maxHeartbeats 4000000
namespace DL
open PySem PySem.Spec PyProof.Rows L2

/-! ### what the operators do to plain things -/
def addD : D → D → Option D
  | .int i, .int j => some (.int (i + j))
  | .str a, .str b => if a.length + b.length ≤ 16777216 then some (.str (a ++ b)) else none
  | .tup xs, .tup ys => if xs.length + ys.length ≤ 16777216 then some (.tup (xs ++ ys)) else none
  | _, _ => none
def subD : D → D → Option D
  | .int i, .int j => some (.int (i - j))
  | _, _ => none
def small64 (i : Int) : Bool := decide (-(2 ^ 64) < i) && decide (i < 2 ^ 64)
def mulD : D → D → Option D
  | .int i, .int j => if small64 i || small64 j || decide (i.natAbs.log2 + j.natAbs.log2 < 1000000) then some (.int (i * j)) else none
  | _, _ => none
def fdivD : D → D → Option D
  | .int i, .int j => if 0 < j ∧ j.natAbs.log2 < 9000 then some (.int (i / j)) else none
  | _, _ => none
def modD : D → D → Option D
  | .int i, .int j => if 0 < j then some (.int (i % j)) else none
  | _, _ => none
def powD : D → D → Option D
  | .int i, .int j => if 0 ≤ j ∧ j ≤ 64 ∧ i.natAbs.log2 < 1000000 then some (.int (i ^ j.toNat)) else none
  | _, _ => none
def negD : D → Option D
  | .int i => some (.int (-i))
  | _ => none
def cmpI (p : Int → Int → Bool) : D → D → Option D
  | .int i, .int j => some (.bl (p i j))
  | _, _ => none
abbrev ltD := cmpI fun i j => decide (i < j)
abbrev leD := cmpI fun i j => decide (i ≤ j)
abbrev gtD := cmpI fun i j => decide (j < i)
abbrev geD := cmpI fun i j => decide (j ≤ i)
def isNon : D → Bool
  | .non => true
  | _ => false
def isND : D → D → Option D
  | x, .non => some (.bl (isNon x))
  | _, _ => none
def notND : D → D → Option D
  | x, .non => some (.bl (!isNon x))
  | _, _ => none

section
variable {g : G} {X : Cx}
theorem o2_rI {C : Int → Int → Prop} {gg : Int → Int → Int} {F : D → D → Option D} (hF : ∀ a b d, F a b = some d → ∃ i j, a = .int i ∧ b = .int j ∧ C i j ∧ d = .int (gg i j)) : Op2 g (rI C fun i j => .int (gg i j)) F :=
  fun A H x y a b d Q _ ra rb h k => by
    obtain ⟨i, j, rfl, rfl, hc, rfl⟩ := hF _ _ _ h
    exact ⟨i, j, ra, rb, hc, k _ _ (Same.refl H) rfl⟩
theorem o2_rI0 {gg : Int → Int → Int} {F : D → D → Option D} (hF : ∀ a b d, F a b = some d → ∃ i j, a = .int i ∧ b = .int j ∧ d = .int (gg i j)) : Op2 g (rI0 fun i j => .int (gg i j)) F :=
  fun A H x y a b d Q _ ra rb h k => by
    obtain ⟨i, j, rfl, rfl, rfl⟩ := hF _ _ _ h
    exact ⟨i, j, ra, rb, k _ _ (Same.refl H) rfl⟩
theorem o2_rB0 {gg : Int → Int → Bool} : Op2 g (rI0 fun i j => .bl (gg i j)) (cmpI gg) :=
  fun A H x y a b d Q _ ra rb h k => by
    cases a <;> first | (cases h; done) | skip
    cases b <;> first | (cases h; done) | skip
    cases h
    exact ⟨_, _, ra, rb, k _ _ (Same.refl H) rfl⟩
/-- + -/
def rAdd (K : PySem.W.Frag) : R2 := fun x y H Q => (rI0 fun i j => V.int (i + j)) x y H Q ∨ (fun x y H (Q : VK) => ∃ i j, x = V.str i ∧ y = V.str j ∧ i.length + j.length ≤ sizeLine ∧ Q (.str (i ++ j)) H) x y H Q ∨ rCatA K x y H Q
theorem op_addX : OpR X (binaryOp .Add) (rAdd X.K) := op_add.or (op_add_str.or op_catA)
theorem o2_add (hK : X.K = g.K) : Op2 g (rAdd X.K) addD := fun A H x y a b d Q tr ra rb h k => by
  cases a <;> first | (cases h; done) | skip
  case int i =>
    cases b <;> first | (cases h; done) | skip
    cases h
    exact .inl ⟨_, _, ra, rb, k _ _ (Same.refl H) rfl⟩
  case str z =>
    cases b <;> first | (cases h; done) | skip
    rename_i z2
    have h : (if z.length + z2.length ≤ 16777216 then some (D.str (z ++ z2)) else none) = some d := h
    split at h
    · cases h
      rename_i q
      exact .inr (.inl ⟨_, _, ra, rb, by rw [sizeLine_eq]; exact q, k _ _ (Same.refl H) rfl⟩)
    · cases h
  case tup xs =>
    cases b <;> first | (cases h; done) | skip
    rename_i ys
    have h : (if xs.length + ys.length ≤ 16777216 then some (D.tup (xs ++ ys)) else none) = some d := h
    split at h
    · cases h
      rename_i q
      obtain ⟨p, vs, rfl, hq, r⟩ := ra
      obtain ⟨p2, vs2, rfl, hq2, r2⟩ := rb
      refine .inr (.inr ⟨p, p2, vs, vs2, rfl, rfl, by rw [hK]; exact hq.sq, by rw [hK]; exact hq2.sq, by rw [sizeLine_eq, ← r.length, ← r2.length]; exact q, fun e => ?_, fun _ e => ?_, fun _ _ l hl => ?_⟩)
      · have e1 : xs = [] := by
          have := r.length
          rw [e] at this
          exact List.length_eq_zero_iff.mp this
        subst e1
        exact k _ _ (Same.refl H) ⟨p2, vs2, rfl, hq2, r2⟩
      · have e1 : ys = [] := by
          have := r2.length
          rw [e] at this
          exact List.length_eq_zero_iff.mp this
        subst e1
        rw [List.append_nil] at k
        exact k _ _ (Same.refl H) ⟨p, vs, rfl, hq, r⟩
      · exact k _ _ (same_new hl) (rep_tup (tr.fresh hl) hl (r.append r2))
    · cases h
theorem o2_sub : Op2 g (rI0 fun i j => .int (i - j)) subD := o2_rI0 fun a b d h => by
  cases a <;> first | (cases h; done) | skip
  cases b <;> first | (cases h; done) | skip
  cases h
  exact ⟨_, _, rfl, rfl, rfl⟩
theorem op_mulX : OpR X (binaryOp .Mult) (rI IntMulOk fun i j => .int (i * j)) := opI fun _ _ _ _ _ _ _ hc q => mul_int q hc
theorem small_ok {i : Int} (h : small64 i = true) : Builtin.Int.intBits i ≤ 64 := by
  unfold small64 at h
  rw [Bool.and_eq_true, decide_eq_true_eq, decide_eq_true_eq] at h
  exact intBits_le_64 h.1 h.2
theorem o2_mul : Op2 g (rI IntMulOk fun i j => .int (i * j)) mulD := o2_rI fun a b d h => by
  cases a <;> first | (cases h; done) | skip
  rename_i i
  cases b <;> first | (cases h; done) | skip
  rename_i j
  have h : (if (small64 i || small64 j || decide (i.natAbs.log2 + j.natAbs.log2 < 1000000)) = true then some (D.int (i * j)) else none) = some d := h
  split at h
  · cases h
    rename_i q
    refine ⟨_, _, rfl, rfl, ?_, rfl⟩
    rw [Bool.or_eq_true, Bool.or_eq_true, decide_eq_true_eq] at q
    rcases q with (q | q) | q
    · exact .of_left (small_ok q)
    · exact .of_right (small_ok q)
    · exact CMulW.ok q
  · cases h
theorem o2_fdiv : Op2 g (rI CDivW fun i j => .int (i / j)) fdivD := o2_rI fun a b d h => by
  cases a <;> first | (cases h; done) | skip
  rename_i i
  cases b <;> first | (cases h; done) | skip
  rename_i j
  have h : (if 0 < j ∧ j.natAbs.log2 < 9000 then some (D.int (i / j)) else none) = some d := h
  split at h
  · cases h
    rename_i q
    exact ⟨_, _, rfl, rfl, q, rfl⟩
  · cases h
theorem o2_mod : Op2 g (rI (fun _ j => 0 < j) fun i j => .int (i % j)) modD := o2_rI fun a b d h => by
  cases a <;> first | (cases h; done) | skip
  rename_i i
  cases b <;> first | (cases h; done) | skip
  rename_i j
  have h : (if 0 < j then some (D.int (i % j)) else none) = some d := h
  split at h
  · cases h
    rename_i q
    exact ⟨_, _, rfl, rfl, q, rfl⟩
  · cases h
def CPowX (i j : Int) : Prop := 0 ≤ j ∧ j ≤ 64 ∧ i.natAbs.log2 < 1000000
theorem op_powX : OpR X (binaryOp .Pow) (rI CPowX fun i j => .int (i ^ j.toNat)) := opI fun i j _ _ _ _ _ hc q => by
  refine pow_int hc.1 ?_ q
  have h1 : (Builtin.Int.intBits i : Int) ≤ 1000000 := by
    unfold Builtin.Int.intBits
    have := hc.2.2
    split <;> omega
  have h2 := hc.1
  have h3 := hc.2.1
  have h4 : (Builtin.Int.intBits i : Int) * j ≤ 1000000 * 64 := Int.mul_le_mul h1 h3 h2 (by decide)
  have h5 : (1000000 * 64 : Int) ≤ 2 ^ 27 := by decide
  omega
theorem o2_pow : Op2 g (rI CPowX fun i j => .int (i ^ j.toNat)) powD := o2_rI fun a b d h => by
  cases a <;> first | (cases h; done) | skip
  rename_i i
  cases b <;> first | (cases h; done) | skip
  rename_i j
  have h : (if 0 ≤ j ∧ j ≤ 64 ∧ i.natAbs.log2 < 1000000 then some (D.int (i ^ j.toNat)) else none) = some d := h
  split at h
  · cases h
    rename_i q
    exact ⟨_, _, rfl, rfl, q, rfl⟩
  · cases h
theorem o1_neg : Op1 g (rU fun i => .int (-i)) negD := fun A H x a d Q _ ra h k => by
  cases a <;> first | (cases h; done) | skip
  cases h
  exact ⟨_, ra, k _ _ (Same.refl H) rfl⟩
theorem isNon_ok {H A} {d : D} {v : V} (r : Rep g H A d v) : decide (v = .non) = isNon d := by
  cases d with
  | non => rw [show v = .non from r]; rfl
  | bl b => rw [show v = .bl b from r]; rfl
  | int i => rw [show v = .int i from r]; rfl
  | str z => rw [show v = .str z from r]; rfl
  | tup ds => obtain ⟨a, vs, e, _⟩ := r; rw [e]; rfl
  | lst ds => obtain ⟨a, vs, e, _⟩ := r; rw [e]; rfl
  | dct ks ds => obtain ⟨a, vs, e, _⟩ := r; rw [e]; rfl
  | fn n => rw [show v = .ref _ from r]; rfl
  | cl n => rw [show v = .ref _ from r]; rfl
  | ty n => rw [show v = .ty n from r]; rfl
  | th r' x => obtain ⟨t, _, e, _⟩ := r; rw [e]; rfl
  | xc n ns ds => obtain ⟨t, _, e, _⟩ := r; rw [e]; rfl
theorem o2_isN : Op2 g (fun x y H Q => y = .non ∧ Q (.bl (decide (x = .non))) H) isND := fun A H x y a b d Q _ ra rb h k => by
  cases b <;> first | (cases a <;> cases h; done) | skip
  cases h
  exact ⟨rb, by rw [isNon_ok ra]; exact k _ _ (Same.refl H) rfl⟩
theorem o2_notN : Op2 g (fun x y H Q => y = .non ∧ Q (.bl (!decide (x = .non))) H) notND := fun A H x y a b d Q _ ra rb h k => by
  cases b <;> first | (cases a <;> cases h; done) | skip
  cases h
  exact ⟨rb, by rw [isNon_ok ra]; exact k _ _ (Same.refl H) rfl⟩
end

/-! ### == of plain things -/
mutual
def eqv : D → D → Bool
  | .non, .non => true
  | .bl a, .bl b => a == b
  | .bl a, .int j => (if a then 1 else 0) == j
  | .int i, .bl b => i == (if b then 1 else 0)
  | .int i, .int j => i == j
  | .str x, .str y => x == y
  | .lst xs, .lst ys => eqvL xs ys
  | .tup xs, .tup ys => eqvL xs ys
  | _, _ => false
def eqvL : List D → List D → Bool
  | [], [] => true
  | x :: xs, y :: ys => eqv x y && eqvL xs ys
  | _, _ => false
end
mutual
/-- how deep; 100 where it is no plain thing -/
def dep : D → Nat
  | .non | .bl _ | .int _ => 0
  | .str x => if x.cps.all (· < 0x110000) then 0 else 100
  | .tup xs | .lst xs => depL xs + 1
  | _ => 100
def depL : List D → Nat
  | [] => 0
  | x :: xs => max (dep x) (depL xs)
end
mutual
def toP : D → PyData
  | .bl b => .bool b
  | .int i => .int i
  | .str x => .str x
  | .tup xs => .tuple (toPL xs)
  | .lst xs => .list (toPL xs)
  | _ => .none
def toPL : List D → List PyData
  | [] => []
  | x :: xs => toP x :: toPL xs
end
def eqD (a b : D) : Option D := if dep a ≤ 60 ∧ dep b ≤ 60 then some (.bl (eqv a b)) else none
def neD (a b : D) : Option D := if dep a ≤ 60 ∧ dep b ≤ 60 then some (.bl (!eqv a b)) else none
mutual
theorem eqv_toP : ∀ a b : D, dep a ≤ 99 → dep b ≤ 99 → PyData.eqv (toP a) (toP b) = eqv a b
  | .non, b, _, hb => by
    cases b <;> first | rfl | (simp only [dep] at hb; omega) | (unfold toP PyData.eqv eqv; rfl) | simp [toP, PyData.eqv, eqv]
  | .bl _, b, _, hb => by
    cases b <;> first | rfl | (simp only [dep] at hb; omega) | simp [toP, PyData.eqv, eqv]
  | .int _, b, _, hb => by
    cases b <;> first | rfl | (simp only [dep] at hb; omega) | simp [toP, PyData.eqv, eqv]
  | .str _, b, _, hb => by
    cases b <;> first | rfl | (simp only [dep] at hb; omega) | simp [toP, PyData.eqv, eqv]
  | .tup xs, b, ha, hb => by
    cases b <;> first | (simp only [dep] at hb; omega) | (simp [toP, PyData.eqv, eqv]; done) | skip
    rename_i ys
    simp only [dep] at ha hb
    simp only [toP, PyData.eqv, eqv]
    exact eqvL_toP xs ys (by omega) (by omega)
  | .lst xs, b, ha, hb => by
    cases b <;> first | (simp only [dep] at hb; omega) | (simp [toP, PyData.eqv, eqv]; done) | skip
    rename_i ys
    simp only [dep] at ha hb
    simp only [toP, PyData.eqv, eqv]
    exact eqvL_toP xs ys (by omega) (by omega)
  | .dct _ _, _, ha, _ => by simp only [dep] at ha; omega
  | .fn _, _, ha, _ => by simp only [dep] at ha; omega
  | .cl _, _, ha, _ => by simp only [dep] at ha; omega
  | .ty _, _, ha, _ => by simp only [dep] at ha; omega
  | .th _ _, _, ha, _ => by simp only [dep] at ha; omega
  | .xc _ _ _, _, ha, _ => by simp only [dep] at ha; omega
theorem eqvL_toP : ∀ xs ys : List D, depL xs ≤ 99 → depL ys ≤ 99 → PyData.eqvAll (toPL xs) (toPL ys) = eqvL xs ys
  | [], [], _, _ => rfl
  | [], _ :: _, _, _ => rfl
  | _ :: _, [], _, _ => rfl
  | x :: xs, y :: ys, ha, hb => by
    simp only [depL] at ha hb
    simp only [toPL, PyData.eqvAll, eqvL]
    rw [eqv_toP x y (by omega) (by omega), eqvL_toP xs ys (by omega) (by omega)]
end
mutual
theorem shape_toP : ∀ a : D, dep a ≤ 99 → (toP a).canLay0 = true ∧ (toP a).depth = dep a
  | .non, _ => ⟨rfl, rfl⟩
  | .bl _, _ => ⟨rfl, rfl⟩
  | .int _, _ => ⟨rfl, rfl⟩
  | .str x, h => by
    simp only [dep] at h
    split at h
    · rename_i q
      refine ⟨q, ?_⟩
      simp only [toP, PyData.depth, dep]
      rw [if_pos q]
    · omega
  | .tup xs, h => by
    simp only [dep] at h
    obtain ⟨h1, h2⟩ := shapeL_toP xs (by omega)
    exact ⟨by simp only [toP, PyData.canLay0]; exact h1, by simp only [toP, PyData.depth, dep]; rw [h2]⟩
  | .lst xs, h => by
    simp only [dep] at h
    obtain ⟨h1, h2⟩ := shapeL_toP xs (by omega)
    exact ⟨by simp only [toP, PyData.canLay0]; exact h1, by simp only [toP, PyData.depth, dep]; rw [h2]⟩
  | .dct _ _, h => by simp only [dep] at h; omega
  | .fn _, h => by simp only [dep] at h; omega
  | .cl _, h => by simp only [dep] at h; omega
  | .ty _, h => by simp only [dep] at h; omega
  | .th _ _, h => by simp only [dep] at h; omega
  | .xc _ _ _, h => by simp only [dep] at h; omega
theorem shapeL_toP : ∀ xs : List D, depL xs ≤ 99 → PyData.canLayAll0 (toPL xs) = true ∧ PyData.depthAll (toPL xs) = depL xs
  | [], _ => ⟨rfl, rfl⟩
  | x :: xs, h => by
    simp only [depL] at h
    obtain ⟨a1, a2⟩ := shape_toP x (by omega)
    obtain ⟨b1, b2⟩ := shapeL_toP xs (by omega)
    exact ⟨by simp only [toPL, PyData.canLayAll0]; rw [a1, b1]; rfl, by simp only [toPL, PyData.depthAll, depL]; rw [a2, b2]⟩
end
theorem shaped_toP {a : D} (h : dep a ≤ 60) : SeqAt.shaped (toP a) = true := by
  obtain ⟨h1, h2⟩ := shape_toP a (by omega)
  unfold SeqAt.shaped
  rw [h1, Bool.true_and]
  exact decide_eq_true (by rw [h2]; omega)
section
variable {g : G} {X : Cx} {H : Hp} {A : Addr → Prop}
mutual
theorem dp_of (hK : X.K = g.K) : ∀ (d : D) (v : V), dep d ≤ 99 → Rep g H A d v → Dp X.K H v (toP d)
  | .non, v, _, r => by rw [show v = .non from r]; exact .non
  | .bl b, v, _, r => by rw [show v = .bl b from r]; exact .bl b
  | .int i, v, _, r => by rw [show v = .int i from r]; exact .int i
  | .str x, v, _, r => by rw [show v = .str x from r]; exact .str x
  | .tup ds, v, h, ⟨a, vs, e, q, r⟩ => by
    rw [e]
    simp only [dep] at h
    exact .tup (by rw [hK]; exact q.sq) (dpL_of hK ds vs (by omega) r)
  | .lst ds, v, h, ⟨a, vs, e, q, r⟩ => by
    rw [e]
    simp only [dep] at h
    exact .lst (by rw [hK]; exact q.sq) (dpL_of hK ds vs (by omega) r)
  | .dct _ _, _, h, _ => by simp only [dep] at h; omega
  | .fn _, _, h, _ => by simp only [dep] at h; omega
  | .cl _, _, h, _ => by simp only [dep] at h; omega
  | .ty _, _, h, _ => by simp only [dep] at h; omega
  | .th _ _, _, h, _ => by simp only [dep] at h; omega
  | .xc _ _ _, _, h, _ => by simp only [dep] at h; omega
theorem dpL_of (hK : X.K = g.K) : ∀ (ds : List D) (vs : List V), depL ds ≤ 99 → RepL g H A ds vs → DpAll X.K H vs (toPL ds)
  | [], vs, _, r => by rw [show vs = [] from r]; exact .nil
  | d :: ds, vs, h, ⟨v, r, e, h1, h2⟩ => by
    rw [e]
    simp only [depL] at h
    exact .cons (dp_of hK d v (by omega) h1) (dpL_of hK ds r (by omega) h2)
end
theorem o2_eq (hK : X.K = g.K) : Op2 g (rEqD X.K) eqD := fun A H x y a b d Q _ ra rb h k => by
  unfold eqD at h
  split at h
  · cases h
    rename_i q
    refine ⟨toP a, toP b, dp_of hK a x (by omega) ra, dp_of hK b y (by omega) rb, shaped_toP q.1, shaped_toP q.2, ?_⟩
    rw [eqv_toP a b (by omega) (by omega)]
    exact k _ _ (Same.refl H) rfl
  · cases h
theorem o2_ne (hK : X.K = g.K) : Op2 g (rNeD X.K) neD := fun A H x y a b d Q _ ra rb h k => by
  unfold neD at h
  split at h
  · cases h
    rename_i q
    refine ⟨toP a, toP b, dp_of hK a x (by omega) ra, dp_of hK b y (by omega) rb, shaped_toP q.1, shaped_toP q.2, ?_⟩
    rw [eqv_toP a b (by omega) (by omega)]
    exact k _ _ (Same.refl H) rfl
  · cases h
end
end DL
end

section
set_option Elab.async false
set_option linter.all false
set_option maxRecDepth 100000
set_option maxHeartbeats 4000000
namespace DL
open PySem PySem.Spec PyProof.Rows L2

/-! ### a[b] -/
theorem RepL.atI {g : G} {H : Hp} {A : Addr → Prop} {ds : List D} {vs : List V} {i : Int} {d : D} (r : RepL g H A ds vs) (h : atI ds i = some d) : ∃ v, atI vs i = some v ∧ Rep g H A d v := by
  unfold L2.atI at h ⊢
  rw [← r.length]
  cases q : ixN ds.length i with
  | none => rw [q] at h; cases h
  | some j =>
    rw [q] at h
    exact RepL.at r h
def keyD : D → Option Key
  | .int i => some (.inl i)
  | .str x => some (.inr x)
  | _ => none
def lookK : List Key → List D → Key → Option D
  | k :: ks, d :: ds, q => if k = q then some d else lookK ks ds q
  | _, _, _ => none
theorem lookK_ok {g : G} {H : Hp} {A : Addr → Prop} : ∀ {ks : List Key} {ds : List D} {vs : List V} {q : Key}, ks.length = vs.length → RepL g H A ds vs →
    match lookK ks ds q with
    | some d => ∃ v, valV (ks.zip vs) q = some v ∧ Rep g H A d v
    | none => valV (ks.zip vs) q = none
  | [], _, _, _, _, _ => by simp [lookK, valV]
  | k :: ks, ds, [], q, h, _ => by cases h
  | k :: ks, [], v :: vs, q, _, r => by cases (show v :: vs = [] from r)
  | k :: ks, d :: ds, v :: vs, q, h, ⟨v', r', e, h1, h2⟩ => by
    cases e
    unfold lookK
    by_cases z : k = q
    · rw [if_pos z]
      exact ⟨v, valV_pos (p := (k, v)) z, h1⟩
    · rw [if_neg z]
      have := lookK_ok (ks := ks) (ds := ds) (vs := vs) (q := q) (by simpa using h) h2
      rw [show valV ((k :: ks).zip (v :: vs)) q = valV (ks.zip vs) q from valV_neg (p := (k, v)) z]
      exact this
def ixD : D → D → Option D
  | .lst xs, .int i => atI xs i
  | .tup xs, .int i => atI xs i
  | .str z, .int i => if z.length ≤ 16777216 then (atI z.cps.toList i).map fun c => .str ⟨#[c]⟩ else none
  | .dct ks ds, k => (keyD k).bind (lookK ks ds)
  | _, _ => none
def rIxDct : R2 := fun x y H Q => ∃ a v, x = .ref a ∧ DGet H a y (some v) ∧ Q v H
def rInDct (neg : Bool) : R2 := fun x y H Q => ∃ a o, y = .ref a ∧ DGet H a x o ∧ Q (.bl (if neg then !o.isSome else o.isSome)) H
section
variable {g : G} {X : Cx}
theorem ix_dct (hu : X.A.units + 1 < cLine) : IxR X rIxDct := by
  intro value slice pins s σ H x y v u Q I rx ry h hs
  obtain ⟨a, w', rfl, dg, q⟩ := h
  cases rx
  exact tail_any (dict_typeIs I dg) PySem.F.slot_dict_getitem.lookup (d_getItem hu I dg ry fun w2 s' I' r => ⟨_, H, I', r, q⟩) hs
def rIxA (K : PySem.W.Frag) : R2 := fun x y H Q => rIx K x y H Q ∨ rIxDct x y H Q
theorem ix_all (hu : X.A.units + 1 < cLine) : IxR X (rIxA X.K) := ix_seq.or (ix_dct hu)
theorem keyD_some {d : D} {k : Key} {v : V} {H A} (h : keyD d = some k) (r : Rep g H A d v) : v = kV k := by
  cases d <;> first | (cases h; done) | skip
  · cases h; exact r
  · cases h; exact r
theorem o2_ix (hK : X.K = g.K) : Op2 g (rIxA X.K) ixD := fun A H x y a b d Q tr ra rb h k => by
  cases a <;> first | (cases b <;> cases h; done) | skip
  case str z =>
    cases b <;> first | (cases h; done) | skip
    rename_i i
    have h : (if z.length ≤ 16777216 then (atI z.cps.toList i).map fun c => D.str ⟨#[c]⟩ else none) = some d := h
    split at h
    · rename_i hz
      cases q : atI z.cps.toList i with
      | none => rw [q] at h; cases h
      | some c =>
        rw [q] at h
        cases h
        exact .inl (.inr (.inr ⟨z, i, c, ra, rb, by rw [sizeLine_eq]; exact hz, q, k _ _ (Same.refl H) rfl⟩))
    · cases h
  case tup xs =>
    cases b <;> first | (cases h; done) | skip
    obtain ⟨p, vs, rfl, hq, r⟩ := ra
    obtain ⟨v, hv, rv⟩ := r.atI h
    exact .inl (.inr (.inl ⟨p, vs, _, v, rfl, rb, by rw [hK]; exact hq.sq, hv, k _ _ (Same.refl H) rv⟩))
  case lst xs =>
    cases b <;> first | (cases h; done) | skip
    obtain ⟨p, vs, rfl, hq, r⟩ := ra
    obtain ⟨v, hv, rv⟩ := r.atI h
    exact .inl (.inl ⟨p, vs, _, v, rfl, rb, by rw [hK]; exact hq.sq, hv, k _ _ (Same.refl H) rv⟩)
  case dct ks ds =>
    have h : (keyD b).bind (lookK ks ds) = some d := h
    cases q : keyD b with
    | none => rw [q] at h; cases h
    | some kk =>
      rw [q] at h
      have h : lookK ks ds kk = some d := h
      obtain ⟨p, vs, rfl, ⟨_, hq⟩, hl, r⟩ := ra
      have := lookK_ok (q := kk) hl r
      rw [h] at this
      obtain ⟨v, hv, rv⟩ := this
      rw [keyD_some q rb]
      exact .inr ⟨p, v, rfl, .inl ⟨_, kk, .inl hq, rfl, hv.symm⟩, k _ _ (Same.refl H) rv⟩
/-! ### in, not in -/
def flatD : D → Bool
  | .non | .bl _ | .int _ | .str _ => true
  | _ => false
def inD : D → D → Option Bool
  | x, .tup ys => if flatD x && ys.all flatD then some (ys.any fun y => eqv y x) else none
  | x, .lst ys => if flatD x && ys.all flatD then some (ys.any fun y => eqv y x) else none
  | x, .dct ks ds => (keyD x).map fun k => (lookK ks ds k).isSome
  | _, _ => none
def yesD (x y : D) : Option D := (inD x y).map D.bl
def noD (x y : D) : Option D := (inD x y).map fun b => D.bl (!b)
theorem flat_ok {d : D} {v : V} {H A} (r : Rep g H A d v) (h : flatD d = true) : flatV v = true := by
  cases d <;> first | (cases h; done) | skip
  · rw [show v = .non from r]; rfl
  · rw [show v = .bl _ from r]; rfl
  · rw [show v = .int _ from r]; rfl
  · rw [show v = .str _ from r]; rfl
theorem eqV_ok {a b : D} {v u : V} {H A} (r : Rep g H A a v) (r' : Rep g H A b u) (h : flatD a = true) (h' : flatD b = true) : eqV v u = eqv a b := by
  cases a <;> first | (cases h; done) | skip
  all_goals cases b <;> first | (cases h'; done) | skip
  all_goals (rw [show v = _ from r, show u = _ from r']; first | rfl | (unfold eqv eqV; rfl) | simp [eqv, eqV])
theorem any_ok {b : D} {u : V} {H A} (r' : Rep g H A b u) (h' : flatD b = true) : ∀ {ds : List D} {vs : List V}, RepL g H A ds vs → ds.all flatD = true → vs.all flatV = true ∧ inV u vs = ds.any fun y => eqv y b
  | [], vs, r, _ => by rw [show vs = [] from r]; exact ⟨rfl, rfl⟩
  | d :: ds, vs, ⟨v, q, e, h1, h2⟩, f => by
    rw [e]
    rw [List.all_cons, Bool.and_eq_true] at f
    obtain ⟨a1, a2⟩ := any_ok r' h' h2 f.2
    refine ⟨by rw [List.all_cons, flat_ok h1 f.1, a1]; rfl, ?_⟩
    unfold inV at a2 ⊢
    rw [List.any_cons, List.any_cons, a2, eqV_ok h1 r' f.1 h']
theorem op_inDct (hu : X.A.units + 1 < cLine) : OpR X (compareOp .In) (rInDct false) := by
  intro pins s σ H x y v u Q I rx ry h
  obtain ⟨a, o, rfl, dg, q⟩ := h
  cases ry
  exact d_in hu I dg rx fun s' I' => ⟨.bl _, H, I', rfl, q⟩
theorem op_notInDct (hu : X.A.units + 1 < cLine) : OpR X (compareOp .NotIn) (rInDct true) := by
  intro pins s σ H x y v u Q I rx ry h
  obtain ⟨a, o, rfl, dg, q⟩ := h
  cases ry
  exact d_notIn hu I dg rx fun s' I' => ⟨.bl _, H, I', rfl, q⟩
def rInA (K : PySem.W.Frag) (neg : Bool) : R2 := fun x y H Q => rIn K neg x y H Q ∨ rInDct neg x y H Q
theorem op_inA (hu : X.A.units + 1 < cLine) : OpR X (compareOp .In) (rInA X.K false) := op_in_seq.or (op_inDct hu)
theorem op_notInA (hu : X.A.units + 1 < cLine) : OpR X (compareOp .NotIn) (rInA X.K true) := op_notIn_seq.or (op_notInDct hu)
theorem o2_inX (hK : X.K = g.K) (neg : Bool) : Op2 g (rInA X.K neg) fun x y => (inD x y).map fun b => D.bl (if neg then !b else b) := fun A H x y a b d Q tr ra rb h k => by
  cases q : inD a b with
  | none => simp [q] at h
  | some r =>
    simp only [q, Option.map_some, Option.some.injEq] at h
    subst h
    cases b <;> first | (cases q; done) | skip
    case tup ys =>
      have q : (if (flatD a && ys.all flatD) = true then some (ys.any fun y => eqv y a) else none) = some r := q
      split at q
      · rename_i hf
        rw [Bool.and_eq_true] at hf
        cases q
        obtain ⟨p, vs, rfl, hq, rr⟩ := rb
        obtain ⟨a1, a2⟩ := any_ok ra hf.1 rr hf.2
        exact .inl ⟨p, vs, rfl, .inr (by rw [hK]; exact hq.sq), flat_ok ra hf.1, a1, by rw [a2]; exact k _ _ (Same.refl H) rfl⟩
      · cases q
    case lst ys =>
      have q : (if (flatD a && ys.all flatD) = true then some (ys.any fun y => eqv y a) else none) = some r := q
      split at q
      · rename_i hf
        rw [Bool.and_eq_true] at hf
        cases q
        obtain ⟨p, vs, rfl, hq, rr⟩ := rb
        obtain ⟨a1, a2⟩ := any_ok ra hf.1 rr hf.2
        exact .inl ⟨p, vs, rfl, .inl (by rw [hK]; exact hq.sq), flat_ok ra hf.1, a1, by rw [a2]; exact k _ _ (Same.refl H) rfl⟩
      · cases q
    case dct ks ds =>
      have q : ((keyD a).map fun k => (lookK ks ds k).isSome) = some r := q
      cases z : keyD a with
      | none => rw [z] at q; cases q
      | some kk =>
        rw [z] at q
        cases q
        obtain ⟨p, vs, rfl, ⟨_, hq⟩, hl, rr⟩ := rb
        have := lookK_ok (q := kk) hl rr
        have e : (valV (ks.zip vs) kk).isSome = (lookK ks ds kk).isSome := by
          cases y : lookK ks ds kk with
          | none => rw [y] at this; rw [this]; rfl
          | some dd => rw [y] at this; obtain ⟨v, hv, _⟩ := this; rw [hv]; rfl
        rw [keyD_some z ra]
        exact .inr ⟨p, _, rfl, .inl ⟨_, kk, .inl hq, rfl, rfl⟩, by rw [e]; exact k _ _ (Same.refl H) rfl⟩
theorem o2_in (hK : X.K = g.K) : Op2 g (rInA X.K false) yesD := o2_inX hK false
theorem o2_notIn (hK : X.K = g.K) : Op2 g (rInA X.K true) noD := o2_inX hK true
end

/-! ### isinstance, of built-in types -/
def tyD : D → Option String
  | .non => some "NoneType"
  | .bl _ => some "bool"
  | .int _ => some "int"
  | .str _ => some "str"
  | .tup _ => some "tuple"
  | .lst _ => some "list"
  | .dct _ _ => some "dict"
  | _ => none
/-- t is T or right under it, of the kinds that are asked -/
def isTy (t T : String) : Bool := t == T || (t == "bool" && T == "int")
def okTy (T : String) : Prop := T = "int" ∨ T = "bool" ∨ T = "str" ∨ T = "tuple" ∨ T = "list" ∨ T = "dict"
instance (T : String) : Decidable (okTy T) := by unfold okTy; infer_instance
def isiD1 (d : D) (T : String) : Option D := if okTy T then (tyD d).map fun t => .bl (isTy t T) else none
def isiD : List D → Option D
  | [d, .ty T] => isiD1 d T
  | _ => none
theorem kit_of_ty {t T : String} (ht : t = "NoneType" ∨ t = "bool" ∨ t = "int" ∨ t = "str" ∨ t = "tuple" ∨ t = "list" ∨ t = "dict") (hT : T = "int" ∨ T = "bool" ∨ T = "str" ∨ T = "tuple" ∨ T = "list" ∨ T = "dict") :
    kitB t T = some (isTy t T) := by
  rcases ht with rfl | rfl | rfl | rfl | rfl | rfl | rfl <;> rcases hT with rfl | rfl | rfl | rfl | rfl | rfl <;> decide +kernel
section
variable {g : G} {X : Cx}
theorem tyX_ok (hK : X.K = g.K) {d : D} {v : V} {H A} {t : String} (r : Rep g H A d v) (h : tyD d = some t) : TyX X.K H v (.type t) ∧ (t = "NoneType" ∨ t = "bool" ∨ t = "int" ∨ t = "str" ∨ t = "tuple" ∨ t = "list" ∨ t = "dict") := by
  cases d <;> first | (cases h; done) | skip
  case non => cases h; rw [show v = .non from r]; exact ⟨.base .non, .inl rfl⟩
  case bl b => cases h; rw [show v = .bl b from r]; exact ⟨.base (.bl b), .inr (.inl rfl)⟩
  case int i => cases h; rw [show v = .int i from r]; exact ⟨.base (.int i), .inr (.inr (.inl rfl))⟩
  case str z => cases h; rw [show v = .str z from r]; exact ⟨.base (.str z), .inr (.inr (.inr (.inl rfl)))⟩
  case tup ds =>
    cases h
    obtain ⟨a, vs, e, q, _⟩ := r
    rw [e]
    refine ⟨?_, .inr (.inr (.inr (.inr (.inl rfl))))⟩
    rcases q with ⟨_, q | ⟨o, q⟩⟩ | ⟨o, its, n, q, hc, _⟩
    · exact .base (.tup q)
    · exact .fTuple q
    · exact .kTuple (by rw [hK]; exact q) hc
  case lst ds =>
    cases h
    obtain ⟨a, vs, e, q, _⟩ := r
    rw [e]
    refine ⟨?_, .inr (.inr (.inr (.inr (.inr (.inl rfl)))))⟩
    rcases q with ⟨_, q | ⟨o, q⟩⟩ | ⟨o, its, n, q, hc, _⟩
    · exact .base (.lst q)
    · exact .base (.frz q)
    · exact .kList (by rw [hK]; exact q) hc
  case dct ks ds =>
    cases h
    obtain ⟨a, vs, e, ⟨_, q⟩, _⟩ := r
    rw [e]
    exact ⟨.base (.dK q), .inr (.inr (.inr (.inr (.inr (.inr rfl)))))⟩
theorem isiD_some : ∀ {as : List D} {d : D}, isiD as = some d → ∃ a T, as = [a, .ty T] ∧ okTy T ∧ ∃ t, tyD a = some t ∧ d = .bl (isTy t T)
  | [], _, h => by cases h
  | [_], _, h => by cases h
  | _ :: _ :: _ :: _, _, h => by simp [isiD] at h
  | [a, b], d, h => by
    cases b <;> first | (cases h; done) | skip
    rename_i T
    refine ⟨a, T, rfl, ?_⟩
    rw [isiD, isiD1] at h
    split at h
    · rename_i hT
      refine ⟨hT, ?_⟩
      cases z : tyD a with
      | none => rw [z] at h; cases h
      | some t => rw [z] at h; cases h; exact ⟨t, rfl, rfl⟩
    · cases h
theorem oc_isi (hK : X.K = g.K) : OpC g (rIsi X.K) isiD := fun A H xs as d Q tr r h k => by
  obtain ⟨a, T, rfl, hT, t, z, rfl⟩ := isiD_some h
  obtain ⟨v, r1, rfl, ra, u, r2, rfl, rb, rfl⟩ := r
  obtain ⟨t1, t2⟩ := tyX_ok hK ra z
  have rb : u = .ty T := rb
  subst rb
  exact ⟨v, .ty T, .type t, .type T, isTy t T, rfl, .ty T, t1, kit_ty (kit_of_ty t2 hT), k (.bl (isTy t T)) H (Same.refl H) rfl⟩
end

/-! ### built-in functions -/
def on1 (F : D → Option D) : List D → Option D
  | [a] => F a
  | _ => none
def on2 (F : D → D → Option D) : List D → Option D
  | [a, b] => F a b
  | _ => none
theorem on1_some {F : D → Option D} : ∀ {as : List D} {d : D}, on1 F as = some d → ∃ a, as = [a] ∧ F a = some d
  | [], _, h => by cases h
  | [a], _, h => ⟨a, rfl, h⟩
  | _ :: _ :: _, _, h => by simp [on1] at h
theorem on2_some {F : D → D → Option D} : ∀ {as : List D} {d : D}, on2 F as = some d → ∃ a b, as = [a, b] ∧ F a b = some d
  | [], _, h => by cases h
  | [a], _, h => by cases h
  | [a, b], _, h => ⟨a, b, rfl, h⟩
  | _ :: _ :: _ :: _, _, h => by simp [on2] at h
def absD : D → Option D
  | .int i => some (.int (if i < 0 then -i else i))
  | _ => none
def intD : D → Option D
  | .int i => some (.int i)
  | .bl k => some (.int (if k then 1 else 0))
  | _ => none
def max2D : D → D → Option D
  | .int i, .int j => some (.int (if j > i then j else i))
  | _, _ => none
def min2D : D → D → Option D
  | .int i, .int j => some (.int (if j < i then j else i))
  | _, _ => none
def lenD : D → Option D
  | .tup xs => some (.int xs.length)
  | .lst xs => some (.int xs.length)
  | .str z => if z.length ≤ 16777216 then some (.int z.length) else none
  | _ => none
def tupD : D → Option D
  | .tup xs => some (.tup xs)
  | .lst xs => some (.tup xs)
  | _ => none
def boolsOf : List D → Option (List Bool)
  | [] => some []
  | .bl b :: ds => (boolsOf ds).map (b :: ·)
  | _ => none
def allD : D → Option D
  | .lst xs => (boolsOf xs).map fun bs => .bl (bs.all id)
  | _ => none
def anyD : D → Option D
  | .lst xs => (boolsOf xs).map fun bs => .bl (bs.any id)
  | _ => none
def intsOf : List D → Option (List Int)
  | [] => some []
  | .int b :: ds => (intsOf ds).map (b :: ·)
  | _ => none
def sumD : D → Option D
  | .lst xs => (intsOf xs).map fun bs => .int bs.sum
  | _ => none
section
variable {g : G} {X : Cx} {H : Hp} {A : Addr → Prop}
theorem boolsOf_ok : ∀ {ds : List D} {vs : List V} {bs : List Bool}, RepL g H A ds vs → boolsOf ds = some bs → vs = bs.map V.bl
  | [], vs, bs, r, h => by cases h; exact r
  | d :: ds, vs, bs, ⟨v, q, e, h1, h2⟩, h => by
    cases d <;> first | (cases h; done) | skip
    rename_i b
    rw [boolsOf] at h
    cases z : boolsOf ds with
    | none => rw [z] at h; cases h
    | some cs =>
      rw [z] at h
      cases h
      rw [e, show v = .bl b from h1, boolsOf_ok h2 z]
      rfl
theorem intsOf_ok : ∀ {ds : List D} {vs : List V} {bs : List Int}, RepL g H A ds vs → intsOf ds = some bs → vs = bs.map V.int
  | [], vs, bs, r, h => by cases h; exact r
  | d :: ds, vs, bs, ⟨v, q, e, h1, h2⟩, h => by
    cases d <;> first | (cases h; done) | skip
    rename_i b
    rw [intsOf] at h
    cases z : intsOf ds with
    | none => rw [z] at h; cases h
    | some cs =>
      rw [z] at h
      cases h
      rw [e, show v = .int b from h1, intsOf_ok h2 z]
      rfl
def rOn1 (r : V → Hp → VK → Prop) : List V → Hp → VK → Prop := fun xs H Q => ∃ x, xs = [x] ∧ r x H Q
theorem oc_on1 {r : List V → Hp → VK → Prop} {F : D → Option D} (h : ∀ (A : Addr → Prop) (H : Hp) (x : V) (a d : D) (Q : VK), Tr A H → Rep g H A a x → F a = some d → (∀ v H', Same H H' → Rep g H' A d v → Q v H') → r [x] H Q) : OpC g r (on1 F) := fun A H xs as d Q tr rs e k => by
  obtain ⟨a, rfl, e⟩ := on1_some e
  obtain ⟨v, r1, rfl, ra, rfl⟩ := rs
  exact h A H v a d Q tr ra e k
theorem oc_on2 {r : List V → Hp → VK → Prop} {F : D → D → Option D} (h : ∀ (A : Addr → Prop) (H : Hp) (x y : V) (a b d : D) (Q : VK), Tr A H → Rep g H A a x → Rep g H A b y → F a b = some d → (∀ v H', Same H H' → Rep g H' A d v → Q v H') → r [x, y] H Q) : OpC g r (on2 F) := fun A H xs as d Q tr rs e k => by
  obtain ⟨a, b, rfl, e⟩ := on2_some e
  obtain ⟨v, r1, rfl, ra, v2, r2, rfl, rb, rfl⟩ := rs
  exact h A H v v2 a b d Q tr ra rb e k
theorem oc_abs : OpC g (fun xs H Q => ∃ i, xs = [.int i] ∧ Q (.int (if i < 0 then -i else i)) H) (on1 absD) := oc_on1 fun A H x a d Q tr ra h k => by
  cases a <;> first | (cases h; done) | skip
  cases h
  have ra : x = .int _ := ra
  subst ra
  exact ⟨_, rfl, k _ _ (Same.refl H) rfl⟩
theorem oc_int : OpC g (fun xs H Q => (∃ i, xs = [.int i] ∧ Q (.int i) H) ∨ ∃ k, xs = [.bl k] ∧ Q (.int (if k then 1 else 0)) H) (on1 intD) := oc_on1 fun A H x a d Q tr ra h k => by
  cases a <;> first | (cases h; done) | skip
  · cases h
    have ra : x = .bl _ := ra
    subst ra
    exact .inr ⟨_, rfl, k _ _ (Same.refl H) rfl⟩
  · cases h
    have ra : x = .int _ := ra
    subst ra
    exact .inl ⟨_, rfl, k _ _ (Same.refl H) rfl⟩
theorem oc_max2 : OpC g (fun xs H Q => ∃ i j, xs = [.int i, .int j] ∧ Q (.int (if j > i then j else i)) H) (on2 max2D) := oc_on2 fun A H x y a b d Q tr ra rb h k => by
  cases a <;> first | (cases h; done) | skip
  cases b <;> first | (cases h; done) | skip
  cases h
  have ra : x = .int _ := ra
  have rb : y = .int _ := rb
  subst ra rb
  exact ⟨_, _, rfl, k _ _ (Same.refl H) rfl⟩
theorem oc_min2 : OpC g (fun xs H Q => ∃ i j, xs = [.int i, .int j] ∧ Q (.int (if j < i then j else i)) H) (on2 min2D) := oc_on2 fun A H x y a b d Q tr ra rb h k => by
  cases a <;> first | (cases h; done) | skip
  cases b <;> first | (cases h; done) | skip
  cases h
  have ra : x = .int _ := ra
  have rb : y = .int _ := rb
  subst ra rb
  exact ⟨_, _, rfl, k _ _ (Same.refl H) rfl⟩
theorem oc_len (hK : X.K = g.K) : OpC g (fun xs H Q => ∃ x n, xs = [x] ∧ LenV X.K x H n ∧ Q (.int n) H) (on1 lenD) := oc_on1 fun A H x a d Q tr ra h k => by
  cases a <;> first | (cases h; done) | skip
  case tup ds =>
    cases h
    obtain ⟨p, vs, rfl, hq, rr⟩ := ra
    exact ⟨_, ds.length, rfl, .inr ⟨vs, by rw [hK]; exact hq.sq, rr.length⟩, k _ _ (Same.refl H) rfl⟩
  case lst ds =>
    cases h
    obtain ⟨p, vs, rfl, hq, rr⟩ := ra
    exact ⟨_, ds.length, rfl, .inl ⟨vs, by rw [hK]; exact hq.sq, rr.length⟩, k _ _ (Same.refl H) rfl⟩
  case str z =>
    rw [lenD] at h
    split at h
    · cases h
      rename_i q
      have ra : x = .str z := ra
      subst ra
      exact ⟨_, z.length, rfl, ⟨by rw [sizeLine_eq]; exact q, rfl⟩, k _ _ (Same.refl H) rfl⟩
    · cases h
theorem oc_tup (hK : X.K = g.K) : OpC g (fun xs H Q => ∃ p ys, xs = [.ref p] ∧ ((SqL X.K H p ys ∧ ∀ l, H l = none → Q (.ref l) (upd H l (.tup ys))) ∨ (SqT X.K H p ys ∧ Q (.ref p) H))) (on1 tupD) := oc_on1 fun A H x a d Q tr ra h k => by
  cases a <;> first | (cases h; done) | skip
  case tup ds =>
    cases h
    obtain ⟨p, vs, rfl, hq, rr⟩ := ra
    exact ⟨p, vs, rfl, .inr ⟨by rw [hK]; exact hq.sq, k _ _ (Same.refl H) ⟨p, vs, rfl, hq, rr⟩⟩⟩
  case lst ds =>
    cases h
    obtain ⟨p, vs, rfl, hq, rr⟩ := ra
    exact ⟨p, vs, rfl, .inl ⟨by rw [hK]; exact hq.sq, fun l hl => k _ _ (same_new hl) (rep_tup (tr.fresh hl) hl rr)⟩⟩
theorem oc_all (hK : X.K = g.K) : OpC g (rAll X.K) (on1 allD) := oc_on1 fun A H x a d Q tr ra h k => by
  cases a <;> first | (cases h; done) | skip
  rename_i ds
  obtain ⟨p, vs, rfl, hq, rr⟩ := ra
  rw [allD] at h
  cases z : boolsOf ds with
  | none => rw [z] at h; cases h
  | some bs =>
    rw [z] at h
    cases h
    exact ⟨p, bs, rfl, by rw [hK, ← boolsOf_ok rr z]; exact hq.sq, k _ _ (Same.refl H) rfl⟩
theorem oc_any (hK : X.K = g.K) : OpC g (rAny X.K) (on1 anyD) := oc_on1 fun A H x a d Q tr ra h k => by
  cases a <;> first | (cases h; done) | skip
  rename_i ds
  obtain ⟨p, vs, rfl, hq, rr⟩ := ra
  rw [anyD] at h
  cases z : boolsOf ds with
  | none => rw [z] at h; cases h
  | some bs =>
    rw [z] at h
    cases h
    exact ⟨p, bs, rfl, by rw [hK, ← boolsOf_ok rr z]; exact hq.sq, k _ _ (Same.refl H) rfl⟩
theorem oc_sum (hK : X.K = g.K) : OpC g (rSum X.K) (on1 sumD) := oc_on1 fun A H x a d Q tr ra h k => by
  cases a <;> first | (cases h; done) | skip
  rename_i ds
  obtain ⟨p, vs, rfl, hq, rr⟩ := ra
  rw [sumD] at h
  cases z : intsOf ds with
  | none => rw [z] at h; cases h
  | some bs =>
    rw [z] at h
    cases h
    exact ⟨p, bs, rfl, by rw [hK, ← intsOf_ok rr z]; exact hq.sq, k _ _ (Same.refl H) rfl⟩
variable {mp : List Nat} {e : Expr} {es : List Expr} {fs : Env → R (List D)} {x : Str} {p pos : Pos} {id T : String} {r : List V → Hp → VK → Prop} {F : List D → Option D}
theorem de_callB (hc : CallR X (.builtin id) r) (hF : OpC g r F) (hg : Gl X x) (hm : X.mg x = none) (hv : bootBuiltins x = some (.builtin id)) (ha : DA g mp X (e :: es) fs) (hn : x ≠ "__name__" := by decide) (hdb : (x == ("__debug__" : Str)) = false := by decide)
    (he : starEach (e :: es) X.env = (false, eval e X.env) :: starEach es X.env := by rfl) (hpl : (backTo pos (starEach es X.env)).any (·.1) = false := by rfl) : DE g mp X (.Call (.Name x p) (e :: es) [] pos) (dCal F fs) :=
  ⟨fun P ps W hp tk => pe_imp (pe_callB hc hg hm hv (ha.run P ps W hp tk) hn hdb he hpl) fun σ H Q h => tD_cal hF h⟩
theorem de_callTy (hc : CallR X (.type T) r) (hF : OpC g r F) (hg : Gl X x) (hm : X.mg x = none) (hv : bootBuiltins x = some (.type T)) (ha : DA g mp X (e :: es) fs) (hn : x ≠ "__name__" := by decide) (hdb : (x == ("__debug__" : Str)) = false := by decide)
    (he : starEach (e :: es) X.env = (false, eval e X.env) :: starEach es X.env := by rfl) (hpl : (backTo pos (starEach es X.env)).any (·.1) = false := by rfl) : DE g mp X (.Call (.Name x p) (e :: es) [] pos) (dCal F fs) :=
  ⟨fun P ps W hp tk => pe_imp (pe_callTy hc hg hm hv (ha.run P ps W hp tk) hn hdb he hpl) fun σ H Q h => tD_cal hF h⟩
theorem de_ix (hK : X.K = g.K) (hu : X.A.units + 1 < cLine) {a b : Expr} {fa fb : Env → R D} (ha : DE g mp X a fa) (hb : DE g mp X b fb) (hs : PlainIx b := by exact fun _ _ => rfl) : DE g mp X (.Subscript a b pos) (dBin ixD fa fb) :=
  ⟨fun P ps W hp tk => pe_imp (pe_ix (ix_all hu) (ha.run P ps W hp tk) (hb.run P ps W hp tk) hs) fun σ H Q h => tD_bin (o2_ix hK) h⟩
/-- a built-in type's name as a value -/
theorem de_ty (hg : Gl X x) (hm : X.mg x = none) (hv : bootBuiltins x = some (.type T)) (hn : x ≠ "__name__" := by decide) (hd : (x == ("__debug__" : Str)) = false := by decide) : DE g mp X (.Name x pos) (dC (.ty T)) :=
  de_c (pe_bltn hg hm hv (v := .ty T) rfl hn hd) fun _ _ => rfl
end
end DL
end

section
set_option Elab.async false
set_option linter.all false
set_option maxRecDepth 100000
set_option maxHeartbeats 4000000
namespace DL
open PySem PySem.Spec PyProof.Rows L2

/-! ### statements: what is wanted behind them -/
def PRS (g : G) (P : Addr → Prop) (ps : List (Nat × Addr)) (W : WX) (e : Env) (σ : L2.St) (H : Hp) (r : RS) (Dn : Ends) : Prop := match r with
  | .nx e' => ∀ σ' H', Go g P ps e σ H e' σ' H' → Dn.nx σ' H'
  | .rt (.v d) e' => ∀ v σ' H', Go g P ps e σ H e' σ' H' → Rep g H' (Av P e' σ') d v → Dn.rt v H'
  | .rt (.m ds) e' => ∀ a σ' H', GoM g P ps e σ H a ds e' σ' H' → Dn.rt (.ref a) H'
  | .bk e' => ∀ σ' H', Go g P ps e σ H e' σ' H' → Dn.bk σ' H'
  | .ct e' => ∀ σ' H', Go g P ps e σ H e' σ' H' → Dn.ct σ' H'
  | .exc x e' => ∀ cls d σ' H', Go g P ps e σ H e' σ' H' → XRep g H' (Av P e' σ') x cls d → W cls d σ' H'
  | .bad => False
theorem tS_eq {g P ps W} {f : Env → RS} {Dn : Ends} {σ H} : tS g P ps W f Dn σ H ↔ ∃ e, StRel g P ps e σ H ∧ PRS g P ps W e σ H (f e) Dn := by
  constructor
  · rintro ⟨e, s, h⟩
    refine ⟨e, s, ?_⟩
    revert h
    cases f e with
    | rt s e' => cases s <;> exact fun h => h
    | _ => exact fun h => h
  · rintro ⟨e, s, h⟩
    refine ⟨e, s, ?_⟩
    revert h
    cases f e with
    | rt s e' => cases s <;> exact fun h => h
    | _ => exact fun h => h
def sB {α : Type} (x : R α) (f : α → Env → RS) : RS := match x with
  | .ok a e => f a e
  | .exc x e => .exc x e
  | .bad => .bad
@[simp] theorem sB_ok {α : Type} (a : α) (e : Env) (f : α → Env → RS) : sB (.ok a e) f = f a e := rfl
@[simp] theorem sB_exc {α : Type} (x : Xc) (e : Env) (f : α → Env → RS) : sB (.exc x e) f = .exc x e := rfl
@[simp] theorem sB_bad {α : Type} (f : α → Env → RS) : sB .bad f = .bad := rfl
def sO {α : Type} (o : Option α) (f : α → RS) : RS := match o with
  | some a => f a
  | none => .bad
@[simp] theorem sO_some {α : Type} (a : α) (f : α → RS) : sO (some a) f = f a := rfl
@[simp] theorem sO_none {α : Type} (f : α → RS) : sO none f = .bad := rfl
/-- one behind another -/
def sq (r : RS) (f : Env → RS) : RS := match r with
  | .nx e => f e
  | r => r
@[simp] theorem sq_nx (e : Env) (f : Env → RS) : sq (.nx e) f = f e := rfl
@[simp] theorem sq_rt (s : Slot) (e : Env) (f : Env → RS) : sq (.rt s e) f = .rt s e := rfl
@[simp] theorem sq_bk (e : Env) (f : Env → RS) : sq (.bk e) f = .bk e := rfl
@[simp] theorem sq_ct (e : Env) (f : Env → RS) : sq (.ct e) f = .ct e := rfl
@[simp] theorem sq_exc (x : Xc) (e : Env) (f : Env → RS) : sq (.exc x e) f = .exc x e := rfl
@[simp] theorem sq_bad (f : Env → RS) : sq .bad f = .bad := rfl

section
variable {g : G} {P : Addr → Prop} {ps : List (Nat × Addr)} {W : WX} {e e1 : Env} {σ σ1 : L2.St} {H H1 : Hp} {Dn Dn' : Ends}
theorem GoM.pre {a ds e2 σ2 H2} (x : Go g P ps e σ H e1 σ1 H1) (y : GoM g P ps e1 σ1 H1 a ds e2 σ2 H2) : GoM g P ps e σ H a ds e2 σ2 H2 := GoM.trans x y
theorem PRS.shift {r : RS} (h : PRS g P ps W e σ H r Dn) (q : Go g P ps e σ H e1 σ1 H1) : PRS g P ps W e1 σ1 H1 r Dn := by
  cases r with
  | nx e' => exact fun σ' H' z => h _ _ (q.trans z)
  | rt s e' => cases s with
    | v d => exact fun v σ' H' z => h _ _ _ (q.trans z)
    | m ds => exact fun a σ' H' z => h _ _ _ (GoM.pre q z)
  | bk e' => exact fun σ' H' z => h _ _ (q.trans z)
  | ct e' => exact fun σ' H' z => h _ _ (q.trans z)
  | exc x e' => exact fun c d σ' H' z => h _ _ _ _ (q.trans z)
  | bad => exact h
theorem PRS.sB {α : Type} {x : R α} {f : α → Env → RS} (h : PRS g P ps W e σ H (sB x f) Dn) : PR g P ps W e σ H x (fun a e1 H1 => PRS g P ps W e1 σ H1 (f a e1) Dn) := by
  cases x with
  | ok a e' => exact fun H' z => PRS.shift h z
  | exc x e' => exact fun c d H' z r => h c d σ H' z r
  | bad => exact h
theorem PRS.sO {α : Type} {o : Option α} {f : α → RS} (h : PRS g P ps W e σ H (sO o f) Dn) : ∃ a, o = some a ∧ PRS g P ps W e σ H (f a) Dn := by
  cases o with
  | some a => exact ⟨a, rfl, h⟩
  | none => exact h.elim
theorem PRS.sq {r : RS} {f : Env → RS} (h : PRS g P ps W e σ H (sq r f) Dn) : PRS g P ps W e σ H r { Dn with nx := fun σ' H' => tS g P ps W f Dn σ' H' } := by
  cases r with
  | nx e' => exact fun σ' H' z => tS_eq.mpr ⟨e', z.st, PRS.shift h z⟩
  | rt s e' => cases s <;> exact h
  | bk e' => exact h
  | ct e' => exact h
  | exc x e' => exact h
  | bad => exact h
end

structure DS (g : G) (mp : List Nat) (X : Cx) (st : Stmt) (f : Env → RS) : Prop where
  run : ∀ (P : Addr → Prop) (ps : List (Nat × Addr)) (W : WX), ps.map (·.1) = mp → Takes X W → PS X st (tS g P ps W f)
structure DSs (g : G) (mp : List Nat) (X : Cx) (st : List Stmt) (f : Env → RS) : Prop where
  run : ∀ (P : Addr → Prop) (ps : List (Nat × Addr)) (W : WX), ps.map (·.1) = mp → Takes X W → PSs X st (tS g P ps W f)
def sNx : Env → RS := fun e => .nx e
def sSeq (a b : Env → RS) : Env → RS := fun e => sq (a e) b
def sIf (t : Env → R Bool) (a b : Env → RS) : Env → RS := fun e => sB (t e) fun k e1 => if k = true then a e1 else b e1
def sRet (f : Env → R D) : Env → RS := fun e => sB (f e) fun d e1 => .rt (.v d) e1
def sRetM (f : Env → R (List D)) : Env → RS := fun e => sB (f e) fun ds e1 => .rt (.m ds) e1
def sRetN : Env → RS := fun e => .rt (.v .non) e
def sEx (f : Env → R D) : Env → RS := fun e => sB (f e) fun _ e1 => .nx e1
def sBk : Env → RS := fun e => .bk e
def sCt : Env → RS := fun e => .ct e
section
variable {g : G} {mp : List Nat} {X : Cx} {st : Stmt} {sts : List Stmt} {f h : Env → RS} {ex : Expr} {fe : Env → R D} {pos : Pos}
theorem dss_nil : DSs g mp X [] sNx := ⟨fun P ps W hp tk => pss_imp pss_nil fun σ H Q q => by
  obtain ⟨e, s, q⟩ := tS_eq.mp q
  exact q _ _ (Go.refl s)⟩
theorem dss_one (a : DS g mp X st f) : DSs g mp X [st] f := ⟨fun P ps W hp tk => pss_one (a.run P ps W hp tk)⟩
theorem dss_cons (a : DS g mp X st f) (b : DSs g mp X sts h) : DSs g mp X (st :: sts) (sSeq f h) := ⟨fun P ps W hp tk => pss_imp (pss_cons (a.run P ps W hp tk) (b.run P ps W hp tk)) fun σ H Q q => by
  obtain ⟨e, s, q⟩ := tS_eq.mp q
  exact tS_eq.mpr ⟨e, s, q.sq⟩⟩
theorem ds_if {t : Env → R Bool} {a b : List Stmt} (ht : DB g mp X ex t) (ha : DSs g mp X a f) (hb : DSs g mp X b h) : DS g mp X (.If ex a b pos) (sIf t f h) := ⟨fun P ps W hp tk => ps_imp (ps_if (ht.run P ps W hp tk) (ha.run P ps W hp tk) (hb.run P ps W hp tk)) fun σ H Q q => by
  obtain ⟨e, s, q⟩ := tS_eq.mp q
  refine tB_of s (q.sB.mono fun k e1 H1 go1 z => ?_)
  cases k with
  | true => rw [if_pos rfl] at z ⊢; exact tS_eq.mpr ⟨e1, go1.st, z⟩
  | false => rw [if_neg Bool.false_ne_true] at z ⊢; exact tS_eq.mpr ⟨e1, go1.st, z⟩⟩
theorem ds_ret (he : DE g mp X ex fe) : DS g mp X (.Return (some ex) pos) (sRet fe) := ⟨fun P ps W hp tk => ps_imp (ps_ret (he.run P ps W hp tk)) fun σ H Q q => by
  obtain ⟨e, s, q⟩ := tS_eq.mp q
  exact tD_of s (q.sB.mono fun d e1 H1 go1 z v rv => z v _ _ (Go.refl go1.st) rv)⟩
theorem ds_retN : DS g mp X (.Return none pos) sRetN := ⟨fun P ps W hp tk => ps_imp ps_retN fun σ H Q q => by
  obtain ⟨e, s, q⟩ := tS_eq.mp q
  exact q .non _ _ (Go.refl s) rfl⟩
theorem ds_retM {fm : Env → R (List D)} (he : DM g mp X ex fm) : DS g mp X (.Return (some ex) pos) (sRetM fm) := ⟨fun P ps W hp tk => ps_imp (ps_ret (he.run P ps W hp tk)) fun σ H Q q => by
  obtain ⟨e, s, q⟩ := tS_eq.mp q
  refine ⟨e, s, ?_⟩
  unfold sRetM at q
  revert q
  cases fm e with
  | ok ds e1 => exact fun q a H' gm => q a σ H' gm
  | exc x e1 => exact fun q c d H' z r => q c d σ H' z r
  | bad => exact fun q => q⟩
theorem ds_ex (he : DE g mp X ex fe) (hs : swapsWith ex none pos.line X.env = pure false := by rfl) : DS g mp X (.Expr ex pos) (sEx fe) := ⟨fun P ps W hp tk => ps_imp (ps_expr (he.run P ps W hp tk) hs) fun σ H Q q => by
  obtain ⟨e, s, q⟩ := tS_eq.mp q
  exact tD_of s (q.sB.mono fun d e1 H1 go1 z v rv => z _ _ (Go.refl go1.st))⟩
theorem ds_pass : DS g mp X (.Pass pos) sNx := ⟨fun P ps W hp tk => ps_imp ps_pass fun σ H Q q => by
  obtain ⟨e, s, q⟩ := tS_eq.mp q
  exact q _ _ (Go.refl s)⟩
theorem ds_bk : DS g mp X (.Break pos) sBk := ⟨fun P ps W hp tk => ps_imp ps_break fun σ H Q q => by
  obtain ⟨e, s, q⟩ := tS_eq.mp q
  exact q _ _ (Go.refl s)⟩
theorem ds_ct : DS g mp X (.Continue pos) sCt := ⟨fun P ps W hp tk => ps_imp ps_continue fun σ H Q q => by
  obtain ⟨e, s, q⟩ := tS_eq.mp q
  exact q _ _ (Go.refl s)⟩
end

/-! ### names stored -/
section
variable {g : G} {P : Addr → Prop} {ps : List (Nat × Addr)} {e : Env} {σ : L2.St} {H : Hp}
theorem set_get {α : Type} {l : List α} {i j : Nat} {a b : α} (h : (l.set i a)[j]? = some b) : (i = j ∧ a = b ∧ i < l.length) ∨ (i ≠ j ∧ l[j]? = some b) := by
  by_cases hj : i = j
  · subst hj
    by_cases hl : i < l.length
    · rw [List.getElem?_set_self hl] at h
      cases h
      exact .inl ⟨rfl, rfl, hl⟩
    · rw [List.getElem?_eq_none (by rw [List.length_set]; omega)] at h
      cases h
  · rw [List.getElem?_set_ne hj] at h
    exact .inr ⟨hj, h⟩
theorem StRel.setv (s : StRel g P ps e σ H) {i : Nat} {d : D} {v : V} (r : Rep g H (Av P e σ) d v) (hi : i ∉ ps.map (·.1)) : Go g P ps e σ H (e.set i (some (.v d))) (σ.set i (some v)) H := by
  have sub : ∀ b, isM (e.set i (some (.v d))) (σ.set i (some v)) b → isM e σ b := by
    rintro b ⟨j, es, q1, q2⟩
    rcases set_get q1 with ⟨_, z, _⟩ | ⟨hj, q1⟩
    · cases z
    · rw [List.getElem?_set_ne hj] at q2
      exact ⟨j, es, q1, q2⟩
  have subA : ∀ b, Av P (e.set i (some (.v d))) (σ.set i (some v)) b → Av P e σ b := fun b z => z.elim .inl fun z => .inr (sub b z)
  refine ⟨⟨by rw [List.length_set, List.length_set]; exact s.len, fun j d' q => ?_, fun j es q => ?_, fun j l b es fs q1 q2 r1 r2 => ?_, s.prv, fun p hp => ?_, s.tb⟩, fun b o q n => ⟨q, fun z => n.1 (subA b z)⟩, fun _ _ => rfl⟩
  · rcases set_get q with ⟨rfl, z, hl⟩ | ⟨hj, q⟩
    · cases z
      exact ⟨v, by rw [List.getElem?_set_self (by rw [← s.len]; exact hl)], Rep.mono subA r⟩
    · obtain ⟨v', h1, h2⟩ := s.vv j d' q
      exact ⟨v', by rw [List.getElem?_set_ne hj]; exact h1, Rep.mono subA h2⟩
  · rcases set_get q with ⟨rfl, z, hl⟩ | ⟨hj, q⟩
    · cases z
    · obtain ⟨b, us, h1, h2, h3, h4⟩ := s.mm j es q
      exact ⟨b, us, by rw [List.getElem?_set_ne hj]; exact h1, h2, RepL.mono subA h3, h4⟩
  · rcases set_get q1 with ⟨_, z, _⟩ | ⟨hj, q1⟩
    · cases z
    rcases set_get q2 with ⟨_, z, _⟩ | ⟨hl, q2⟩
    · cases z
    rw [List.getElem?_set_ne hj] at r1
    rw [List.getElem?_set_ne hl] at r2
    exact s.inj j l b es fs q1 q2 r1 r2
  · obtain ⟨h1, ds, h2⟩ := s.par p hp
    have hj : i ≠ p.1 := fun z => hi (by rw [z]; exact List.mem_map_of_mem hp)
    exact ⟨by rw [List.getElem?_set_ne hj]; exact h1, ds, by rw [List.getElem?_set_ne hj]; exact h2⟩
/-- a new list of one's own is stored -/
theorem GoM.setm {e0 σ0 H0 a ds} (x : GoM g P ps e0 σ0 H0 a ds e σ H) {i : Nat} (hl : i < σ.length) (hi : i ∉ ps.map (·.1)) : Go g P ps e0 σ0 H0 (e.set i (some (.m ds))) (σ.set i (some (.ref a))) H := by
  have s := x.st
  have sub : ∀ b, isM (e.set i (some (.m ds))) (σ.set i (some (.ref a))) b → isM e σ b ∨ b = a := by
    rintro b ⟨j, es, q1, q2⟩
    rcases set_get q1 with ⟨rfl, z, _⟩ | ⟨hj, q1⟩
    · rw [List.getElem?_set_self hl] at q2
      cases q2
      exact .inr rfl
    · rw [List.getElem?_set_ne hj] at q2
      exact .inl ⟨j, es, q1, q2⟩
  have subA : ∀ b, Av P (e.set i (some (.m ds))) (σ.set i (some (.ref a))) b → Av (Pl P a) e σ b := fun b z => z.elim (fun z => .inl (.inl z)) fun z => (sub b z).elim .inr fun z => .inl (.inr z)
  refine ⟨⟨by rw [List.length_set, List.length_set]; exact s.len, fun j d' q => ?_, fun j es q => ?_, fun j l b es fs q1 q2 r1 r2 => ?_, fun b q => s.prv b (.inl q), fun p hp => ?_, s.tb⟩, fun b o q n => ⟨(x.kp b o q n).1, fun z => (x.kp b o q n).2 (subA b z)⟩, x.pr⟩
  · rcases set_get q with ⟨_, z, _⟩ | ⟨hj, q⟩
    · cases z
    · obtain ⟨v', h1, h2⟩ := s.vv j d' q
      exact ⟨v', by rw [List.getElem?_set_ne hj]; exact h1, Rep.mono subA h2⟩
  · rcases set_get q with ⟨rfl, z, _⟩ | ⟨hj, q⟩
    · cases z
      obtain ⟨vs, h1, h2⟩ := x.at_
      exact ⟨a, vs, by rw [List.getElem?_set_self hl], h1, RepL.mono subA h2, x.np⟩
    · obtain ⟨b, us, h1, h2, h3, h4⟩ := s.mm j es q
      exact ⟨b, us, by rw [List.getElem?_set_ne hj]; exact h1, h2, RepL.mono subA h3, fun z => h4 (.inl z)⟩
  · have key : ∀ (j : Nat) (es : List D), i ≠ j → e[j]? = some (some (.m es)) → σ[j]? = some (some (.ref a)) → False := fun j es hj q r => by
      obtain ⟨b, us, h1, _, _, h4⟩ := s.mm j es q
      rw [r] at h1
      cases h1
      exact h4 (.inr rfl)
    rcases set_get q1 with ⟨rfl, z, _⟩ | ⟨hj, q1⟩
    · rw [List.getElem?_set_self hl] at r1
      cases r1
      rcases set_get q2 with ⟨z2, _, _⟩ | ⟨hl2, q2⟩
      · exact z2
      · rw [List.getElem?_set_ne hl2] at r2
        exact (key l fs hl2 q2 r2).elim
    · rw [List.getElem?_set_ne hj] at r1
      rcases set_get q2 with ⟨rfl, z, _⟩ | ⟨hl2, q2⟩
      · rw [List.getElem?_set_self hl] at r2
        cases r2
        exact (key j es hj q1 r1).elim
      · rw [List.getElem?_set_ne hl2] at r2
        exact s.inj j l b es fs q1 q2 r1 r2
  · obtain ⟨h1, es, h2⟩ := s.par p hp
    have hj : i ≠ p.1 := fun z => hi (by rw [z]; exact List.mem_map_of_mem hp)
    exact ⟨by rw [List.getElem?_set_ne hj]; exact h1, es, by rw [List.getElem?_set_ne hj]; exact h2⟩
/-- a list of one's own is changed -/
theorem StRel.updm (s : StRel g P ps e σ H) {i : Nat} {a : Addr} {ds es : List D} {us : List V} (q : e[i]? = some (some (.m ds))) (hσ : σ[i]? = some (some (.ref a))) (r : RepL g H (Av P e σ) es us) : Go g P ps e σ H (e.set i (some (.m es))) σ (upd H a (.lst us)) := by
  obtain ⟨a', vs, h1, h2, h3, h4⟩ := s.mm i ds q
  rw [hσ] at h1
  cases h1
  have hl : i < e.length := by
    cases Nat.lt_or_ge i e.length with
    | inl h => exact h
    | inr h => rw [List.getElem?_eq_none h] at q; cases q
  have same : ∀ b, isM (e.set i (some (.m es))) σ b ↔ isM e σ b := by
    intro b
    constructor
    · rintro ⟨j, fs, q1, q2⟩
      rcases set_get q1 with ⟨rfl, z, _⟩ | ⟨hj, q1⟩
      · exact ⟨i, ds, q, q2⟩
      · exact ⟨j, fs, q1, q2⟩
    · rintro ⟨j, fs, q1, q2⟩
      by_cases hj : i = j
      · subst hj
        exact ⟨i, es, List.getElem?_set_self hl, q2⟩
      · exact ⟨j, fs, by rw [List.getElem?_set_ne hj]; exact q1, q2⟩
  have sameA : ∀ b, Av P (e.set i (some (.m es))) σ b → Av P e σ b := fun b z => z.elim .inl fun z => .inr ((same b).mp z)
  have ha : isM e σ a := ⟨i, ds, q, hσ⟩
  have k : Kp (Av P e σ) H (Av P (e.set i (some (.m es))) σ) (upd H a (.lst us)) := fun b o z n => by
    have nb : b ≠ a := fun w => n.1 (by rw [w]; exact .inr ha)
    exact ⟨by rw [upd_ne nb]; exact z, fun w => n.1 (sameA b w)⟩
  have pr : ∀ b, P b → upd H a (.lst us) b = H b := fun b z => upd_ne fun w => h4 (by rw [← w]; exact z)
  refine ⟨⟨by rw [List.length_set]; exact s.len, fun j d' z => ?_, fun j fs z => ?_, fun j l b fs gs q1 q2 r1 r2 => ?_, fun b z => by rw [pr b z]; exact s.prv b z, fun p hp => ?_, tabs_upd s.tb h2⟩, k, pr⟩
  · rcases set_get z with ⟨_, w, _⟩ | ⟨hj, z⟩
    · cases w
    · obtain ⟨v', z1, z2⟩ := s.vv j d' z
      exact ⟨v', z1, Rep.kp k _ _ z2⟩
  · rcases set_get z with ⟨rfl, w, _⟩ | ⟨hj, z⟩
    · cases w
      exact ⟨a, us, hσ, upd_same, RepL.kp k _ _ r, h4⟩
    · obtain ⟨b, ws, z1, z2, z3, z4⟩ := s.mm j fs z
      have nb : b ≠ a := fun w => hj (s.inj i j a ds fs q z hσ (by rw [← w]; exact z1))
      exact ⟨b, ws, z1, by rw [upd_ne nb]; exact z2, RepL.kp k _ _ z3, z4⟩
  · have o : ∀ (j : Nat) (fs : List D), (e.set i (some (.m es)))[j]? = some (some (.m fs)) → ∃ fs', e[j]? = some (some (.m fs')) := fun j fs z => by
      rcases set_get z with ⟨rfl, w, _⟩ | ⟨hj, z⟩
      · exact ⟨ds, q⟩
      · exact ⟨fs, z⟩
    obtain ⟨fs', z1⟩ := o j fs q1
    obtain ⟨gs', z2⟩ := o l gs q2
    exact s.inj j l b fs' gs' z1 z2 r1 r2
  · obtain ⟨z1, fs, z2⟩ := s.par p hp
    refine ⟨z1, ?_⟩
    by_cases hj : i = p.1
    · exact ⟨es, by rw [← hj]; exact List.getElem?_set_self hl⟩
    · exact ⟨fs, by rw [List.getElem?_set_ne hj]; exact z2⟩
end

/-! ### targets -/
/-- but for these places the slots are as they were -/
def Only1 (sl : List Nat) (σ σ' : L2.St) : Prop := σ'.length = σ.length ∧ ∀ j, j ∉ sl → σ'[j]? = σ[j]?
theorem Only1.refl (sl : List Nat) (σ : L2.St) : Only1 sl σ σ := ⟨rfl, fun _ _ => rfl⟩
theorem Only1.trans {sl : List Nat} {σ σ1 σ2 : L2.St} (a : Only1 sl σ σ1) (b : Only1 sl σ1 σ2) : Only1 sl σ σ2 := ⟨b.1.trans a.1, fun j h => (b.2 j h).trans (a.2 j h)⟩
theorem Only1.mono {sl sl' : List Nat} {σ σ1 : L2.St} (a : Only1 sl σ σ1) (h : ∀ j ∈ sl, j ∈ sl') : Only1 sl' σ σ1 := ⟨a.1, fun j z => a.2 j fun w => z (h j w)⟩
def tG (g : G) (P : Addr → Prop) (ps : List (Nat × Addr)) (sl : List Nat) (t : D → Env → Option Env) : TG := fun v σ H Q => ∃ e d, StRel g P ps e σ H ∧ Rep g H (Av P e σ) d v ∧ ∃ e', t d e = some e' ∧ ∀ σ' H', Go g P ps e σ H e' σ' H' → Only1 sl σ σ' → Q σ' H'
def tGs (g : G) (P : Addr → Prop) (ps : List (Nat × Addr)) (sl : List Nat) (t : List D → Env → Option Env) : TGs := fun vs σ H Q => ∃ e ds, StRel g P ps e σ H ∧ RepL g H (Av P e σ) ds vs ∧ ∃ e', t ds e = some e' ∧ ∀ σ' H', Go g P ps e σ H e' σ' H' → Only1 sl σ σ' → Q σ' H'
structure DG (g : G) (mp : List Nat) (X : Cx) (tg : Expr) (sl : List Nat) (t : D → Env → Option Env) : Prop where
  run : ∀ (P : Addr → Prop) (ps : List (Nat × Addr)), ps.map (·.1) = mp → PG X tg (tG g P ps sl t)
structure DGs (g : G) (mp : List Nat) (X : Cx) (tg : List Expr) (sl : List Nat) (t : List D → Env → Option Env) : Prop where
  run : ∀ (P : Addr → Prop) (ps : List (Nat × Addr)), ps.map (·.1) = mp → PGs X tg (tGs g P ps sl t)
theorem pg_imp {X : Cx} {tg : Expr} {t t' : TG} (h : PG X tg t) (m : ∀ v σ H Q, t' v σ H Q → t v σ H Q) : PG X tg t' := ⟨fun pins s σ H v u Q I r q => h.run pins s σ H v u Q I r (m v σ H Q q)⟩
theorem pgs_imp {X : Cx} {tg : List Expr} {t t' : TGs} (h : PGs X tg t) (m : ∀ v σ H Q, t' v σ H Q → t v σ H Q) : PGs X tg t' := ⟨fun pins s σ H v u Q I r q => h.run pins s σ H v u Q I r (m v σ H Q q)⟩
def gtN (i : Nat) : D → Env → Option Env := fun d e => some (e.set i (some (.v d)))
def gtNil : List D → Env → Option Env := fun ds e => if ds.isEmpty then some e else none
def gtCons (t : D → Env → Option Env) (u : List D → Env → Option Env) : List D → Env → Option Env := fun ds e => match ds with
  | d :: r => (t d e).bind (u r)
  | [] => none
def gtTup (n : Nat) (t : List D → Env → Option Env) : D → Env → Option Env := fun d e => match d with
  | .tup ds => if ds.length = n then t ds e else none
  | _ => none
def sAsg (fe : Env → R D) (t : D → Env → Option Env) : Env → RS := fun e => sB (fe e) fun d e1 => sO (t d e1) fun e2 => .nx e2
section
variable {g : G} {mp : List Nat} {X : Cx} {x : Str} {pos : Pos} {tg : Expr} {tgs : List Expr}
theorem dg_name (i : Nat) (hN : X.N.Nodup) (hm : i ∉ mp := by decide) (hi : X.N[i]? = some x := by rfl) (hx : Loc X.env.scope x := by first | exact Or.inl rfl | exact Or.inr rfl) (hf : X.fn x = true ∨ X.env.scope.names.lookup x = some .local := by first | exact .inl rfl | exact .inr rfl | assumption) : DG g mp X (.Name x pos) [i] (gtN i) :=
  ⟨fun P ps hp => pg_imp (pg_name hN hi hx hf) fun v σ H Q ⟨e, d, s, r, e', q, k⟩ => by
    cases q
    exact k _ _ (s.setv r (by rw [hp]; exact hm)) ⟨List.length_set, fun j z => List.getElem?_set_ne fun w => z (by rw [w]; exact List.mem_singleton.mpr rfl)⟩⟩
theorem dgs_nil : DGs g mp X [] [] gtNil := ⟨fun P ps hp => pgs_imp pgs_nil fun vs σ H Q ⟨e, ds, s, r, e', q, k⟩ => by
  unfold gtNil at q
  cases ds with
  | nil => cases q; exact ⟨r, k _ _ (Go.refl s) (Only1.refl _ _)⟩
  | cons d ds => cases q⟩
theorem dgs_cons {sl sl2 : List Nat} {t : D → Env → Option Env} {u : List D → Env → Option Env} (a : DG g mp X tg sl t) (b : DGs g mp X tgs sl2 u) (hs : (assignEach (tg :: tgs) X.env).map (·.2) = assign tg X.env :: (assignEach tgs X.env).map (·.2) := by rfl) : DGs g mp X (tg :: tgs) (sl ++ sl2) (gtCons t u) :=
  ⟨fun P ps hp => pgs_imp (pgs_cons (a.run P ps hp) (b.run P ps hp) hs) fun vs σ H Q ⟨e, ds, s, r, e', q, k⟩ => by
    unfold gtCons at q
    cases ds with
    | nil => cases q
    | cons d ds =>
      obtain ⟨v, rr, rfl, r1, r2⟩ := r
      have q : (t d e).bind (u ds) = some e' := q
      cases z : t d e with
      | none => rw [z] at q; cases q
      | some e1 =>
        rw [z] at q
        refine ⟨v, rr, rfl, e, d, s, r1, e1, z, fun σ1 H1 go1 o1 => ⟨e1, ds, go1.st, RepL.kp go1.kp _ _ r2, e', q, fun σ' H' go2 o2 => k _ _ (go1.trans go2) ((o1.mono fun j z => List.mem_append_left _ z).trans (o2.mono fun j z => List.mem_append_right _ z))⟩⟩⟩
theorem dg_tup {sl : List Nat} {t : List D → Env → Option Env} {n : Nat} {k : Nat} (hK : X.K = g.K) (hc : X.calm = true) (h : DGs g mp X tgs sl t) (hn : (assignEach tgs X.env).length = n := by rfl) (hst : (assignEach tgs X.env).findIdx? (·.1) = none := by rfl) : DG g mp X (.Tuple tgs k pos) sl (gtTup n t) :=
  ⟨fun P ps hp => pg_imp (pg_tup hc (h.run P ps hp) hn hst) fun v σ H Q ⟨e, d, s, r, e', q, kk⟩ => by
    cases d <;> first | (cases q; done) | skip
    rename_i ds
    obtain ⟨a, vs, rfl, hq, rr⟩ := r
    have q : (if ds.length = n then t ds e else none) = some e' := q
    split at q
    · rename_i hl
      exact ⟨a, vs, rfl, by rw [hK]; exact hq.sq, by rw [← rr.length]; exact hl, e, ds, s, rr, e', q, kk⟩
    · cases q⟩
theorem ds_asg {sl : List Nat} {ex : Expr} {fe : Env → R D} {t : D → Env → Option Env} (he : DE g mp X ex fe) (hg : DG g mp X tg sl t) (hs : swapsWithSole [tg] ex pos.line X.env = pure false := by rfl) (hw : swappedStores [tg] ex X.env = pure none := by rfl)
    (h1 : (assignEach [tg] X.env).map (·.2) = [assign tg X.env] := by rfl) : DS g mp X (.Assign [tg] ex pos) (sAsg fe t) :=
  ⟨fun P ps W hp tk => ps_imp (ps_asg (he.run P ps W hp tk) (hg.run P ps hp) hs hw h1) fun σ H Q q => by
    obtain ⟨e, s, q⟩ := tS_eq.mp q
    refine tD_of s (q.sB.mono fun d e1 H1 go1 z v rv => ?_)
    obtain ⟨e2, y, z⟩ := z.sO
    exact ⟨e1, d, go1.st, rv, e2, y, fun σ' H' go2 _ => z _ _ go2⟩⟩
/-- x = a new list of one's own -/
def sAsgM (i : Nat) (fm : Env → R (List D)) : Env → RS := fun e => sB (fm e) fun ds e1 => .nx (e1.set i (some (.m ds)))
theorem ds_asgM (i : Nat) {pos' : Pos} {ex : Expr} {fm : Env → R (List D)} (hN : X.N.Nodup) (he : DM g mp X ex fm) (hm : i ∉ mp := by decide) (hi : X.N[i]? = some x := by rfl) (hx : Loc X.env.scope x := by first | exact Or.inl rfl | exact Or.inr rfl)
    (hs : swapsWith ex (some (.Name x pos')) pos.line X.env = pure false := by rfl) (hf : X.fn x = true ∨ X.env.scope.names.lookup x = some .local := by first | exact .inl rfl | exact .inr rfl | assumption) : DS g mp X (.Assign [.Name x pos'] ex pos) (sAsgM i fm) :=
  ⟨fun P ps W hp tk => ⟨fun pins s0 σ H Dn I q => (ps_set hN hi hx (he.run P ps W hp tk) hs hf).run pins s0 σ H Dn I (by
    obtain ⟨e, s, q⟩ := tS_eq.mp q
    have hl : i < σ.length := by
      rw [I.len]
      exact (List.getElem?_eq_some_iff.mp hi).1
    refine ⟨e, s, ?_⟩
    unfold sAsgM at q
    revert q
    cases fm e with
    | ok ds e1 => exact fun q a H' gm => q _ _ (gm.setm hl (by rw [hp]; exact hm))
    | exc x e1 => exact fun q c d H' z r => q c d σ H' z r
    | bad => exact fun q => q)⟩⟩
end
end DL
end

section
set_option Elab.async false
set_option linter.all false
set_option maxRecDepth 100000
set_option maxHeartbeats 4000000
namespace DL
open PySem PySem.Spec PyProof.Rows L2

/-! ### a list of one's own, read and changed by its name -/
/-- the items of the list that slot i holds -/
def mAt (e : Env) (i : Nat) : Option (List D) := match e[i]? with
  | some (some (.m ds)) => some ds
  | _ => none
theorem mAt_some {e : Env} {i : Nat} {ds : List D} (h : mAt e i = some ds) : e[i]? = some (some (.m ds)) := by
  unfold mAt at h
  split at h
  · cases h; assumption
  · cases h
def dIxM (i : Nat) (fi : Env → R D) : Env → R D := fun e => bnd (opt (mAt e i) e) fun _ e => bnd (fi e) fun k e1 => bnd (opt (mAt e1 i) e1) fun ds e1 => opt (ixD (.lst ds) k) e1
def dLenM (i : Nat) : Env → R D := fun e => bnd (opt (mAt e i) e) fun ds e => .ok (.int ds.length) e
def dTupM (i : Nat) : Env → R D := fun e => bnd (opt (mAt e i) e) fun ds e => .ok (.tup ds) e
def sSetM (i : Nat) (fi fv : Env → R D) : Env → RS := fun e => sB (fv e) fun d e1 => sB (opt (mAt e1 i) e1) fun _ e1 => sB (fi e1) fun k e2 => sB (opt (mAt e2 i) e2) fun ds e2 => match k with
  | .int n => sO (ixN ds.length n) fun j => .nx (e2.set i (some (.m (ds.set j d))))
  | _ => .bad
def sApp (i : Nat) (fv : Env → R D) : Env → RS := fun e => sB (opt (mAt e i) e) fun _ e => sB (fv e) fun d e1 => sB (opt (mAt e1 i) e1) fun ds e1 => if ds.length < 16777216 then .nx (e1.set i (some (.m (ds ++ [d])))) else .bad
section
variable {g : G} {mp : List Nat} {X : Cx} {x : Str} {pos : Pos} {a b : Expr} {fa fb : Env → R D}
theorem PR.optM {P ps W e σ H} {α β : Type} {o : Option α} {f : α → Env → R β} {k : β → Env → Hp → Prop} (s : StRel g P ps e σ H) (h : PR g P ps W e σ H (DL.bnd (DL.opt o e) f) k) : ∃ d, o = some d ∧ PR g P ps W e σ H (f d e) k := by
  obtain ⟨d, q, h⟩ := PR.opt h.bnd
  exact ⟨d, q, h _ (Go.refl s)⟩
theorem PRS.optM {P ps W e σ H} {α : Type} {o : Option α} {f : α → Env → RS} {Dn : Ends} (s : StRel g P ps e σ H) (h : PRS g P ps W e σ H (DL.sB (DL.opt o e) f) Dn) : ∃ d, o = some d ∧ PRS g P ps W e σ H (f d e) Dn := by
  obtain ⟨d, q, h⟩ := PR.opt h.sB
  exact ⟨d, q, h _ (Go.refl s)⟩
theorem de_ixM (i : Nat) (hb : DE g mp X b fb) (hs : PlainIx b := by exact fun _ _ => rfl) (hN : X.N[i]? = some x := by rfl) (hv : Vis X.env.scope x := by first | exact Or.inl rfl | exact Or.inr (Or.inl rfl) | exact Or.inr (Or.inr rfl)) (hd : (x == ("__debug__" : Str)) = false := by decide)
    (hcd : (x == ("__classdict__" : Str)) = false := by decide) {p : Pos} : DE g mp X (.Subscript (.Name x p) b pos) (dIxM i fb) :=
  ⟨fun P ps W hp tk => pe_imp (pe_ix ix_list (pe_var hN hv hd hcd) (hb.run P ps W hp tk) hs) fun σ H Q h => by
    obtain ⟨e, s, h⟩ := tD_eq.mp h
    obtain ⟨ds0, q0, h⟩ := PR.optM s h
    obtain ⟨a, vs0, hσ, _⟩ := s.mm i ds0 (mAt_some q0)
    refine ⟨.ref a, hσ, tD_of s (h.bnd.mono fun k e1 H1 go1 z v rv => ?_)⟩
    obtain ⟨ds, q1, z⟩ := PR.optM go1.st z
    obtain ⟨a', vs, hσ', hH, hr, _⟩ := go1.st.mm i ds (mAt_some q1)
    rw [hσ] at hσ'
    cases hσ'
    obtain ⟨d, q2, z2⟩ := PR.opt z
    clear z h
    cases k <;> first | (cases q2; done) | skip
    obtain ⟨w, hw, rw'⟩ := hr.atI q2
    exact ⟨a, vs, _, w, rfl, rv, .inl (.inl hH), hw, z2 _ (Go.refl go1.st) _ rw'⟩⟩
theorem de_lenM (i : Nat) (hg : Gl X "len") (hm : X.mg "len" = none) (hN : X.N[i]? = some x := by rfl) (hv : Vis X.env.scope x := by first | exact Or.inl rfl | exact Or.inr (Or.inl rfl) | exact Or.inr (Or.inr rfl)) (hd : (x == ("__debug__" : Str)) = false := by decide)
    (hcd : (x == ("__classdict__" : Str)) = false := by decide) {p p2 : Pos} : DE g mp X (.Call (.Name "len" p) [.Name x p2] [] pos) (dLenM i) :=
  ⟨fun P ps W hp tk => pe_imp (pe_callB call_len hg hm PySem.boot_len (pa_cons (pe_var hN hv hd hcd) pa_nil)) fun σ H Q h => by
    obtain ⟨e, s, h⟩ := tD_eq.mp h
    obtain ⟨ds, q0, h⟩ := PR.optM s h
    obtain ⟨a, vs, hσ, hH, hr, _⟩ := s.mm i ds (mAt_some q0)
    exact ⟨.ref a, hσ, _, ds.length, rfl, .inl ⟨vs, .inl (.inl hH), by rw [hr.length]⟩, h _ (Go.refl s) _ rfl⟩⟩
theorem de_tupM (i : Nat) (hg : Gl X "tuple") (hm : X.mg "tuple" = none) (hN : X.N[i]? = some x := by rfl) (hv : Vis X.env.scope x := by first | exact Or.inl rfl | exact Or.inr (Or.inl rfl) | exact Or.inr (Or.inr rfl)) (hd : (x == ("__debug__" : Str)) = false := by decide)
    (hcd : (x == ("__classdict__" : Str)) = false := by decide) {p p2 : Pos} : DE g mp X (.Call (.Name "tuple" p) [.Name x p2] [] pos) (dTupM i) :=
  ⟨fun P ps W hp tk => pe_imp (pe_callTy call_tuple_of hg hm boot_tuple (pa_cons (pe_var hN hv hd hcd) pa_nil)) fun σ H Q h => by
    obtain ⟨e, s, h⟩ := tD_eq.mp h
    obtain ⟨ds, q0, h⟩ := PR.optM s h
    obtain ⟨a, vs, hσ, hH, hr, _⟩ := s.mm i ds (mAt_some q0)
    exact ⟨.ref a, hσ, a, vs, rfl, .inl ⟨.inl (.inl hH), fun l hl => h _ (Go.new s hl) _ (rep_tup (s.fresh hl) hl hr)⟩⟩⟩
theorem ds_setM (i : Nat) {ex : Expr} {fv : Env → R D} (hb : DE g mp X b fb) (he : DE g mp X ex fv) (hN : X.N[i]? = some x := by rfl) (hv : Vis X.env.scope x := by first | exact Or.inl rfl | exact Or.inr (Or.inl rfl) | exact Or.inr (Or.inr rfl)) (hd : (x == ("__debug__" : Str)) = false := by decide)
    (hcd : (x == ("__classdict__" : Str)) = false := by decide) {p p2 : Pos} (ha : ∀ v, assign (.Subscript (.Name x p) b p2) X.env v = (do
      let ov ← holding [v] (eval (.Name x p) X.env)
      let iv ← holding [v, ov] (eval b X.env)
      standAt p2
      holding [v, ov, iv] (setItem ov iv v)
      release [v, ov, iv] []) := by intro _; rfl) (hs : swapsWithSole [.Subscript (.Name x p) b p2] ex pos.line X.env = pure false := by rfl) (hw : swappedStores [.Subscript (.Name x p) b p2] ex X.env = pure none := by rfl)
    (h1 : (assignEach [.Subscript (.Name x p) b p2] X.env).map (·.2) = [assign (.Subscript (.Name x p) b p2) X.env] := by rfl) : DS g mp X (.Assign [.Subscript (.Name x p) b p2] ex pos) (sSetM i fb fv) :=
  ⟨fun P ps W hp tk => ps_imp (ps_asg (he.run P ps W hp tk) (pg_sub (pe_var hN hv hd hcd) (hb.run P ps W hp tk) set_list ha) hs hw h1) fun σ H Q q => by
    obtain ⟨e, s, q⟩ := tS_eq.mp q
    refine tD_of s (q.sB.mono fun d e1 H1 go1 z v rv => ?_)
    obtain ⟨ds0, q0, z⟩ := PRS.optM go1.st z
    obtain ⟨a, vs0, hσ, _⟩ := go1.st.mm i ds0 (mAt_some q0)
    refine ⟨.ref a, hσ, tD_of go1.st (z.sB.mono fun k e2 H2 go2 z u ru => ?_)⟩
    obtain ⟨ds, q1, z⟩ := PRS.optM go2.st z
    obtain ⟨a', vs, hσ', hH, hr, _⟩ := go2.st.mm i ds (mAt_some q1)
    rw [hσ] at hσ'
    cases hσ'
    cases k <;> first | exact z.elim | skip
    obtain ⟨j, q2, z2⟩ := PRS.sO z
    exact ⟨a, vs, _, j, rfl, ru, hH, by rw [← hr.length]; exact q2, z2 _ _ (go2.st.updm (mAt_some q1) hσ (hr.set j (Rep.kp go2.kp _ _ rv)))⟩⟩
theorem ds_app (i : Nat) {ex : Expr} {fv : Env → R D} {p apos cpos : Pos} (he : DE g mp X ex fv) (hN : X.N[i]? = some x := by rfl) (hv : Vis X.env.scope x := by first | exact Or.inl rfl | exact Or.inr (Or.inl rfl) | exact Or.inr (Or.inr rfl)) (hd : (x == ("__debug__" : Str)) = false := by decide)
    (hcd : (x == ("__classdict__" : Str)) = false := by decide) (hbase : attributeBase (.Name x p) "append" X.env (eval (.Name x p) X.env) = eval (.Name x p) X.env := by rfl)
    (hfew : ((backTo cpos (starEach (ex :: []) X.env)).all (fun x => !x.1) && (backToKw cpos (keywordEach [] X.env)).all (fun x => x.1.isSome)
      && decide ((ex :: []).length + ([] : List Keyword).length + (if ([] : List Keyword).isEmpty then 0 else 1) < 30)) = true := by rfl)
    (hline : (apos.endLine == cpos.line) = true := by rfl) (hst : starEach (ex :: []) X.env = (false, eval ex X.env) :: starEach [] X.env := by rfl) (hplain : (backTo cpos (starEach [] X.env)).any (·.1) = false := by rfl)
    (hs : swapsWith (.Call (.Attribute (.Name x p) "append" apos) [ex] [] cpos) none pos.line X.env = pure false := by rfl) : DS g mp X (.Expr (.Call (.Attribute (.Name x p) "append" apos) [ex] [] cpos) pos) (sApp i fv) :=
  ⟨fun P ps W hp tk => ps_imp (ps_expr (pe_bm PySem.F.plainAttrs_list PySem.F.slot_list_append PySem.F.type_list_append mt_append (pe_var hN hv hd hcd) (pa_cons (he.run P ps W hp tk) pa_nil hst) hbase hfew hline hst hplain) hs) fun σ H Q q => by
    obtain ⟨e, s, q⟩ := tS_eq.mp q
    obtain ⟨ds0, q0, z⟩ := PRS.optM s q
    obtain ⟨a, vs0, hσ, hH0, _⟩ := s.mm i ds0 (mAt_some q0)
    refine ⟨.ref a, hσ, .inl ⟨rfl, _, .inl (.inl hH0)⟩, tD_of s (z.sB.mono fun d e1 H1 go1 z v rv => ?_)⟩
    obtain ⟨ds, q1, z⟩ := PRS.optM go1.st z
    obtain ⟨a', vs, hσ', hH, hr, _⟩ := go1.st.mm i ds (mAt_some q1)
    rw [hσ] at hσ'
    cases hσ'
    by_cases hl : ds.length < 16777216
    · rw [if_pos hl] at z
      exact ⟨a, vs, v, rfl, rfl, hH, by rw [sizeLine_eq, ← hr.length]; exact hl, z _ _ (go1.st.updm (mAt_some q1) hσ (hr.append ⟨v, [], rfl, rv, rfl⟩))⟩
    · rw [if_neg hl] at z
      exact z.elim⟩
end

/-! ### new lists -/
/-- list(x) of a list or a tuple -/
def mList (f : Env → R D) : Env → R (List D) := fun e => bnd (f e) fun d e1 => match d with
  | .tup ds => .ok ds e1
  | .lst ds => .ok ds e1
  | _ => .bad
/-- the places of a slice -/
def cutD {α : Type} (xs : List α) (lo hi : Option Int) : List α := (xs.drop (HT.sIx xs.length 0 lo)).take (HT.sIx xs.length xs.length hi - HT.sIx xs.length 0 lo)
theorem RepL.cut {g : G} {H : Hp} {A : Addr → Prop} {ds : List D} {vs : List V} (r : RepL g H A ds vs) (lo hi : Option Int) : RepL g H A (cutD ds lo hi) (cutV vs lo hi) := by
  unfold cutD cutV
  rw [← r.length]
  exact (r.drop _).take _
def asI : D → Option Int
  | .int i => some i
  | _ => none
def pNo : Env → R (Option Int) := fun e => .ok none e
def pSome (f : Env → R D) : Env → R (Option Int) := fun e => bnd (f e) fun d e1 => bnd (opt (asI d) e1) fun i e1 => .ok (some i) e1
def tPO (g : G) (P : Addr → Prop) (ps : List (Nat × Addr)) (W : WX) (f : Env → R (Option Int)) : TO := fun σ H Q => ∃ e, StRel g P ps e σ H ∧ PR g P ps W e σ H (f e) (fun o e' H' => Q o H')
structure DO (g : G) (mp : List Nat) (X : Cx) (ex : Option Expr) (f : Env → R (Option Int)) : Prop where
  run : ∀ (P : Addr → Prop) (ps : List (Nat × Addr)) (W : WX), ps.map (·.1) = mp → Takes X W → PO X ex (tPO g P ps W f)
theorem po_imp {X : Cx} {ex : Option Expr} {t t' : TO} (h : PO X ex t) (m : ∀ σ H Q, t' σ H Q → t σ H Q) : PO X ex t' := ⟨fun pins s σ H Q I q => h.run pins s σ H Q I (m σ H Q q)⟩
/-- t[lo:hi] of a tuple -/
def dSlT (f : Env → R D) (lo hi : Env → R (Option Int)) : Env → R D := fun e => bnd (f e) fun d e1 => bnd (lo e1) fun l e2 => bnd (hi e2) fun h e3 => match d with
  | .tup ds => .ok (.tup (cutD ds l h)) e3
  | _ => .bad
/-- xs[lo:hi] of a list: a new one -/
def mSlL (f : Env → R D) (lo hi : Env → R (Option Int)) : Env → R (List D) := fun e => bnd (f e) fun d e1 => bnd (lo e1) fun l e2 => bnd (hi e2) fun h e3 => match d with
  | .lst ds => .ok (cutD ds l h) e3
  | _ => .bad
/-- xs + ys of lists -/
def mCat (fa fb : Env → R D) : Env → R (List D) := fun e => bnd (fa e) fun a e1 => bnd (fb e1) fun b e2 => match a, b with
  | .lst xs, .lst ys => if xs.length + ys.length ≤ 16777216 then .ok (xs ++ ys) e2 else .bad
  | _, _ => .bad
theorem HT_sIx_take {α : Type} (xs : List α) (lo hi : Option Int) (h : HT.sIx xs.length 0 lo = 0 ∧ HT.sIx xs.length xs.length hi = xs.length) : cutD xs lo hi = xs := by
  unfold cutD
  rw [h.1, h.2]
  simp
section
variable {g : G} {mp : List Nat} {X : Cx} {x : Str} {pos p2 : Pos} {a b : Expr} {fa fb : Env → R D} {lo hi : Option Expr} {fl fh : Env → R (Option Int)}
theorem do_none : DO g mp X none pNo := ⟨fun P ps W hp tk => po_imp po_none fun σ H Q ⟨e, s, h⟩ => h _ (Go.refl s)⟩
theorem do_some (ha : DE g mp X a fa) : DO g mp X (some a) (pSome fa) := ⟨fun P ps W hp tk => po_imp (po_some (ha.run P ps W hp tk)) fun σ H Q ⟨e, s, h⟩ => by
  refine tD_of s (h.bnd.mono fun d e1 H1 go1 z v rv => ?_)
  obtain ⟨i, q, z2⟩ := PR.optM go1.st z
  clear z h
  cases d <;> first | (cases q; done) | skip
  cases q
  exact ⟨_, rv, z2 _ (Go.refl go1.st)⟩⟩
theorem de_slT (hK : X.K = g.K) (ha : DE g mp X a fa) (hl : DO g mp X lo fl) (hh : DO g mp X hi fh) : DE g mp X (.Subscript a (.Slice lo hi none p2) pos) (dSlT fa fl fh) := ⟨fun P ps W hp tk => pe_imp (pe_slice sl_tupA (ha.run P ps W hp tk) (hl.run P ps W hp tk) (hh.run P ps W hp tk)) fun σ H Q h => by
  obtain ⟨e, s, h⟩ := tD_eq.mp h
  refine tD_of s (h.bnd.mono fun d e1 H1 go1 z v rv => ⟨e1, go1.st, z.bnd.mono fun l e2 H2 go2 z2 => ⟨e2, go2.st, z2.bnd.mono fun u e3 H3 go3 z3 => ?_⟩⟩)
  have rv := Rep.kp (go2.kp.trans go3.kp) _ _ rv
  clear z z2 h
  cases d <;> first | exact z3.elim | skip
  rename_i ds
  obtain ⟨p, vs, rfl, hq, rr⟩ := rv
  refine ⟨p, vs, rfl, by rw [hK]; exact hq.sq, fun w => ?_, fun _ p hp => ?_⟩
  · rw [← rr.length] at w
    have z4 := z3 _ (Go.refl go3.st) (.ref p)
    rw [HT_sIx_take _ l u w] at z4
    exact z4 ⟨p, vs, rfl, hq, rr⟩
  · exact z3 _ (Go.new go3.st hp) _ (rep_tup (go3.st.fresh hp) hp (rr.cut l u))⟩
theorem dm_slL (hK : X.K = g.K) (ha : DE g mp X a fa) (hl : DO g mp X lo fl) (hh : DO g mp X hi fh) : DM g mp X (.Subscript a (.Slice lo hi none p2) pos) (mSlL fa fl fh) := ⟨fun P ps W hp tk => pe_imp (pe_slice sl_list (ha.run P ps W hp tk) (hl.run P ps W hp tk) (hh.run P ps W hp tk)) fun σ H Q h => by
  obtain ⟨e, s, h⟩ := tM_eq.mp h
  refine tD_of s (h.bnd.mono fun d e1 H1 go1 z v rv => ⟨e1, go1.st, z.bnd.mono fun l e2 H2 go2 z2 => ⟨e2, go2.st, z2.bnd.mono fun u e3 H3 go3 z3 => ?_⟩⟩)
  have rv := Rep.kp (go2.kp.trans go3.kp) _ _ rv
  clear z z2 h
  cases d <;> first | exact z3.elim | skip
  obtain ⟨p, vs, rfl, hq, rr⟩ := rv
  exact ⟨p, vs, rfl, by rw [hK]; exact hq.sq, fun p hp => z3 _ _ (GoM.new go3.st hp (rr.cut l u))⟩⟩
theorem dm_list (hK : X.K = g.K) (hg : Gl X "list") (hm : X.mg "list" = none) {p : Pos} (ha : DE g mp X a fa) (he : starEach (a :: []) X.env = (false, eval a X.env) :: starEach [] X.env := by rfl) (hpl : (backTo pos (starEach [] X.env)).any (·.1) = false := by rfl) :
    DM g mp X (.Call (.Name "list" p) [a] [] pos) (mList fa) := ⟨fun P ps W hp tk => pe_imp (pe_callTy call_list_of hg hm boot_list (pa_cons (ha.run P ps W hp tk) pa_nil he) (by decide) (by decide) he hpl) fun σ H Q h => by
  obtain ⟨e, s, h⟩ := tM_eq.mp h
  refine tD_of s (h.bnd.mono fun d e1 H1 go1 z v rv => ?_)
  clear h
  cases d <;> first | exact z.elim | skip
  · obtain ⟨p, vs, rfl, hq, rr⟩ := rv
    exact ⟨p, vs, rfl, .inr (by rw [hK]; exact hq.sq), fun l hl => z _ _ (GoM.new go1.st hl rr)⟩
  · obtain ⟨p, vs, rfl, hq, rr⟩ := rv
    exact ⟨p, vs, rfl, .inl (by rw [hK]; exact hq.sq), fun l hl => z _ _ (GoM.new go1.st hl rr)⟩⟩
/-- xs + ys, of lists that are tracked or frozen -/
def rCatR (K : PySem.W.Frag) : R2 := fun x y H Q => ∃ l b xs zs, x = .ref l ∧ y = .ref b ∧ SqL K H l xs ∧ SqL K H b zs ∧ xs.length + zs.length ≤ sizeLine ∧ ∀ p, H p = none → Q (.ref p) (upd H p (.lst (xs ++ zs)))
theorem op_catR : OpR X (binaryOp .Add) (rCatR X.K) := by
  intro pins s σ H x y v u Q I rx ry h
  obtain ⟨l, b, xs, zs, rfl, rfl, hH, hB, hz, q⟩ := h
  cases rx
  cases ry
  obtain ⟨its, r, ⟨⟨c1, d1, t1, s1⟩, n1, ho, hc, hd, hs⟩, z⟩ := I.list hH
  obtain ⟨its2, r2, ⟨⟨c2, d2, t2, s2⟩, n2, ho2, hc2, hd2, hs2⟩, z2⟩ := I.list hB
  simp only at hc hd hs hc2 hd2 hs2
  subst hc hd hs hc2 hd2 hs2
  have ea : its.toArray ++ its2.toArray = (its ++ its2).toArray := by simp
  have l1 := r.length
  have l2 := r2.length
  refine concat_meets ⟨_, ho, rfl⟩ ⟨_, ho2, rfl⟩ noFill_list_add seq_list_add PySem.F.slot_list_add PySem.F.entry_list_add (PySem.F.args_list_add_2 _ _) (list_addW l b its.toArray its2.toArray n1 n2 none none s1 s2 (by rw [List.size_toArray, List.size_toArray]; omega)) ⟨ho, ho2, ?_⟩
  rw [ea]
  exact ⟨.ref _, _, I.lnew (t' := s.toks) (r.append r2) (by rw [List.length_append]; omega), rfl, q _ I.fresh⟩
theorem dm_cat (hK : X.K = g.K) (ha : DE g mp X a fa) (hb : DE g mp X b fb) : DM g mp X (.BinOp a .Add b pos) (mCat fa fb) := ⟨fun P ps W hp tk => pe_imp (pe_op op_catR (ha.run P ps W hp tk) (hb.run P ps W hp tk)) fun σ H Q h => by
  obtain ⟨e, s, h⟩ := tM_eq.mp h
  refine tD_of s (h.bnd.mono fun d e1 H1 go1 z v rv => tD_of go1.st (z.bnd.mono fun d2 e2 H2 go2 z2 v2 rv2 => ?_))
  have rv' := Rep.kp go2.kp _ _ rv
  clear z h rv
  cases d <;> first | exact z2.elim | skip
  cases d2 <;> first | exact z2.elim | skip
  rename_i xs ys
  obtain ⟨p, vs, rfl, hq, rr⟩ := rv'
  obtain ⟨p2, vs2, rfl, hq2, rr2⟩ := rv2
  have z2 : PM g P ps W e2 σ H2 (if xs.length + ys.length ≤ 16777216 then .ok (xs ++ ys) e2 else .bad) Q := z2
  split at z2
  · rename_i hz
    exact ⟨p, p2, vs, vs2, rfl, rfl, by rw [hK]; exact hq.sq, by rw [hK]; exact hq2.sq, by rw [sizeLine_eq, ← rr.length, ← rr2.length]; exact hz, fun l hl => z2 _ _ (GoM.new go2.st hl (rr.append rr2))⟩
  · exact z2.elim⟩
end
end DL
end

section
set_option Elab.async false
set_option linter.all false
set_option maxRecDepth 100000
set_option maxHeartbeats 4000000
namespace DL
open PySem PySem.Spec PyProof.Rows L2

/-! ### what is walked -/
structure ItOk (g : G) (P : Addr → Prop) (ps : List (Nat × Addr)) (e : Env) (σ : L2.St) (H : Hp) (J : It) (ds : List D) : Prop where
  go : ∀ (i : Nat) (d : D), ds[i]? = some d → ∀ P1 e1 σ1 H1, StRel g P1 ps e1 σ1 H1 → Kp (Av P e σ) H (Av P1 e1 σ1) H1 → J.go i H1 ∧ ∀ x H2, J.yld i H1 x H2 → Same H1 H2 ∧ Rep g H2 (Av P1 e1 σ1) d x
  stop : ∀ P1 e1 σ1 H1, StRel g P1 ps e1 σ1 H1 → Kp (Av P e σ) H (Av P1 e1 σ1) H1 → J.stop ds.length H1
def tI (g : G) (P : Addr → Prop) (ps : List (Nat × Addr)) (W : WX) (f : Env → R (List D)) : TI := fun σ H R => ∃ e, StRel g P ps e σ H ∧ PR g P ps W e σ H (f e) (fun ds e' H' => ∀ J, ItOk g P ps e' σ H' J ds → R J H')
structure DI (g : G) (mp : List Nat) (X : Cx) (tg iter : Expr) (f : Env → R (List D)) : Prop where
  run : ∀ (P : Addr → Prop) (ps : List (Nat × Addr)) (W : WX), ps.map (·.1) = mp → Takes X W → PI X tg iter (tI g P ps W f)
theorem pi_imp {X : Cx} {tg iter : Expr} {t t' : TI} (h : PI X tg iter t) (m : ∀ σ H R, t' σ H R → t σ H R) : PI X tg iter t' := ⟨fun pins s σ H R I q => h.run pins s σ H R I (m σ H R q)⟩
def iSeq (K : PySem.W.Frag) (tl : TE) : TI := fun σ H R => tl σ H fun x H1 => ∃ a, x = .ref a ∧ (((∃ xs, SqL K H1 a xs) ∧ R (Itl K a) H1) ∨ ((∃ xs, SqT K H1 a xs) ∧ R (Itt K a) H1))
theorem pi_seq {X : Cx} {tg l : Expr} {tl : TE} (hl : PE X l tl) : PI X tg l (iSeq X.K tl) := by
  refine ⟨fun pins s σ H R I h => ?_⟩
  refine thn (hl.run pins s σ H _ I h) fun v s1 ⟨x, H1, I1, r1, q1⟩ => ?_
  obtain ⟨a, e, q1⟩ := q1
  subst e
  cases r1
  have hfp : ∀ b ∈ [s1.heap.objs.size], FpOk X pins H1 b := fun b hb => by
    have e : b = s1.heap.objs.size := by simpa using hb
    subst e
    exact I1.fpOk (Nat.le_refl _) (I1.hok.fresh (Nat.le_refl _))
  rcases q1 with ⟨⟨xs, hq⟩, q⟩ | ⟨⟨xs, hq⟩, q⟩
  · obtain ⟨its, rv, p, hz⟩ := I1.list hq
    refine wpAny_pyIter_list p.isList ?_
    exact ⟨s1.heap.objs.size, [s1.heap.objs.size], _, _, H1, rfl, I1.kept (t' := s1.toks) fun b o e => Heap.get?_push_of_some _ e, turn_list a _, ⟨_, Heap.get?_push_size _ rfl, rfl, rfl⟩, hfp, q⟩
  · obtain ⟨its, rv, p, hz⟩ := I1.tuple hq
    refine wpAny_pyIter_tuple (show s1.heap.IsTuple a its.toArray from p) ?_
    exact ⟨s1.heap.objs.size, [s1.heap.objs.size], _, _, H1, rfl, I1.kept (t' := s1.toks) fun b o e => Heap.get?_push_of_some _ e, turn_tuple a _, ⟨_, Heap.get?_push_size _ rfl, rfl, rfl⟩, hfp, q⟩
/-- the items of a list or a tuple -/
def itemsD : D → Option (List D)
  | .tup ds => some ds
  | .lst ds => some ds
  | _ => none
def iItems1 (f : Env → R D) : Env → R (List D) := fun e => bnd (f e) fun d e1 => opt (itemsD d) e1
/-- 0, 1, .. -/
def rangeL (lo : Int) (n : Nat) : List D := (List.range n).map fun i => .int (lo + (i : Nat))
def wide62 (i : Int) : Bool := decide (-(2 ^ 62) ≤ i) && decide (i < 2 ^ 62)
def iRange1 (f : Env → R D) : Env → R (List D) := fun e => bnd (f e) fun d e1 => bnd (opt (asI d) e1) fun j e1 => if wide62 j then .ok (rangeL 0 j.toNat) e1 else .bad
def iRange2 (fa fb : Env → R D) : Env → R (List D) := fun e => bnd (fa e) fun a e1 => bnd (fb e1) fun b e2 => bnd (opt (asI a) e2) fun i e2 => bnd (opt (asI b) e2) fun j e2 => if wide62 i && wide62 j then .ok (rangeL i (j - i).toNat) e2 else .bad
theorem rangeL_length {lo : Int} {n : Nat} : (rangeL lo n).length = n := by unfold rangeL; rw [List.length_map, List.length_range]
theorem rangeL_get {lo : Int} {n i : Nat} {d : D} (h : (rangeL lo n)[i]? = some d) : i < n ∧ d = .int (lo + (i : Nat)) := by
  unfold rangeL at h
  rw [List.getElem?_map] at h
  by_cases hi : i < n
  · rw [List.getElem?_range hi] at h
    cases h
    exact ⟨hi, rfl⟩
  · rw [List.getElem?_eq_none (by rw [List.length_range]; omega)] at h
    cases h
section
variable {g : G} {P : Addr → Prop} {ps : List (Nat × Addr)} {e : Env} {σ : L2.St} {H : Hp}
theorem itOk_list {K : PySem.W.Frag} (hK : K = g.K) {a : Addr} {vs : List V} {ds : List D} (hq : QL g H (Av P e σ) a vs) (r : RepL g H (Av P e σ) ds vs) : ItOk g P ps e σ H (Itl K a) ds where
  go := fun i d h P1 e1 σ1 H1 st1 kp1 => by
    have hq1 := (hq.kp kp1).sq
    rw [← hK] at hq1
    obtain ⟨v, hv, rv⟩ := (RepL.kp kp1 _ _ r).at h
    refine ⟨⟨vs, v, hq1, hv⟩, fun x H2 y => ?_⟩
    obtain ⟨rfl, y⟩ := y
    have z := y vs hq1
    rw [hv] at z
    cases z
    exact ⟨Same.refl _, rv⟩
  stop := fun P1 e1 σ1 H1 st1 kp1 => by
    have hq1 := (hq.kp kp1).sq
    rw [← hK] at hq1
    exact ⟨vs, hq1, by rw [r.length]; exact Nat.le_refl _⟩
theorem itOk_tup {K : PySem.W.Frag} (hK : K = g.K) {a : Addr} {vs : List V} {ds : List D} (hq : QT g H (Av P e σ) a vs) (r : RepL g H (Av P e σ) ds vs) : ItOk g P ps e σ H (Itt K a) ds where
  go := fun i d h P1 e1 σ1 H1 st1 kp1 => by
    have hq1 := (hq.kp kp1).sq
    rw [← hK] at hq1
    obtain ⟨v, hv, rv⟩ := (RepL.kp kp1 _ _ r).at h
    refine ⟨⟨vs, v, hq1, hv⟩, fun x H2 y => ?_⟩
    obtain ⟨rfl, y⟩ := y
    have z := y vs hq1
    rw [hv] at z
    cases z
    exact ⟨Same.refl _, rv⟩
  stop := fun P1 e1 σ1 H1 st1 kp1 => by
    have hq1 := (hq.kp kp1).sq
    rw [← hK] at hq1
    exact ⟨vs, hq1, by rw [r.length]; exact Nat.le_refl _⟩
theorem itOk_range {lo : Int} {n : Nat} (s : StRel g P ps e σ H) : ItOk g P ps e σ H (Itr lo n) (rangeL lo n) where
  go := fun i d h P1 e1 σ1 H1 st1 kp1 => by
    obtain ⟨hi, rfl⟩ := rangeL_get h
    refine ⟨hi, fun x H2 y => ?_⟩
    obtain ⟨rfl, rfl⟩ := y
    exact ⟨Same.refl _, rfl⟩
  stop := fun P1 e1 σ1 H1 st1 kp1 => by rw [rangeL_length]; exact Nat.le_refl _
end
section
variable {g : G} {mp : List Nat} {X : Cx} {tg : Expr} {a b : Expr} {fa fb : Env → R D}
theorem di_seq (hK : X.K = g.K) (ha : DE g mp X a fa) : DI g mp X tg a (iItems1 fa) := ⟨fun P ps W hp tk => pi_imp (pi_seq (ha.run P ps W hp tk)) fun σ H R ⟨e, s, h⟩ => by
  refine tD_of s (h.bnd.mono fun d e1 H1 go1 z v rv => ?_)
  obtain ⟨ds, q, z2⟩ := PR.opt z
  have z2 := z2 _ (Go.refl go1.st)
  clear z h
  cases d <;> first | (cases q; done) | skip
  · cases q
    obtain ⟨p, vs, rfl, hq, rr⟩ := rv
    exact ⟨p, rfl, .inr ⟨⟨vs, by rw [hK]; exact hq.sq⟩, z2 _ (itOk_tup hK hq rr)⟩⟩
  · cases q
    obtain ⟨p, vs, rfl, hq, rr⟩ := rv
    exact ⟨p, rfl, .inl ⟨⟨vs, by rw [hK]; exact hq.sq⟩, z2 _ (itOk_list hK hq rr)⟩⟩⟩
theorem wide62_ok {i : Int} (h : wide62 i = true) : -(2 ^ 62) ≤ i ∧ i < 2 ^ 62 := by
  unfold wide62 at h
  rw [Bool.and_eq_true, decide_eq_true_eq, decide_eq_true_eq] at h
  exact h
theorem di_range1 {p pos : Pos} (hg : Gl X "range") (hm : X.mg "range" = none) (ha : DE g mp X a fa) (hs : starEach [a] X.env = [(false, eval a X.env)] := by rfl) (hs1 : starEach (a :: []) X.env = (false, eval a X.env) :: starEach [] X.env := by rfl) : DI g mp X tg (.Call (.Name "range" p) [a] [] pos) (iRange1 fa) := ⟨fun P ps W hp tk => pi_imp (pi_range1 hg hm (pa_cons (ha.run P ps W hp tk) pa_nil hs1) hs) fun σ H R ⟨e, s, h⟩ => by
  refine tD_of s (h.bnd.mono fun d e1 H1 go1 z v rv => ?_)
  obtain ⟨j, q, z2⟩ := PR.optM go1.st z
  clear z h
  cases d <;> first | (cases q; done) | skip
  cases q
  by_cases hw : wide62 j = true
  · rw [if_pos hw] at z2
    obtain ⟨w1, w2⟩ := wide62_ok hw
    exact ⟨j, by rw [show v = .int j from rv], w1, w2, z2 _ (Go.refl go1.st) _ (itOk_range go1.st)⟩
  · rw [if_neg hw] at z2
    exact z2.elim⟩
theorem di_range2 {p pos : Pos} (hg : Gl X "range") (hm : X.mg "range" = none) (ha : DE g mp X a fa) (hb : DE g mp X b fb) (hs : starEach [a, b] X.env = [(false, eval a X.env), (false, eval b X.env)] := by rfl) (hs2 : starEach [b] X.env = [(false, eval b X.env)] := by rfl)
    (hs1 : starEach (a :: [b]) X.env = (false, eval a X.env) :: starEach [b] X.env := by rfl) (hs3 : starEach (b :: []) X.env = (false, eval b X.env) :: starEach [] X.env := by rfl) : DI g mp X tg (.Call (.Name "range" p) [a, b] [] pos) (iRange2 fa fb) := ⟨fun P ps W hp tk => pi_imp (pi_range2 hg hm (pa_cons (ha.run P ps W hp tk) (pa_cons (hb.run P ps W hp tk) pa_nil hs3) hs1) hs hs2) fun σ H R ⟨e, s, h⟩ => by
  refine tD_of s (h.bnd.mono fun d e1 H1 go1 z v rv => tD_of go1.st (z.bnd.mono fun d2 e2 H2 go2 z2 v2 rv2 => ?_))
  obtain ⟨i, q, z3⟩ := PR.optM go2.st z2
  obtain ⟨j, q2, z4⟩ := PR.optM go2.st z3
  clear z z2 z3 h
  cases d <;> first | (cases q; done) | skip
  cases q
  cases d2 <;> first | (cases q2; done) | skip
  cases q2
  by_cases hw : (wide62 i && wide62 j) = true
  · rw [if_pos hw] at z4
    rw [Bool.and_eq_true] at hw
    obtain ⟨w1, w2⟩ := wide62_ok hw.1
    obtain ⟨w3, w4⟩ := wide62_ok hw.2
    exact ⟨i, j, by rw [show v = .int i from rv, show v2 = .int j from rv2], ⟨w1, w2, w3, w4⟩, z4 _ (Go.refl go2.st) _ (itOk_range go2.st)⟩
  · rw [if_neg hw] at z4
    exact z4.elim⟩
end

/-! ### for -/
def forL (t : D → Env → Option Env) (body : Env → RS) : List D → Env → RS
  | [], e => .nx e
  | d :: ds, e => sO (t d e) fun e1 => match body e1 with
    | .nx e2 => forL t body ds e2
    | .ct e2 => forL t body ds e2
    | .bk e2 => .nx e2
    | r => r
def sFor (f : Env → R (List D)) (t : D → Env → Option Env) (body : Env → RS) : Env → RS := fun e => sB (f e) fun ds e1 => forL t body ds e1
section
variable {g : G} {mp : List Nat} {X : Cx} {tg iter : Expr} {body : List Stmt} {f : Env → R (List D)} {sl : List Nat} {t : D → Env → Option Env} {fb : Env → RS} {pos : Pos}
theorem drop_get {α : Type} {l : List α} {i : Nat} {a : α} (h : l[i]? = some a) : l.drop i = a :: l.drop (i + 1) := by
  obtain ⟨hl, e⟩ := List.getElem?_eq_some_iff.mp h
  rw [← e]
  exact List.drop_eq_getElem_cons hl
theorem ds_for (hpo : PassesOwn (model X.prog X.w) X.A X.env X.xe) (hc : X.calm = true) (hi : DI g mp X tg iter f) (hg : DG g mp X tg sl t) (hb : DSs g mp X body fb) (hs : ∀ x, foldedSetIterable iter X.env x = pure x := by intro _; rfl) :
    DS g mp X (.For tg iter body [] pos) (sFor f t fb) := ⟨fun P ps W hp tk => ps_imp (ps_for hpo hc (hi.run P ps W hp tk) (hg.run P ps hp) (hb.run P ps W hp tk) hs) fun σ H Dn q => by
  obtain ⟨e, s, q⟩ := tS_eq.mp q
  refine ⟨e, s, q.sB.mono fun ds e1 H1 go1 z J ok => ?_⟩
  refine ⟨fun i m σ2 H2 => m = ds.length - i ∧ i ≤ ds.length ∧ ∃ e2, Go g P ps e1 σ H1 e2 σ2 H2 ∧ PRS g P ps W e2 σ2 H2 (forL t fb (ds.drop i) e2) Dn, ⟨_, rfl, Nat.zero_le _, e1, Go.refl go1.st, z⟩, ?_⟩
  rintro i m σ2 H2 ⟨rfl, hi, e2, go2, z⟩
  by_cases hlt : i < ds.length
  · obtain ⟨d, hd⟩ : ∃ d, ds[i]? = some d := ⟨ds[i], List.getElem?_eq_getElem hlt⟩
    obtain ⟨ok1, ok2⟩ := ok.go i d hd P e2 σ2 H2 go2.st go2.kp
    rw [drop_get hd] at z
    refine .inr ⟨ok1, fun σ3 H3 => ∃ e3, Go g P ps e1 σ H1 e3 σ3 H3 ∧ PRS g P ps W e3 σ3 H3 (forL t fb (ds.drop (i + 1)) e3) Dn, fun σ3 H3 ⟨e3, go3, z3⟩ => ⟨ds.length - (i + 1), by omega, rfl, hlt, e3, go3, z3⟩, fun x H3 y => ?_⟩
    obtain ⟨sm3, rx⟩ := ok2 x H3 y
    have go3 := Go.same go2.st sm3
    have z : PRS g P ps W e2 σ2 H2 (sO (t d e2) fun e1 => match fb e1 with
      | .nx e2 => forL t fb (ds.drop (i + 1)) e2
      | .ct e2 => forL t fb (ds.drop (i + 1)) e2
      | .bk e2 => .nx e2
      | r => r) Dn := z
    obtain ⟨e4, q4, z⟩ := z.sO
    refine ⟨e2, d, go3.st, rx, e4, q4, fun σ4 H4 go4 _ => ?_⟩
    have gt := go2.trans (go3.trans go4)
    refine tS_eq.mpr ⟨e4, go4.st, ?_⟩
    have z := PRS.shift z (go3.trans go4)
    revert z
    cases fb e4 with
    | nx e5 => exact fun z σ5 H5 go5 => ⟨e5, gt.trans go5, PRS.shift z go5⟩
    | ct e5 => exact fun z σ5 H5 go5 => ⟨e5, gt.trans go5, PRS.shift z go5⟩
    | bk e5 => exact fun z σ5 H5 go5 => z σ5 H5 go5
    | rt sl e5 => cases sl <;> exact fun z => z
    | exc x e5 => exact fun z => z
    | bad => exact fun z => z
  · have e9 : i = ds.length := by omega
    subst e9
    rw [List.drop_length] at z
    exact .inl ⟨ok.stop P e2 σ2 H2 go2.st go2.kp, z _ _ (Go.refl go2.st)⟩⟩
end
end DL
end

section
set_option Elab.async false
set_option linter.all false
set_option maxRecDepth 100000
set_option maxHeartbeats 4000000
namespace DL
open PySem PySem.Spec PyProof.Rows L2

/-! ### comprehensions -/
/-- the block's own names forgotten -/
def wipeE (e : Env) : List Nat → Env
  | [] => e
  | v :: vs => (wipeE e vs).set v none
/-- .. and as they were -/
def backE (e e0 : Env) : List Nat → Env
  | [] => e
  | v :: vs => (backE e e0 vs).set v (e0[v]?.getD none)
def noM (e : Env) (v : Nat) : Bool := match e[v]? with
  | some (some (.m _)) => false
  | _ => true
def compL (vs : List Nat) (t : D → Env → Option Env) (tt : Env → R Bool) (fe : Env → R D) : List D → Env → R (List D)
  | [], e => .ok [] e
  | d :: ds, e => bnd (opt (t d e) e) fun e1 _ => bnd (tt e1) fun k e2 =>
      if k = true then bnd (fe e2) fun y e3 => bnd (compL vs t tt fe ds (wipeE e3 vs)) fun r e4 => .ok (y :: r) e4
      else compL vs t tt fe ds (wipeE e2 vs)
def mComp (vs : List Nat) (fi : Env → R (List D)) (t : D → Env → Option Env) (tt : Env → R Bool) (fe : Env → R D) : Env → R (List D) := fun e => bnd (fi e) fun ds e1 =>
  if vs.all (noM e1) = true ∧ ds.length < 16777216 then match compL vs t tt fe ds (wipeE e1 vs) with
    | .ok r e2 => .ok r (backE e2 e1 vs)
    | _ => .bad
  else .bad
def bTrue : Env → R Bool := fun e => .ok true e
theorem wipeE_length (e : Env) : ∀ vs, (wipeE e vs).length = e.length
  | [] => rfl
  | v :: vs => by unfold wipeE; rw [List.length_set, wipeE_length e vs]
theorem backE_length (e e0 : Env) : ∀ vs, (backE e e0 vs).length = e.length
  | [] => rfl
  | v :: vs => by unfold backE; rw [List.length_set, backE_length e e0 vs]
theorem wipeE_get {e : Env} {i : Nat} {s : Slot} : ∀ {vs : List Nat}, (wipeE e vs)[i]? = some (some s) → e[i]? = some (some s) ∧ i ∉ vs
  | [], h => ⟨h, by simp⟩
  | v :: vs, h => by
    unfold wipeE at h
    rcases set_get h with ⟨_, z, _⟩ | ⟨hj, h⟩
    · cases z
    · obtain ⟨h1, h2⟩ := wipeE_get h
      exact ⟨h1, by simp only [List.mem_cons, not_or]; exact ⟨fun z => hj z.symm, h2⟩⟩
theorem wipeE_out {e : Env} {i : Nat} : ∀ {vs : List Nat}, i ∉ vs → (wipeE e vs)[i]? = e[i]?
  | [], _ => rfl
  | v :: vs, h => by
    simp only [List.mem_cons, not_or] at h
    unfold wipeE
    rw [List.getElem?_set_ne (fun z => h.1 z.symm)]
    exact wipeE_out h.2
theorem wipe_out1 {σ : L2.St} {i : Nat} : ∀ {vs : List Nat}, i ∉ vs → (wipe σ vs)[i]? = σ[i]?
  | [], _ => rfl
  | v :: vs, h => by
    simp only [List.mem_cons, not_or] at h
    unfold wipe
    rw [List.getElem?_set_ne (fun z => h.1 z.symm)]
    exact wipe_out1 h.2
theorem backE_out {e e0 : Env} {i : Nat} : ∀ {vs : List Nat}, i ∉ vs → (backE e e0 vs)[i]? = e[i]?
  | [], _ => rfl
  | v :: vs, h => by
    simp only [List.mem_cons, not_or] at h
    unfold backE
    rw [List.getElem?_set_ne (fun z => h.1 z.symm)]
    exact backE_out h.2
theorem backE_in {e e0 : Env} {i : Nat} : ∀ {vs : List Nat}, i ∈ vs → i < e.length → (backE e e0 vs)[i]? = some (e0[i]?.getD none)
  | v :: vs, h, hl => by
    unfold backE
    by_cases hv : v = i
    · subst hv
      rw [List.getElem?_set_self (by rw [backE_length]; exact hl)]
    · rw [List.getElem?_set_ne hv]
      rcases List.mem_cons.mp h with z | z
      · exact absurd z.symm hv
      · exact backE_in z hl
theorem noM_not {e : Env} {vs : List Nat} (h : vs.all (noM e) = true) {v : Nat} (hv : v ∈ vs) {ds : List D} : e[v]? ≠ some (some (.m ds)) := fun z => by
  have := List.all_eq_true.mp h v hv
  unfold noM at this
  rw [z] at this
  cases this

section
variable {g : G} {P : Addr → Prop} {ps : List (Nat × Addr)} {e e1 : Env} {σ σ1 : L2.St} {H H1 : Hp} {vs : List Nat}
/-- the names of the block forgotten: nothing that is one's own is lost -/
theorem StRel.wipe (s : StRel g P ps e σ H) (h : ∀ p ∈ ps, p.1 ∉ vs) : Go g P ps e σ H (wipeE e vs) (L2.wipe σ vs) H := by
  have sub : ∀ b, isM (wipeE e vs) (L2.wipe σ vs) b → isM e σ b := by
    rintro b ⟨j, es, q1, q2⟩
    obtain ⟨q1, hj⟩ := wipeE_get q1
    rw [wipe_out1 hj] at q2
    exact ⟨j, es, q1, q2⟩
  have subA : ∀ b, Av P (wipeE e vs) (L2.wipe σ vs) b → Av P e σ b := fun b z => z.elim .inl fun z => .inr (sub b z)
  refine ⟨⟨by rw [wipeE_length, wipe_length]; exact s.len, fun j d q => ?_, fun j es q => ?_, fun j l b es fs q1 q2 r1 r2 => ?_, s.prv, fun p hp => ?_, s.tb⟩, fun b o q n => ⟨q, fun z => n.1 (subA b z)⟩, fun _ _ => rfl⟩
  · obtain ⟨q, hj⟩ := wipeE_get q
    obtain ⟨v, h1, h2⟩ := s.vv j d q
    exact ⟨v, by rw [wipe_out1 hj]; exact h1, Rep.mono subA h2⟩
  · obtain ⟨q, hj⟩ := wipeE_get q
    obtain ⟨a, us, h1, h2, h3, h4⟩ := s.mm j es q
    exact ⟨a, us, by rw [wipe_out1 hj]; exact h1, h2, RepL.mono subA h3, h4⟩
  · obtain ⟨q1, hj⟩ := wipeE_get q1
    obtain ⟨q2, hl⟩ := wipeE_get q2
    rw [wipe_out1 hj] at r1
    rw [wipe_out1 hl] at r2
    exact s.inj j l b es fs q1 q2 r1 r2
  · obtain ⟨h1, ds, h2⟩ := s.par p hp
    have hj : p.1 ∉ vs := h p hp
    exact ⟨by rw [wipe_out1 hj]; exact h1, ds, by rw [wipeE_out hj]; exact h2⟩
/-- behind the block -/
theorem GoM.unwipe {a : Addr} {ds : List D} {us : List V} (s0 : StRel g P ps e σ H) (hv : vs.all (noM e) = true) (s1 : StRel g (Pl P a) ps e1 (L2.wipe σ vs) H1) (k : Kp (Av P e σ) H (Av (Pl P a) e1 (L2.wipe σ vs)) H1)
    (pr : ∀ b, P b → H1 b = H b) (np : ¬ P a) (ha : H1 a = some (.lst us)) (r : RepL g H1 (Av (Pl P a) e1 (L2.wipe σ vs)) ds us) : GoM g P ps e σ H a ds (backE e1 e vs) σ H1 := by
  have hlen : e1.length = σ.length := by rw [s1.len, wipe_length]
  have out : ∀ (j : Nat) (es : List D), (backE e1 e vs)[j]? = some (some (.m es)) → j ∉ vs ∧ e1[j]? = some (some (.m es)) := fun j es q => by
    by_cases hj : j ∈ vs
    · have hl : j < e1.length := by
        cases Nat.lt_or_ge j e1.length with
        | inl h => exact h
        | inr h => rw [List.getElem?_eq_none (by rw [backE_length]; exact h)] at q; cases q
      rw [backE_in hj hl] at q
      have q := Option.some.inj q
      cases z : e[j]? with
      | none => rw [z] at q; cases q
      | some o =>
        rw [z] at q
        cases o with
        | none => cases q
        | some sl =>
          have q : some sl = some (.m es) := q
          rw [q] at z
          exact absurd z (noM_not hv hj)
    · rw [backE_out hj] at q
      exact ⟨hj, q⟩
  have sub : ∀ b, isM (backE e1 e vs) σ b → isM e1 (L2.wipe σ vs) b := by
    rintro b ⟨j, es, q1, q2⟩
    obtain ⟨hj, q1⟩ := out j es q1
    exact ⟨j, es, q1, by rw [wipe_out1 hj]; exact q2⟩
  have subA : ∀ b, Av (Pl P a) (backE e1 e vs) σ b → Av (Pl P a) e1 (L2.wipe σ vs) b := fun b z => z.elim .inl fun z => .inr (sub b z)
  have k' : Kp (Av P e σ) H (Av (Pl P a) (backE e1 e vs) σ) H1 := fun b o q n => ⟨(k b o q n).1, fun z => (k b o q n).2 (subA b z)⟩
  refine ⟨⟨by rw [backE_length]; exact hlen, fun j d q => ?_, fun j es q => ?_, fun j l b es fs q1 q2 r1 r2 => ?_, s1.prv, fun p hp => ?_, s1.tb⟩, k', pr, np, us, ha, RepL.mono subA r⟩
  · by_cases hj : j ∈ vs
    · have hl : j < e1.length := by
        cases Nat.lt_or_ge j e1.length with
        | inl h => exact h
        | inr h => rw [List.getElem?_eq_none (by rw [backE_length]; exact h)] at q; cases q
      rw [backE_in hj hl] at q
      have q := Option.some.inj q
      have z : e[j]? = some (some (.v d)) := by
        cases z : e[j]? with
        | none => rw [z] at q; cases q
        | some o => rw [z] at q; exact congrArg some q
      obtain ⟨v, h1, h2⟩ := s0.vv j d z
      exact ⟨v, h1, Rep.kp k' _ _ h2⟩
    · rw [backE_out hj] at q
      obtain ⟨v, h1, h2⟩ := s1.vv j d q
      rw [wipe_out1 hj] at h1
      exact ⟨v, h1, Rep.mono subA h2⟩
  · obtain ⟨hj, q⟩ := out j es q
    obtain ⟨b, ws, h1, h2, h3, h4⟩ := s1.mm j es q
    rw [wipe_out1 hj] at h1
    exact ⟨b, ws, h1, h2, RepL.mono subA h3, h4⟩
  · obtain ⟨hj, q1⟩ := out j es q1
    obtain ⟨hl, q2⟩ := out l fs q2
    exact s1.inj j l b es fs q1 q2 (by rw [wipe_out1 hj]; exact r1) (by rw [wipe_out1 hl]; exact r2)
  · obtain ⟨h1, es, h2⟩ := s0.par p hp
    have hj : p.1 ∉ vs := fun z => noM_not hv z h2
    obtain ⟨_, es2, h3⟩ := s1.par p hp
    exact ⟨h1, es2, by rw [backE_out hj]; exact h3⟩
end
structure DTs (g : G) (mp : List Nat) (X : Cx) (ifs : List Expr) (f : Env → R Bool) : Prop where
  run : ∀ (P : Addr → Prop) (ps : List (Nat × Addr)) (W : WX), ps.map (·.1) = mp → Takes X W → PTs X ifs (tB g P ps W f)
theorem pts_imp {X : Cx} {ifs : List Expr} {t t' : TT} (h : PTs X ifs t) (m : ∀ σ H Q, t' σ H Q → t σ H Q) : PTs X ifs t' := ⟨fun pins s σ H Q I q => h.run pins s σ H Q I (m σ H Q q)⟩
theorem dts_nil {g mp X} : DTs g mp X [] bTrue := ⟨fun P ps W hp tk => pts_imp pts_nil fun σ H Q h => by
  obtain ⟨e, s, h⟩ := tB_eq.mp h
  exact h _ (Go.refl s)⟩
theorem dts_one {g mp X} {c : Expr} {f : Env → R Bool} (h : DB g mp X c f) : DTs g mp X [c] f := ⟨fun P ps W hp tk => pts_one (h.run P ps W hp tk)⟩
section
variable {g : G} {mp : List Nat} {X : Cx} {elt tg iter : Expr} {ifs : List Expr} {scope : Scope} {own : List (Str × Nat)} {pos : Pos} {fi : Env → R (List D)} {sl : List Nat} {t : D → Env → Option Env} {tt : Env → R Bool} {fe : Env → R D}
theorem wipe_only {σ σ2 : L2.St} {vs sl : List Nat} (o : Only1 sl (L2.wipe σ vs) σ2) (h : ∀ j ∈ sl, j ∈ vs) : L2.wipe σ2 vs = L2.wipe σ vs := by
  have hl : (L2.wipe σ2 vs).length = (L2.wipe σ vs).length := by rw [wipe_length, o.1]
  apply List.ext_getElem?
  intro i
  by_cases hi : i ∈ vs
  · have key : ∀ τ : L2.St, ∀ us : List Nat, i ∈ us → i < τ.length → (L2.wipe τ us)[i]? = some none := by
      intro τ us
      induction us with
      | nil => intro z; cases z
      | cons u us ih =>
        intro z hτ
        unfold L2.wipe
        by_cases hu : u = i
        · subst hu
          rw [List.getElem?_set_self (by rw [wipe_length]; exact hτ)]
        · rw [List.getElem?_set_ne hu]
          rcases List.mem_cons.mp z with w | w
          · exact absurd w.symm hu
          · exact ih w hτ
    by_cases hτ : i < σ.length
    · rw [key σ vs hi hτ, key σ2 vs hi (by rw [o.1, wipe_length]; exact hτ)]
    · rw [List.getElem?_eq_none (by rw [wipe_length, o.1, wipe_length]; omega), List.getElem?_eq_none (by rw [wipe_length]; omega)]
  · rw [wipe_out1 hi]
    exact o.2 i fun z => hi (h i z)
/-- the block's reading -/
theorem tLc_of {P ps W} (hp : ∀ p ∈ ps, p.1 ∉ own.map (·.2)) (hsl : ∀ j ∈ sl, j ∈ own.map (·.2)) {σ H Q} (h : tM g P ps W (mComp (own.map (·.2)) fi t tt fe) σ H Q) (g2 : TG) (t2 : TT) (e2 : TE)
    (hg2 : ∀ (a : Addr) v σ H Q, tG g (Pl P a) ps sl t v σ H Q → g2 v σ H Q) (ht2 : ∀ (a : Addr) σ H Q, tB g (Pl P a) ps (fun _ _ _ _ => False) tt σ H Q → t2 σ H Q) (he2 : ∀ (a : Addr) σ H Q, tD g (Pl P a) ps (fun _ _ _ _ => False) fe σ H Q → e2 σ H Q) :
    tLc (tI g P ps W fi) g2 t2 e2 (own.map (·.2)) σ H Q := by
  obtain ⟨e, s, h⟩ := tM_eq.mp h
  refine ⟨e, s, h.bnd.mono fun ds e1 H1 go1 z J ok Dd hD => ?_⟩
  clear h
  have z : PM g P ps W e1 σ H1 (if (own.map (·.2)).all (noM e1) = true ∧ ds.length < 16777216 then match compL (own.map (·.2)) t tt fe ds (wipeE e1 (own.map (·.2))) with
    | .ok r e2 => .ok r (backE e2 e1 (own.map (·.2)))
    | _ => .bad
  else .bad) Q := z
  split at z
  case isFalse => exact z.elim
  rename_i hv
  obtain ⟨hv, hlen⟩ := hv
  cases hc : compL (own.map (·.2)) t tt fe ds (wipeE e1 (own.map (·.2))) with
  | bad => rw [hc] at z; exact z.elim
  | exc x e2 => rw [hc] at z; exact z.elim
  | ok res efin =>
  rw [hc] at z
  have nD : ¬ Av P e1 σ Dd := go1.st.fresh hD
  -- the start: the new list stands, the names are forgotten
  have gm0 : GoM g P ps e1 σ H1 Dd [] e1 σ (upd H1 Dd (.lst [])) := GoM.new go1.st hD (vs := []) rfl
  have gw : Go g (Pl P Dd) ps e1 σ (upd H1 Dd (.lst [])) (wipeE e1 (own.map (·.2))) (L2.wipe σ (own.map (·.2))) (upd H1 Dd (.lst [])) := gm0.st.wipe hp
  refine ⟨fun i m H2 => m = ds.length - i ∧ i ≤ ds.length ∧ ∃ e2 acc us rest, StRel g (Pl P Dd) ps e2 (L2.wipe σ (own.map (·.2))) H2 ∧ Kp (Av P e1 σ) H1 (Av (Pl P Dd) e2 (L2.wipe σ (own.map (·.2)))) H2 ∧ (∀ b, P b → H2 b = H1 b) ∧
      H2 Dd = some (.lst us) ∧ RepL g H2 (Av (Pl P Dd) e2 (L2.wipe σ (own.map (·.2)))) acc us ∧ acc.length ≤ i ∧ compL (own.map (·.2)) t tt fe (ds.drop i) e2 = .ok rest efin ∧ res = acc ++ rest,
    ⟨_, rfl, Nat.zero_le _, _, [], [], res, gw.st, ?_, fun b hb => ?_, upd_same, rfl, Nat.zero_le _, hc, rfl⟩, ?_⟩
  · exact fun b o q n => gw.kp b o (gm0.kp b o q n).1 ⟨(gm0.kp b o q n).2, n.2⟩
  · exact gm0.pr b hb
  rintro i m H2 ⟨rfl, hi, e2, acc, us, rest, s2, k2, p2, hD2, ra, hacc, hc2, hres⟩
  have goP : Go g P ps e1 σ H1 e2 (L2.wipe σ (own.map (·.2))) H2 := ⟨s2.mono fun _ w => .inl w, fun b o q n => ⟨(k2 b o q n).1, fun w => (k2 b o q n).2 (w.mono fun _ w => .inl w)⟩, p2⟩
  by_cases hlt : i < ds.length
  · obtain ⟨d, hd⟩ : ∃ d, ds[i]? = some d := ⟨ds[i], List.getElem?_eq_getElem hlt⟩
    obtain ⟨ok1, ok2⟩ := ok.go i d hd _ e2 _ H2 s2 k2
    rw [drop_get hd] at hc2
    refine .inr ⟨ok1, _, fun H' hN => ⟨ds.length - (i + 1), by omega, rfl, hlt, hN⟩, fun x H3 y => ?_⟩
    obtain ⟨sm3, rx⟩ := ok2 x H3 y
    have go3 := Go.same s2 sm3
    refine hg2 Dd _ _ _ _ ⟨e2, d, go3.st, rx, ?_⟩
    rw [compL] at hc2
    cases q4 : t d e2 with
    | none => rw [q4] at hc2; cases hc2
    | some e4 =>
    rw [q4, opt_some, bnd_ok] at hc2
    refine ⟨e4, rfl, fun σ4 H4 go4 o4 => ⟨wipe_only o4 hsl, ht2 Dd _ _ _ (tB_of go4.st ?_)⟩⟩
    cases q5 : tt e4 with
    | bad => rw [q5] at hc2; cases hc2
    | exc x e5 => rw [q5] at hc2; cases hc2
    | ok k e5 =>
    rw [q5, bnd_ok] at hc2
    intro H5 go5
    have g5 := go3.trans (go4.trans go5)
    have back : ∀ {e6 : Env} {H6 : Hp}, Go g (Pl P Dd) ps e2 (L2.wipe σ (own.map (·.2))) H2 e6 σ4 H6 → Go g (Pl P Dd) ps e2 (L2.wipe σ (own.map (·.2))) H2 (wipeE e6 (own.map (·.2))) (L2.wipe σ (own.map (·.2))) H6 := fun {e6 H6} g6 => by
      have w := g6.st.wipe (vs := own.map (·.2)) hp
      rw [wipe_only o4 hsl] at w
      exact g6.trans w
    cases k with
    | false =>
      rw [if_neg Bool.false_ne_true] at hc2 ⊢
      have g6 := back g5
      exact ⟨_, acc, us, rest, g6.st, fun b o q n => g6.kp b o (k2 b o q n).1 ⟨(k2 b o q n).2, n.2⟩, fun b w => (g6.pr b (.inl w)).trans (p2 b w), (g6.pr Dd (.inr rfl)).trans hD2, RepL.kp g6.kp _ _ ra, Nat.le_succ_of_le hacc, hc2, hres⟩
    | true =>
      rw [if_pos rfl] at hc2 ⊢
      cases q6 : fe e5 with
      | bad => rw [q6] at hc2; cases hc2
      | exc x e6 => rw [q6] at hc2; cases hc2
      | ok yd e6 =>
      rw [q6, bnd_ok] at hc2
      cases q7 : compL (own.map (·.2)) t tt fe (ds.drop (i + 1)) (wipeE e6 (own.map (·.2))) with
      | bad => rw [q7] at hc2; cases hc2
      | exc x e7 => rw [q7] at hc2; cases hc2
      | ok r7 e7 =>
      rw [q7, bnd_ok] at hc2
      cases hc2
      refine he2 Dd _ _ _ (tD_of go5.st ?_)
      rw [q6]
      intro H6 go6 w rw'
      have g6 := g5.trans go6
      have hD6 : H6 Dd = some (.lst us) := (g6.pr Dd (.inr rfl)).trans hD2
      have racc := RepL.kp g6.kp _ _ ra
      refine ⟨us, hD6, by rw [sizeLine_eq, ← racc.length]; omega, ?_⟩
      -- the new list grows
      have g7 := back g6
      have nAv : ∀ b, Av P (wipeE e6 (own.map (·.2))) (L2.wipe σ (own.map (·.2))) b → b ≠ Dd := fun b z w => by
        subst w
        rcases z with z | ⟨j, es, z1, z2⟩
        · exact nD (.inl z)
        · obtain ⟨c, ws, h1, _, _, h4⟩ := g7.st.mm j es z1
          rw [z2] at h1
          cases h1
          exact h4 (.inr rfl)
      have kD : Kp (Av (Pl P Dd) (wipeE e6 (own.map (·.2))) (L2.wipe σ (own.map (·.2)))) H6 (Av (Pl P Dd) (wipeE e6 (own.map (·.2))) (L2.wipe σ (own.map (·.2)))) (upd H6 Dd (.lst (us ++ [w]))) := fun b o q n => by
        have nb : b ≠ Dd := fun z => n.1 (by rw [z]; exact .inl (.inr rfl))
        exact ⟨by rw [upd_ne nb]; exact q, n.1⟩
      have w7 := (go6.st.wipe (vs := own.map (·.2)) hp)
      rw [wipe_only o4 hsl] at w7
      have rw7 : Rep g H6 (Av (Pl P Dd) (wipeE e6 (own.map (·.2))) (L2.wipe σ (own.map (·.2)))) yd w := Rep.kp w7.kp _ _ rw'
      refine ⟨_, acc ++ [yd], us ++ [w], r7, ⟨g7.st.len, fun j d' z => ?_, fun j es z => ?_, g7.st.inj, fun b z => ?_, g7.st.par, tabs_upd g7.st.tb hD6⟩, fun b o q n => ?_, fun b z => ?_, upd_same, ?_, ?_, q7, by rw [hres, List.append_assoc]; rfl⟩
      · obtain ⟨v, h1, h2⟩ := g7.st.vv j d' z
        exact ⟨v, h1, Rep.kp kD _ _ h2⟩
      · obtain ⟨c, ws, h1, h2, h3, h4⟩ := g7.st.mm j es z
        have nc : c ≠ Dd := fun y => h4 (.inr y)
        exact ⟨c, ws, h1, by rw [upd_ne nc]; exact h2, RepL.kp kD _ _ h3, h4⟩
      · by_cases hb : b = Dd
        · rw [hb, upd_same]; exact ⟨_, rfl, nc_lst⟩
        · rw [upd_ne hb]; exact g7.st.prv b z
      · obtain ⟨h1, h2⟩ := g7.kp b o (k2 b o q n).1 ⟨(k2 b o q n).2, n.2⟩
        exact kD b o h1 ⟨h2, n.2⟩
      · have hb : b ≠ Dd := fun y => nD (.inl (by rw [← y]; exact z))
        rw [upd_ne hb]
        exact (g7.pr b (.inl z)).trans (p2 b z)
      · exact RepL.kp kD _ _ (RepL.append (RepL.kp w7.kp _ _ racc) ⟨w, [], rfl, rw7, rfl⟩)
      · rw [List.length_append]
        simp only [List.length_cons, List.length_nil]
        omega
  · have e9 : i = ds.length := by omega
    subst e9
    rw [List.drop_length] at hc2
    cases hc2
    refine .inl ⟨ok.stop _ _ _ H2 s2 k2, ?_⟩
    rw [List.append_nil] at hres
    subst hres
    exact z _ _ (GoM.unwipe go1.st hv s2 k2 p2 (fun w => nD (.inl w)) hD2 ra)
theorem dm_comp (hN : X.N.Nodup) (hc : X.calm = true) (hi : DI g mp X tg iter fi) (ok : BlkOk X.N X.env.scope scope own)
    (hg : ∀ (s : Shared) (H : Hp) (C : Addr) (cl : List (Str × Addr)) (fp : List Addr), DG g mp (X.blk s H scope (compEnvC scope cl C X.env) fp) tg sl t) (ht : ∀ (s : Shared) (H : Hp) (C : Addr) (cl : List (Str × Addr)) (fp : List Addr), DTs g mp (X.blk s H scope (compEnvC scope cl C X.env) fp) ifs tt)
    (he : ∀ (s : Shared) (H : Hp) (C : Addr) (cl : List (Str × Addr)) (fp : List Addr), DE g mp (X.blk s H scope (compEnvC scope cl C X.env) fp) elt fe) (hm : ∀ j ∈ own.map (·.2), j ∉ mp := by decide) (hsl : ∀ j ∈ sl, j ∈ own.map (·.2) := by decide) (hs : ∀ x, foldedSetIterable iter X.env x = pure x := by intro _; rfl) :
    DM g mp X (.ListComp elt [⟨tg, iter, ifs, 0⟩] scope pos) (mComp (own.map (·.2)) fi t tt fe) := ⟨fun P ps W hp tk => by
  have hpo : ∀ p ∈ ps, p.1 ∉ own.map (·.2) := fun p h z => hm _ z (by rw [← hp]; exact List.mem_map_of_mem h)
  refine ⟨fun pins s σ H Q I q => ?_⟩
  refine (pe_lc (g := fun v σ H Q => ∃ a, tG g (Pl P a) ps sl t v σ H Q) (tt := fun σ H Q => ∃ a, tB g (Pl P a) ps (fun _ _ _ _ => False) tt σ H Q) (te := fun σ H Q => ∃ a, tD g (Pl P a) ps (fun _ _ _ _ => False) fe σ H Q) hc hN (hi.run P ps W hp tk) ok (fun s H C cl fp => ?_) (fun s H C cl fp => ?_) (fun s H C cl fp => ?_) hs).run pins s σ H Q I
    (tLc_of hpo hsl q _ _ _ (fun a v σ H Q z => ⟨a, z⟩) (fun a σ H Q z => ⟨a, z⟩) (fun a σ H Q z => ⟨a, z⟩))
  · exact ⟨fun pins s' σ' H' v u Q I r ⟨a, z⟩ => ((hg s H C cl fp).run (Pl P a) ps hp).run pins s' σ' H' v u Q I r z⟩
  · exact ⟨fun pins s' σ' H' Q I ⟨a, z⟩ => ((ht s H C cl fp).run (Pl P a) ps _ hp takes0).run pins s' σ' H' Q I z⟩
  · exact ⟨fun pins s' σ' H' Q I ⟨a, z⟩ => ((he s H C cl fp).run (Pl P a) ps _ hp takes0).run pins s' σ' H' Q I z⟩⟩
end
end DL
end

section
set_option Elab.async false
set_option linter.all false
set_option maxRecDepth 100000
set_option maxHeartbeats 4000000
namespace DL
open PySem PySem.Spec PyProof.Rows L2

/-! ### a def as a function on data -/
inductive RF where
  | ok (s : Slot) (outs : List (List D))
  | exc (x : Xc) (outs : List (List D))
  | bad
def startE (n : Nat) (ss : List Slot) : Env := ss.map some ++ List.replicate (n - ss.length) none
def outM (mp : List Nat) (e : Env) : List (List D) := mp.map fun i => (mAt e i).getD []
def fin (mp : List Nat) (r : RS) : RF := match r with
  | .nx e => .ok (.v .non) (outM mp e)
  | .rt s e => .ok s (outM mp e)
  | .exc x e => .exc x (outM mp e)
  | _ => .bad
@[simp] theorem fin_nx {mp e} : fin mp (.nx e) = .ok (.v .non) (outM mp e) := rfl
@[simp] theorem fin_rt {mp s e} : fin mp (.rt s e) = .ok s (outM mp e) := rfl
@[simp] theorem fin_exc {mp x e} : fin mp (.exc x e) = .exc x (outM mp e) := rfl

def AP (P : Addr → Prop) (ps : List (Nat × Addr)) : Addr → Prop := fun a => P a ∨ ∃ p ∈ ps, p.2 = a
structure After (g : G) (P : Addr → Prop) (ps : List (Nat × Addr)) (A : Addr → Prop) (outs : List (List D)) (H H' : Hp) : Prop where
  kp : Kp (AP P ps) H A H'
  pr : ∀ a, P a → H' a = H a
  len : outs.length = ps.length
  tb : LamX.Tabs g.T H'
  out : ∀ (j : Nat) (p : Nat × Addr) (ds : List D), ps[j]? = some p → outs[j]? = some ds → ∃ vs, H' p.2 = some (.lst vs) ∧ RepL g H' A ds vs
structure AfterM (g : G) (P : Addr → Prop) (ps : List (Nat × Addr)) (outs : List (List D)) (H : Hp) (a : Addr) (ds : List D) (H' : Hp) : Prop where
  af : After g P ps (AP (Pl P a) ps) outs H H'
  na : ¬ AP P ps a
  at_ : ∃ vs, H' a = some (.lst vs) ∧ RepL g H' (AP (Pl P a) ps) ds vs
def ROK (g : G) (P : Addr → Prop) (ps : List (Nat × Addr)) (H : Hp) (r : RF) (Q : VK) (E : XK) : Prop := match r with
  | .ok (.v d) outs => ∀ v H', After g P ps (AP P ps) outs H H' → Rep g H' (AP P ps) d v → Q v H'
  | .ok (.m ds) outs => ∀ a H', AfterM g P ps outs H a ds H' → Q (.ref a) H'
  | .exc x outs => ∀ cls d H', After g P ps (AP P ps) outs H H' → XRep g H' (AP P ps) x cls d → E cls d H'
  | .bad => False
/-- a def's promise; n slots, m parameters, those at mp are lists to be changed -/
def spD (g : G) (N : List Str) (mp : List Nat) (m : Nat) (F : List Slot → RF) : Sp := fun vs H Q E => vs.length = m ∧ ∃ P ps ss, ps.map (·.1) = mp ∧ ss.length = vs.length ∧ StRel g P ps (startE N.length ss) (L2.start N vs) H ∧ (∀ a, Av P (startE N.length ss) (L2.start N vs) a → AP P ps a) ∧ ROK g P ps H (F ss) Q E

section
variable {g : G} {P : Addr → Prop} {ps : List (Nat × Addr)} {mp : List Nat} {e e' : Env} {σ σ' : L2.St} {H H' : Hp}
theorem StRel.ap (s : StRel g P ps e σ H) {a : Addr} (h : AP P ps a) : Av P e σ a := by
  rcases h with h | ⟨p, hp, rfl⟩
  · exact .inl h
  · obtain ⟨h1, ds, h2⟩ := s.par p hp
    exact .inr ⟨p.1, ds, h2, h1⟩
theorem StRel.outs (s : StRel g P ps e σ H) (hm : ps.map (·.1) = mp) {j : Nat} {p : Nat × Addr} {ds : List D} (q : ps[j]? = some p) (q2 : (outM mp e)[j]? = some ds) : ∃ vs, H p.2 = some (.lst vs) ∧ RepL g H (AP P ps) ds vs := by
  obtain ⟨h1, es, h2⟩ := s.par p (List.mem_of_getElem? q)
  obtain ⟨a, vs, z1, z2, z3, z4⟩ := s.mm _ _ h2
  rw [h1] at z1
  cases z1
  subst hm
  unfold outM at q2
  rw [List.map_map, List.getElem?_map, q] at q2
  have q2 : (mAt e p.1).getD [] = ds := by simpa using q2
  have : mAt e p.1 = some es := by unfold mAt; rw [h2]
  rw [this] at q2
  have q2 : es = ds := q2
  subst q2
  exact ⟨vs, z2, RepL.mono (fun a z => s.ap z) z3⟩
theorem Go.after (x : Go g P ps e σ H e' σ' H') (hm : ps.map (·.1) = mp) (hA : ∀ a, Av P e σ a → AP P ps a) : After g P ps (AP P ps) (outM mp e') H H' :=
  ⟨fun b o q n => ⟨(x.kp b o q ⟨fun z => n.1 (hA b z), n.2⟩).1, fun z => (x.kp b o q ⟨fun z => n.1 (hA b z), n.2⟩).2 (x.st.ap z)⟩, x.pr, by unfold outM; rw [List.length_map, ← hm, List.length_map], x.st.tb, fun j p ds q q2 => x.st.outs hm q q2⟩
theorem GoM.after {a ds} (x : GoM g P ps e σ H a ds e' σ' H') (hm : ps.map (·.1) = mp) (hA : ∀ a, Av P e σ a → AP P ps a) : AfterM g P ps (outM mp e') H a ds H' := by
  refine ⟨⟨fun b o q n => ⟨(x.kp b o q ⟨fun z => n.1 (hA b z), n.2⟩).1, fun z => (x.kp b o q ⟨fun z => n.1 (hA b z), n.2⟩).2 (x.st.ap z)⟩, x.pr, by unfold outM; rw [List.length_map, ← hm, List.length_map], x.st.tb, fun j p ds q q2 => x.st.outs hm q q2⟩, ?_, ?_⟩
  · rintro (z | ⟨p, hp, rfl⟩)
    · exact x.np z
    · obtain ⟨h1, es, h2⟩ := x.st.par p hp
      obtain ⟨b, us, r1, _, _, r4⟩ := x.st.mm _ _ h2
      rw [h1] at r1
      cases r1
      exact r4 (.inr rfl)
  · obtain ⟨vs, h1, h2⟩ := x.at_
    exact ⟨vs, h1, RepL.mono (fun b z => x.st.ap z) h2⟩
end
/-- THE RULE for a def -/
theorem fn_okD {g : G} {Pr : Program} {w : World} {K : PySem.W.Frag} {mg : Str → Option Value} {base : Heap} {x qual : Str} {st : Stmt} {f : Addr} {fd : FuncData} {N pn : List Str} {k : Nat} {mp : List Nat} {fb : Env → RS} (F : Fun K x qual st f fd) (S : FnScope N pn (defScope st))
    (hbody : ∀ (cdv : Value) (A : Around) (outer : List PySem.Env) (s : Shared) (H : Hp) (E : XK), Room k (A.deeper (envOfC qual (defScope st) s.heap.objs.size f cdv)) →
      DSs g mp (cxOf (L2.CX Pr w) Pr w K mg base N qual (defScope st) f cdv A outer s H E) (defBody st) fb) :
    FnOk Pr w K mg base (L2.CX Pr w) (k + 1) f fd pn (spD g N mp pn.length fun ss => fin mp (fb (startE N.length ss))) := by
  refine F.okX S (fun vs H Q E h => h.1) fun cdv A outer s H vs Q E hr hsp => ?_
  obtain ⟨_, P, ps, ss, hm, hl, st, hA, hR⟩ := hsp
  refine ⟨_, (hbody cdv A outer s H E hr).run P ps (fun cls d _ H' => E cls d H') hm (takes_of rfl rfl rfl rfl), ?_⟩
  refine tS_eq.mpr ⟨_, st, ?_⟩
  replace hR : ROK g P ps H (fin mp (fb (startE N.length ss))) Q E := hR
  revert hR
  cases fb (startE N.length ss) with
  | nx e' => exact fun hR σ' H' go => hR .non H' (go.after hm hA) rfl
  | rt z e' => cases z with
    | v d => exact fun hR v σ' H' go rv => hR v H' (go.after hm hA) (Rep.mono (fun a z => go.st.ap z) rv)
    | m ds => exact fun hR a σ' H' gm => hR a H' (gm.after hm hA)
  | bk e' => exact fun hR => hR.elim
  | ct e' => exact fun hR => hR.elim
  | exc y e' => exact fun hR cls d σ' H' go rx => hR cls d H' (go.after hm hA) (XRep.kp (fun b o q n => ⟨q, fun z => n.1 (go.st.ap z)⟩) rx)
  | bad => exact fun hR => hR.elim

/-! ### the call -/
def psN : Nat → List (Option Nat) → List (Nat × Nat)
  | _, [] => []
  | k, none :: sh => psN (k + 1) sh
  | k, some i :: sh => (k, i) :: psN (k + 1) sh
def adr (σ : L2.St) (i : Nat) : Addr := match σ[i]? with
  | some (some (.ref a)) => a
  | _ => 0
theorem adr_of {σ : L2.St} {i : Nat} {a : Addr} (h : σ[i]? = some (some (.ref a))) : adr σ i = a := by unfold adr; rw [h]
def psA (σ : L2.St) (l : List (Nat × Nat)) : List (Nat × Addr) := l.map fun p => (p.1, adr σ p.2)
def mkS : List (Option Nat) → List D → Env → Option (List Slot)
  | [], _, _ => some []
  | none :: sh, ds, e => match ds with
    | [] => none
    | d :: ds => (mkS sh ds e).map (Slot.v d :: ·)
  | some i :: sh, ds, e => match mAt e i with
    | some l => (mkS sh ds e).map (Slot.m l :: ·)
    | none => none
def ArgV (g : G) (H : Hp) (A : Addr → Prop) (σ : L2.St) : List (Option Nat) → List D → List V → Prop
  | [], _, vs => vs = []
  | none :: sh, ds, vs => ∃ d ds' v vs', ds = d :: ds' ∧ vs = v :: vs' ∧ Rep g H A d v ∧ ArgV g H A σ sh ds' vs'
  | some i :: sh, ds, vs => ∃ a vs', vs = .ref a :: vs' ∧ σ[i]? = some (some (.ref a)) ∧ ArgV g H A σ sh ds vs'
theorem mkS_none {sh ds e ss} (h : mkS (none :: sh) ds e = some ss) : ∃ d ds' ss', ds = d :: ds' ∧ mkS sh ds' e = some ss' ∧ ss = .v d :: ss' := by
  cases ds with
  | nil => cases h
  | cons d ds =>
    have h : (mkS sh ds e).map (Slot.v d :: ·) = some ss := h
    obtain ⟨ss', h1, h2⟩ := Option.map_eq_some_iff.mp h
    exact ⟨d, ds, ss', rfl, h1, h2.symm⟩
theorem mkS_some {i sh ds e ss} (h : mkS (some i :: sh) ds e = some ss) : ∃ l ss', mAt e i = some l ∧ mkS sh ds e = some ss' ∧ ss = .m l :: ss' := by
  unfold mkS at h
  split at h
  · rename_i l q
    obtain ⟨ss', h1, h2⟩ := Option.map_eq_some_iff.mp h
    exact ⟨l, ss', q, h1, h2.symm⟩
  · cases h
theorem ArgV.kp {g : G} {H H' : Hp} {A A' : Addr → Prop} {σ : L2.St} (k : Kp A H A' H') : ∀ {sh : List (Option Nat)} {ds : List D} {vs : List V}, ArgV g H A σ sh ds vs → ArgV g H' A' σ sh ds vs
  | [], _, _, h => h
  | none :: sh, _, _, ⟨d, ds', v, vs', e1, e2, r, q⟩ => ⟨d, ds', v, vs', e1, e2, Rep.kp k _ _ r, q.kp k⟩
  | some i :: sh, _, _, ⟨a, vs', e1, e2, q⟩ => ⟨a, vs', e1, e2, q.kp k⟩
section
variable {g : G} {H : Hp} {A : Addr → Prop} {σ : L2.St} {e : Env}
theorem arg_len : ∀ {sh : List (Option Nat)} {ds : List D} {ss : List Slot} {vs : List V}, mkS sh ds e = some ss → ArgV g H A σ sh ds vs → ss.length = vs.length ∧ vs.length = sh.length
  | [], ds, ss, vs, h, q => by cases h; rw [show vs = [] from q]; exact ⟨rfl, rfl⟩
  | none :: sh, ds, ss, vs, h, q => by
    obtain ⟨d, ds', ss', rfl, h1, rfl⟩ := mkS_none h
    obtain ⟨d2, ds2, v, vs', e1, rfl, _, q⟩ := q
    cases e1
    obtain ⟨z1, z2⟩ := arg_len h1 q
    exact ⟨by simp [z1], by simp [z2]⟩
  | some i :: sh, ds, ss, vs, h, q => by
    obtain ⟨l, ss', _, h1, rfl⟩ := mkS_some h
    obtain ⟨a, vs', rfl, _, q⟩ := q
    obtain ⟨z1, z2⟩ := arg_len h1 q
    exact ⟨by simp [z1], by simp [z2]⟩
theorem arg_v : ∀ {sh : List (Option Nat)} {ds : List D} {ss : List Slot} {vs : List V} {k : Nat} {d : D}, mkS sh ds e = some ss → ArgV g H A σ sh ds vs → ss[k]? = some (.v d) → ∃ v, vs[k]? = some v ∧ Rep g H A d v
  | [], ds, ss, vs, k, d, h, q, z => by cases h; simp at z
  | none :: sh, ds, ss, vs, k, d, h, q, z => by
    obtain ⟨d1, ds', ss', rfl, h1, rfl⟩ := mkS_none h
    obtain ⟨d2, ds2, v, vs', e1, rfl, r, q⟩ := q
    cases e1
    cases k with
    | zero => cases z; exact ⟨v, rfl, r⟩
    | succ k => exact arg_v (k := k) h1 q (by simpa using z)
  | some i :: sh, ds, ss, vs, k, d, h, q, z => by
    obtain ⟨l, ss', _, h1, rfl⟩ := mkS_some h
    obtain ⟨a, vs', rfl, _, q⟩ := q
    cases k with
    | zero => cases z
    | succ k => exact arg_v (k := k) h1 q (by simpa using z)
theorem arg_m : ∀ {sh : List (Option Nat)} {ds : List D} {ss : List Slot} {vs : List V} {j k : Nat} {l : List D}, mkS sh ds e = some ss → ArgV g H A σ sh ds vs → ss[k]? = some (.m l) → ∃ i a, (j + k, i) ∈ psN j sh ∧ mAt e i = some l ∧ vs[k]? = some (.ref a) ∧ σ[i]? = some (some (.ref a))
  | [], ds, ss, vs, j, k, d, h, q, z => by cases h; simp at z
  | none :: sh, ds, ss, vs, j, k, d, h, q, z => by
    obtain ⟨d1, ds', ss', rfl, h1, rfl⟩ := mkS_none h
    obtain ⟨d2, ds2, v, vs', e1, rfl, r, q⟩ := q
    cases e1
    cases k with
    | zero => cases z
    | succ k =>
      obtain ⟨i, a, y1, y2⟩ := arg_m (j := j + 1) (k := k) h1 q (by simpa using z)
      exact ⟨i, a, by unfold psN; rw [show j + (k + 1) = j + 1 + k by omega]; exact y1, by simpa using y2⟩
  | some i :: sh, ds, ss, vs, j, k, d, h, q, z => by
    obtain ⟨l, ss', q1, h1, rfl⟩ := mkS_some h
    obtain ⟨a, vs', rfl, q2, q⟩ := q
    cases k with
    | zero => cases z; exact ⟨i, a, by unfold psN; exact List.mem_cons_self .., q1, rfl, q2⟩
    | succ k =>
      obtain ⟨i', a', y1, y2⟩ := arg_m (j := j + 1) (k := k) h1 q (by simpa using z)
      exact ⟨i', a', by unfold psN; rw [show j + (k + 1) = j + 1 + k by omega]; exact List.mem_cons_of_mem _ y1, by simpa using y2⟩
theorem arg_p : ∀ {sh : List (Option Nat)} {ds : List D} {ss : List Slot} {vs : List V} {j : Nat} {p : Nat × Nat}, mkS sh ds e = some ss → ArgV g H A σ sh ds vs → p ∈ psN j sh → ∃ k l a, p.1 = j + k ∧ ss[k]? = some (.m l) ∧ mAt e p.2 = some l ∧ vs[k]? = some (.ref a) ∧ σ[p.2]? = some (some (.ref a))
  | [], ds, ss, vs, j, p, h, q, z => by simp [psN] at z
  | none :: sh, ds, ss, vs, j, p, h, q, z => by
    obtain ⟨d1, ds', ss', rfl, h1, rfl⟩ := mkS_none h
    obtain ⟨d2, ds2, v, vs', e1, rfl, r, q⟩ := q
    cases e1
    unfold psN at z
    obtain ⟨k, l, a, y1, y2, y3, y4, y5⟩ := arg_p h1 q z
    exact ⟨k + 1, l, a, by omega, by simpa using y2, y3, by simpa using y4, y5⟩
  | some i :: sh, ds, ss, vs, j, p, h, q, z => by
    obtain ⟨l, ss', q1, h1, rfl⟩ := mkS_some h
    obtain ⟨a, vs', rfl, q2, q⟩ := q
    unfold psN at z
    rcases List.mem_cons.mp z with rfl | z
    · exact ⟨0, l, a, rfl, rfl, q1, rfl, q2⟩
    · obtain ⟨k, l', a', y1, y2, y3, y4, y5⟩ := arg_p h1 q z
      exact ⟨k + 1, l', a', by omega, by simpa using y2, y3, by simpa using y4, y5⟩
end
def putO : List (Nat × Nat) → List (List D) → Env → Env
  | p :: r, o :: os, e => putO r os (e.set p.2 (some (.m o)))
  | _, _, e => e
theorem putO_len : ∀ {l : List (Nat × Nat)} {os : List (List D)} {e : Env}, (putO l os e).length = e.length
  | [], os, e => by unfold putO; rfl
  | p :: r, [], e => by unfold putO; rfl
  | p :: r, o :: os, e => by unfold putO; rw [putO_len, List.length_set]
theorem putO_out : ∀ {l : List (Nat × Nat)} {os : List (List D)} {e : Env} {j : Nat}, (∀ p ∈ l, p.2 ≠ j) → (putO l os e)[j]? = e[j]?
  | [], os, e, j, h => by unfold putO; rfl
  | p :: r, [], e, j, h => by unfold putO; rfl
  | p :: r, o :: os, e, j, h => by
    unfold putO
    rw [putO_out fun q hq => h q (List.mem_cons_of_mem _ hq), List.getElem?_set_ne (h p (List.mem_cons_self ..))]
theorem putO_in : ∀ {l : List (Nat × Nat)} {os : List (List D)} {e : Env} {t : Nat} {p : Nat × Nat} {o : List D}, (l.map (·.2)).Nodup → l[t]? = some p → os[t]? = some o → p.2 < e.length → (putO l os e)[p.2]? = some (some (.m o))
  | [], os, e, t, p, o, h, q, z, y => by simp at q
  | p :: r, [], e, t, p', o, h, q, z, y => by simp at z
  | p :: r, o :: os, e, 0, p', o', h, q, z, y => by
    simp at q z
    subst q z
    unfold putO
    rw [putO_out fun b hb w => (List.nodup_cons.mp h).1 (List.mem_map.mpr ⟨b, hb, w⟩), List.getElem?_set_self y]
  | p :: r, o :: os, e, t + 1, p', o', h, q, z, y => by
    unfold putO
    exact putO_in (List.nodup_cons.mp h).2 (by simpa using q) (by simpa using z) (by rw [List.length_set]; exact y)
theorem nd_inj {l : List (Nat × Nat)} (h : (l.map (·.2)).Nodup) {p q : Nat × Nat} (hp : p ∈ l) (hq : q ∈ l) (e : p.2 = q.2) : p = q := by
  induction l with
  | nil => cases hp
  | cons b r ih =>
    obtain ⟨h1, h2⟩ := List.nodup_cons.mp h
    rcases List.mem_cons.mp hp with ep | hp
    · rcases List.mem_cons.mp hq with eq | hq
      · rw [ep, eq]
      · exact (h1 (List.mem_map.mpr ⟨q, hq, by rw [← e, ep]⟩)).elim
    · rcases List.mem_cons.mp hq with eq | hq
      · exact (h1 (List.mem_map.mpr ⟨p, hp, by rw [e, eq]⟩)).elim
      · exact ih h2 hp hq

section
variable {g : G} {P : Addr → Prop} {ps : List (Nat × Addr)} {e : Env} {σ : L2.St} {H H' : Hp} {sh : List (Option Nat)} {ds : List D} {ss : List Slot} {vs : List V}
/-- what the callee must leave alone -/
def PC (P : Addr → Prop) (e : Env) (σ : L2.St) (sh : List (Option Nat)) : Addr → Prop := fun a => Av P e σ a ∧ ∀ p ∈ psA σ (psN 0 sh), p.2 ≠ a
theorem mAt_of {e : Env} {i : Nat} {ds : List D} (h : mAt e i = some ds) : e[i]? = some (some (.m ds)) := mAt_some h
theorem ap_av (hs : mkS sh ds e = some ss) (hv : ArgV g H (Av P e σ) σ sh ds vs) {a : Addr} : AP (PC P e σ sh) (psA σ (psN 0 sh)) a ↔ Av P e σ a := by
  constructor
  · rintro (h | ⟨p, hp, rfl⟩)
    · exact h.1
    · obtain ⟨p, hp', rfl⟩ := List.mem_map.mp hp
      obtain ⟨k, l, a, _, _, y3, _, y5⟩ := arg_p hs hv hp'
      exact .inr ⟨p.2, l, mAt_of y3, by rw [show (p.1, adr σ p.2).2 = a from adr_of y5]; exact y5⟩
  · intro h
    by_cases q : ∃ p ∈ psA σ (psN 0 sh), p.2 = a
    · exact .inr q
    · exact .inl ⟨h, fun p hp z => q ⟨p, hp, z⟩⟩
theorem startE_get {n : Nat} {ss : List Slot} {i : Nat} {s : Slot} (h : (startE n ss)[i]? = some (some s)) : ss[i]? = some s := by
  unfold startE at h
  by_cases hl : i < ss.length
  · rw [List.getElem?_append_left (by simpa using hl), List.getElem?_map] at h
    cases q : ss[i]? with
    | none => rw [q] at h; cases h
    | some u => rw [q] at h; cases h; rfl
  · rw [List.getElem?_append_right (by simpa using hl)] at h
    have := List.mem_of_getElem? h
    have := List.eq_of_mem_replicate this
    cases this
theorem startE_of {n : Nat} {ss : List Slot} {i : Nat} {s : Slot} (h : ss[i]? = some s) : (startE n ss)[i]? = some (some s) := by
  unfold startE
  have hl : i < ss.length := (List.getElem?_eq_some_iff.mp h).1
  rw [List.getElem?_append_left (by simpa using hl), List.getElem?_map, h]
  rfl
theorem start_of {N : List Str} {vs : List V} {i : Nat} {v : V} (h : vs[i]? = some v) : (L2.start N vs)[i]? = some (some v) := by
  unfold L2.start
  have hl : i < vs.length := (List.getElem?_eq_some_iff.mp h).1
  rw [List.getElem?_append_left (by simpa using hl), List.getElem?_map, h]
  rfl
theorem call_in (s : StRel g P ps e σ H) (N : List Str) (hs : mkS sh ds e = some ss) (hv : ArgV g H (Av P e σ) σ sh ds vs) (nd : ((psN 0 sh).map (·.2)).Nodup) :
    StRel g (PC P e σ sh) (psA σ (psN 0 sh)) (startE N.length ss) (L2.start N vs) H ∧ ∀ a, Av (PC P e σ sh) (startE N.length ss) (L2.start N vs) a → AP (PC P e σ sh) (psA σ (psN 0 sh)) a := by
  have ll := (arg_len hs hv).1
  have mk : ∀ {i : Nat} {l : List D}, (startE N.length ss)[i]? = some (some (.m l)) → ∃ i' a, (i, i') ∈ psN 0 sh ∧ e[i']? = some (some (.m l)) ∧ (L2.start N vs)[i]? = some (some (.ref a)) ∧ σ[i']? = some (some (.ref a)) := fun {i l} h => by
    obtain ⟨i', a, h1, h2, h3, h4⟩ := arg_m (j := 0) hs hv (startE_get h)
    rw [Nat.zero_add] at h1
    exact ⟨i', a, h1, mAt_of h2, start_of h3, h4⟩
  have hA : ∀ a, Av (PC P e σ sh) (startE N.length ss) (L2.start N vs) a → Av P e σ a := fun a h => by
    rcases h with h | ⟨i, l, h1, h2⟩
    · exact h.1
    · obtain ⟨i', a', _, q2, q3, q4⟩ := mk h1
      rw [h2] at q3
      cases q3
      exact .inr ⟨i', l, q2, q4⟩
  refine ⟨⟨?_, fun i d q => ?_, fun i l q => ?_, fun i j a l l' q1 q2 r1 r2 => ?_, fun a h => Av.nc s h.1, fun p hp => ?_, s.tb⟩, fun a h => (ap_av hs hv).mpr (hA a h)⟩
  · unfold startE L2.start
    rw [List.length_append, List.length_append, List.length_map, List.length_map, List.length_replicate, List.length_replicate, ll]
  · obtain ⟨v, h1, h2⟩ := arg_v hs hv (startE_get q)
    exact ⟨v, start_of h1, Rep.mono hA h2⟩
  · obtain ⟨i', a, q1, q2, q3, q4⟩ := mk q
    obtain ⟨a', us, z1, z2, z3, z4⟩ := s.mm _ _ q2
    rw [q4] at z1
    cases z1
    exact ⟨a, us, q3, z2, RepL.mono hA z3, fun w => w.2 _ (List.mem_map_of_mem q1) (adr_of q4)⟩
  · obtain ⟨i', a1, h1, h2, h3, h4⟩ := mk q1
    obtain ⟨j', a2, k1, k2, k3, k4⟩ := mk q2
    rw [r1] at h3
    cases h3
    rw [r2] at k3
    cases k3
    have w := s.inj _ _ _ _ _ h2 k2 h4 k4
    exact congrArg Prod.fst (nd_inj nd h1 k1 w)
  · obtain ⟨p, hp', rfl⟩ := List.mem_map.mp hp
    obtain ⟨k, l, a, y1, y2, y3, y4, y5⟩ := arg_p hs hv hp'
    rw [Nat.zero_add] at y1
    refine ⟨?_, l, ?_⟩
    · show (L2.start N vs)[p.1]? = some (some (.ref (adr σ p.2)))
      rw [adr_of y5, y1]
      exact start_of y4
    · show (startE N.length ss)[p.1]? = _
      rw [y1]
      exact startE_of y2
theorem call_out (s : StRel g P ps e σ H) (hs : mkS sh ds e = some ss) (hv : ArgV g H (Av P e σ) σ sh ds vs) (nd : ((psN 0 sh).map (·.2)).Nodup) {A Px : Addr → Prop} {outs : List (List D)} (af : After g (PC P e σ sh) (psA σ (psN 0 sh)) A outs H H')
    (hPx : ∀ b, Px b → P b ∨ (¬ Av P e σ b ∧ ∃ o, H' b = some o ∧ NC o)) (hA : ∀ b, Px b ∨ Av P e σ b → A b) :
    StRel g Px ps (putO (psN 0 sh) outs e) σ H' ∧ Kp (Av P e σ) H (Av Px (putO (psN 0 sh) outs e) σ) H' ∧ ∀ a, P a → H' a = H a := by
  have lo : outs.length = (psN 0 sh).length := by rw [af.len]; unfold psA; rw [List.length_map]
  -- a slot that was handed over
  have sl : ∀ {p : Nat × Nat}, p ∈ psN 0 sh → ∃ l a, e[p.2]? = some (some (.m l)) ∧ σ[p.2]? = some (some (.ref a)) := fun {p} hp => by
    obtain ⟨k, l, a, _, _, y3, _, y5⟩ := arg_p hs hv hp
    exact ⟨l, a, mAt_of y3, y5⟩
  have inn : ∀ {p : Nat × Nat}, p ∈ psN 0 sh → ∃ t o, (psN 0 sh)[t]? = some p ∧ outs[t]? = some o ∧ (putO (psN 0 sh) outs e)[p.2]? = some (some (.m o)) := fun {p} hp => by
    obtain ⟨t, ht, hq⟩ := List.getElem_of_mem hp
    have hq : (psN 0 sh)[t]? = some p := by rw [List.getElem?_eq_getElem ht, hq]
    have ho : outs[t]? = some outs[t] := List.getElem?_eq_getElem (by omega)
    obtain ⟨l, a, h1, _⟩ := sl hp
    exact ⟨t, _, hq, ho, putO_in nd hq ho (List.getElem?_eq_some_iff.mp h1).1⟩
  have out : ∀ {j : Nat}, (∀ p ∈ psN 0 sh, p.2 ≠ j) → (putO (psN 0 sh) outs e)[j]? = e[j]? := fun h => putO_out h
  have dec : ∀ j : Nat, (∃ p ∈ psN 0 sh, p.2 = j) ∨ (∀ p ∈ psN 0 sh, p.2 ≠ j) := fun j => by
    by_cases h : ∃ p ∈ psN 0 sh, p.2 = j
    · exact .inl h
    · exact .inr fun p hp z => h ⟨p, hp, z⟩
  have m1 : ∀ {j : Nat} {l : List D}, (putO (psN 0 sh) outs e)[j]? = some (some (.m l)) → ∃ l', e[j]? = some (some (.m l')) := fun {j l} h => by
    rcases dec j with ⟨p, hp, rfl⟩ | hj
    · obtain ⟨l', a, h1, _⟩ := sl hp
      exact ⟨l', h1⟩
    · rw [out hj] at h
      exact ⟨l, h⟩
  have m2 : ∀ {j : Nat} {l : List D}, e[j]? = some (some (.m l)) → ∃ l', (putO (psN 0 sh) outs e)[j]? = some (some (.m l')) := fun {j l} h => by
    rcases dec j with ⟨p, hp, rfl⟩ | hj
    · obtain ⟨t, o, _, _, z⟩ := inn hp
      exact ⟨o, z⟩
    · exact ⟨l, by rw [out hj]; exact h⟩
  have subM : ∀ a, isM (putO (psN 0 sh) outs e) σ a → isM e σ a := fun a ⟨j, l, h1, h2⟩ => let ⟨l', q⟩ := m1 h1; ⟨j, l', q, h2⟩
  have subA : ∀ a, Av Px (putO (psN 0 sh) outs e) σ a → A a := fun a h => h.elim (fun h => hA a (.inl h)) fun h => hA a (.inr (.inr (subM a h)))
  have k : Kp (Av P e σ) H (Av Px (putO (psN 0 sh) outs e) σ) H' := fun b o q n => by
    have z := af.kp b o q ⟨fun w => n.1 ((ap_av hs hv).mp w), n.2⟩
    exact ⟨z.1, fun w => z.2 (subA b w)⟩
  have keep : ∀ {j : Nat} {l : List D} {a : Addr}, (∀ p ∈ psN 0 sh, p.2 ≠ j) → e[j]? = some (some (.m l)) → σ[j]? = some (some (.ref a)) → H' a = H a := fun {j l a} hj h1 h2 => by
    refine af.pr a ⟨.inr ⟨j, l, h1, h2⟩, fun p hp z => ?_⟩
    obtain ⟨p, hp', rfl⟩ := List.mem_map.mp hp
    obtain ⟨l', a', q1, q2⟩ := sl hp'
    have z : adr σ p.2 = a := z
    rw [adr_of q2] at z
    subst z
    exact hj p hp' (s.inj _ _ _ _ _ q1 h1 q2 h2)
  have pr : ∀ a, P a → H' a = H a := fun a h => by
    refine af.pr a ⟨.inl h, fun p hp z => ?_⟩
    obtain ⟨p, hp', rfl⟩ := List.mem_map.mp hp
    obtain ⟨l', a', q1, q2⟩ := sl hp'
    have z : adr σ p.2 = a := z
    rw [adr_of q2] at z
    subst z
    obtain ⟨b, us, r1, _, _, r4⟩ := s.mm _ _ q1
    rw [q2] at r1
    cases r1
    exact r4 h
  refine ⟨⟨by rw [putO_len]; exact s.len, fun j d q => ?_, fun j l q => ?_, fun i j a l l' q1 q2 r1 r2 => ?_, fun b h => ?_, fun p hp => ?_, af.tb⟩, k, pr⟩
  · rcases dec j with ⟨p, hp, rfl⟩ | hj
    · obtain ⟨t, o, _, _, z⟩ := inn hp
      rw [z] at q
      cases q
    · rw [out hj] at q
      obtain ⟨v, h1, h2⟩ := s.vv j d q
      exact ⟨v, h1, Rep.kp k _ _ h2⟩
  · have notPx : ∀ {j : Nat} {l : List D} {a : Addr}, e[j]? = some (some (.m l)) → σ[j]? = some (some (.ref a)) → ¬ Px a := fun {j l a} h1 h2 w => by
      rcases hPx a w with w | ⟨w, _⟩
      · obtain ⟨b, us, r1, _, _, r4⟩ := s.mm _ _ h1
        rw [h2] at r1
        cases r1
        exact r4 w
      · exact w (.inr ⟨j, l, h1, h2⟩)
    rcases dec j with ⟨p, hp, rfl⟩ | hj
    · obtain ⟨t, o, z1, z2, z⟩ := inn hp
      rw [z] at q
      cases q
      obtain ⟨l', a, q1, q2⟩ := sl hp
      obtain ⟨us, y1, y2⟩ := af.out t (p.1, adr σ p.2) _ (by unfold psA; rw [List.getElem?_map, z1]; rfl) z2
      have y1 : H' (adr σ p.2) = some (.lst us) := y1
      rw [adr_of q2] at y1
      exact ⟨a, us, q2, y1, RepL.mono subA y2, notPx q1 q2⟩
    · rw [out hj] at q
      obtain ⟨a, us, h1, h2, h3, h4⟩ := s.mm j l q
      exact ⟨a, us, h1, by rw [keep hj q h1]; exact h2, RepL.kp k _ _ h3, notPx q h1⟩
  · obtain ⟨l1, q1⟩ := m1 q1
    obtain ⟨l2, q2⟩ := m1 q2
    exact s.inj i j a l1 l2 q1 q2 r1 r2
  · rcases hPx b h with h | ⟨_, h⟩
    · rw [pr b h]
      exact s.prv b h
    · exact h
  · obtain ⟨h1, l, h2⟩ := s.par p hp
    exact ⟨h1, m2 h2⟩
end

/-- arguments: values, and lists of one's own (their slots in sh) -/
def tAS (g : G) (P : Addr → Prop) (ps : List (Nat × Addr)) (W : WX) (sh : List (Option Nat)) (f : Env → R (List D)) : TA := fun σ H Q => ∃ e, StRel g P ps e σ H ∧ PR g P ps W e σ H (f e) (fun ds e' H' => ∀ vs, ArgV g H' (Av P e' σ) σ sh ds vs → Q vs H')
structure DAS (g : G) (mp : List Nat) (X : Cx) (es : List Expr) (sh : List (Option Nat)) (f : Env → R (List D)) : Prop where
  run : ∀ (P : Addr → Prop) (ps : List (Nat × Addr)) (W : WX), ps.map (·.1) = mp → Takes X W → PA X es (tAS g P ps W sh f)
def dMk (i : Nat) (fs : Env → R (List D)) : Env → R (List D) := fun e => bnd (opt (mAt e i) e) fun _ e1 => fs e1
def callF (F : List Slot → RF) (sh : List (Option Nat)) (fa : Env → R (List D)) {α : Type} (k : Slot → Option α) : Env → R α := fun e => bnd (fa e) fun ds e1 => match mkS sh ds e1 with
  | none => .bad
  | some ss => match F ss with
    | .ok s outs => opt (k s) (putO (psN 0 sh) outs e1)
    | .exc x outs => .exc x (putO (psN 0 sh) outs e1)
    | .bad => .bad
def kD : Slot → Option D
  | .v d => some d
  | .m ds => some (.lst ds)
def kM : Slot → Option (List D)
  | .v _ => none
  | .m ds => some ds
def dCall (F : List Slot → RF) (sh : List (Option Nat)) (fa : Env → R (List D)) : Env → R D := callF F sh fa kD
def mCall (F : List Slot → RF) (sh : List (Option Nat)) (fa : Env → R (List D)) : Env → R (List D) := callF F sh fa kM
/-- a def that keeps its promise, as the module's name x stands for it -/
structure Dfn (g : G) (Pr : Program) (w : World) (K : PySem.W.Frag) (mg : Str → Option Value) (base : Heap) (k : Nat) (x : Str) (m : Nat) (mp : List Nat) (F : List Slot → RF) : Prop where
  ex : ∃ f fd pn N, FnOk Pr w K mg base (L2.CX Pr w) k f fd pn (spD g N mp m F) ∧ mg x = some (.ref f) ∧ PySem.W.keepIn K (.ref f) = true ∧ Binds K fd pn []
theorem Dfn.mono {g Pr w K mg base k k' x m mp F} (h : Dfn g Pr w K mg base k x m mp F) (hk : k ≤ k') : Dfn g Pr w K mg base k' x m mp F := by
  obtain ⟨f, fd, pn, N, h1, h2⟩ := h.ex
  exact ⟨f, fd, pn, N, h1.mono hk, h2⟩
section
variable {g : G} {mp mc : List Nat} {X : Cx} {a : Expr} {es : List Expr} {fa : Env → R D} {fs : Env → R (List D)} {sh : List (Option Nat)} {pos p : Pos} {x : Str} {e : Expr}
theorem das_nil : DAS g mp X [] [] dNil := ⟨fun P ps W hp tk => pa_imp pa_nil fun σ H Q ⟨e, s, h⟩ => h _ (Go.refl s) [] rfl⟩
theorem das_v (ha : DE g mp X a fa) (hr : DAS g mp X es sh fs) (hs : starEach (a :: es) X.env = (false, eval a X.env) :: starEach es X.env := by rfl) : DAS g mp X (a :: es) (none :: sh) (dCons fa fs) :=
  ⟨fun P ps W hp tk => pa_imp (pa_cons (ha.run P ps W hp tk) (hr.run P ps W hp tk) hs) fun σ H Q ⟨e, s, h⟩ => by
    refine tD_of s (h.bnd.mono fun d e1 H1 go1 k v rv => ?_)
    exact ⟨e1, go1.st, k.bnd.mono fun ds e2 H2 go2 k vs rvs => k _ (Go.refl go2.st) _ ⟨d, ds, v, vs, rfl, rfl, Rep.kp go2.kp _ _ rv, rvs⟩⟩⟩
theorem das_m (i : Nat) (hr : DAS g mp X es sh fs) (hN : X.N[i]? = some x := by rfl) (hv : Vis X.env.scope x := by first | exact Or.inl rfl | exact Or.inr (Or.inl rfl) | exact Or.inr (Or.inr rfl)) (hd : (x == ("__debug__" : Str)) = false := by decide)
    (hcd : (x == ("__classdict__" : Str)) = false := by decide) (hs : starEach ((.Name x p) :: es) X.env = (false, eval (.Name x p) X.env) :: starEach es X.env := by rfl) : DAS g mp X ((.Name x p) :: es) (some i :: sh) (dMk i fs) :=
  ⟨fun P ps W hp tk => pa_imp (pa_cons (pe_var hN hv hd hcd) (hr.run P ps W hp tk) hs) fun σ H Q ⟨e, s, h⟩ => by
    obtain ⟨ds0, q0, h⟩ := PR.optM s h
    obtain ⟨a, vs0, hσ, _⟩ := s.mm i ds0 (mAt_some q0)
    exact ⟨.ref a, hσ, e, s, h.mono fun ds e2 H2 go2 k vs rvs => k _ ⟨a, vs, rfl, hσ, rvs⟩⟩⟩

theorem call_go {P : Addr → Prop} {ps : List (Nat × Addr)} {e : Env} {σ : L2.St} {H : Hp} {ds : List D} {ss : List Slot} {vs : List V} {F : List Slot → RF} {N : List Str} {m : Nat} {Q : VK} {E : XK} (s : StRel g P ps e σ H) (hs : mkS sh ds e = some ss) (hv : ArgV g H (Av P e σ) σ sh ds vs)
    (nd : ((psN 0 sh).map (·.2)).Nodup) (hm : (psN 0 sh).map (·.1) = mc) (hl : sh.length = m)
    (h : match F ss with
      | .ok (.v d) outs => ∀ v H', Go g P ps e σ H (putO (psN 0 sh) outs e) σ H' → Rep g H' (Av P (putO (psN 0 sh) outs e) σ) d v → Q v H'
      | .ok (.m l) outs => ∀ a H', GoM g P ps e σ H a l (putO (psN 0 sh) outs e) σ H' → Q (.ref a) H'
      | .exc x outs => ∀ cls d H', Go g P ps e σ H (putO (psN 0 sh) outs e) σ H' → XRep g H' (Av P (putO (psN 0 sh) outs e) σ) x cls d → E cls d H'
      | .bad => False) : spD g N mc m F vs H Q E := by
  obtain ⟨si, sA⟩ := call_in s N hs hv nd
  obtain ⟨l1, l2⟩ := arg_len hs hv
  refine ⟨by rw [l2, hl], PC P e σ sh, psA σ (psN 0 sh), ss, by unfold psA; rw [List.map_map]; exact hm, l1, si, sA, ?_⟩
  have goOf : ∀ {outs : List (List D)} {H' : Hp}, After g (PC P e σ sh) (psA σ (psN 0 sh)) (AP (PC P e σ sh) (psA σ (psN 0 sh))) outs H H' → Go g P ps e σ H (putO (psN 0 sh) outs e) σ H' ∧ (∀ a, Av P (putO (psN 0 sh) outs e) σ a → AP (PC P e σ sh) (psA σ (psN 0 sh)) a) := fun {outs H'} af => by
    obtain ⟨z1, z2, z3⟩ := call_out (Px := P) s hs hv nd af (fun b h => .inl h) fun b h => (ap_av hs hv).mpr (h.elim .inl id)
    refine ⟨⟨z1, z2, z3⟩, fun a h => ?_⟩
    refine (ap_av hs hv).mpr ?_
    by_cases q : Av P e σ a
    · exact q
    · rcases h with h | h
      · exact .inl h
      · obtain ⟨vs', hh⟩ := h.there z1
        obtain ⟨i, l, y1, y2⟩ := h
        rcases Classical.em (∃ p ∈ psN 0 sh, p.2 = i) with ⟨p, hp, rfl⟩ | hn
        · obtain ⟨k, l', a', _, _, w3, _, w5⟩ := arg_p hs hv hp
          rw [y2] at w5
          cases w5
          exact .inr ⟨p.2, l', mAt_of w3, y2⟩
        · rw [putO_out fun p hp z => hn ⟨p, hp, z⟩] at y1
          exact .inr ⟨i, l, y1, y2⟩
  revert h
  unfold ROK
  cases F ss with
  | bad => exact fun h => h
  | exc x outs =>
    intro h cls d H' af rx
    obtain ⟨go, sub⟩ := goOf af
    exact h cls d H' go (XRep.kp (fun b o q n => ⟨q, fun z => n.1 (sub b z)⟩) rx)
  | ok s' outs =>
    cases s' with
    | v d =>
      intro h v H' af rv
      obtain ⟨go, sub⟩ := goOf af
      exact h v H' go (Rep.mono sub rv)
    | m l =>
      intro h a H' af
      have na : ¬ Av P e σ a := fun z => af.na ((ap_av hs hv).mpr z)
      obtain ⟨us, u1, u2⟩ := af.at_
      have apx : ∀ b, Pl P a b ∨ Av P e σ b → AP (Pl (PC P e σ sh) a) (psA σ (psN 0 sh)) b := fun b h => by
        have key : Av P e σ b → AP (Pl (PC P e σ sh) a) (psA σ (psN 0 sh)) b := fun h => ((ap_av hs hv).mpr h).elim (fun h => .inl (.inl h)) .inr
        rcases h with (h | h) | h
        · exact key (.inl h)
        · exact .inl (.inr h)
        · exact key h
      obtain ⟨z1, z2, z3⟩ := call_out (Px := Pl P a) s hs hv nd af.af (fun b h => h.elim .inl fun h => .inr ⟨by rw [h]; exact na, by rw [h]; exact ⟨_, u1, nc_lst⟩⟩) apx
      refine h a H' ⟨z1, z2, z3, fun z => na (.inl z), us, u1, RepL.mono (fun b z => ?_) u2⟩
      rcases z with z | z
      · exact apx b (.inl z)
      · refine apx b ?_
        by_cases q : Av P e σ b
        · exact .inr q
        · obtain ⟨i, l', y1, y2⟩ := z
          rcases Classical.em (∃ p ∈ psN 0 sh, p.2 = i) with ⟨p, hp, rfl⟩ | hn
          · obtain ⟨k, l'', a', _, _, w3, _, w5⟩ := arg_p hs hv hp
            rw [y2] at w5
            cases w5
            exact .inr (.inr ⟨p.2, l'', mAt_of w3, y2⟩)
          · rw [putO_out fun p hp z => hn ⟨p, hp, z⟩] at y1
            exact .inr (.inr ⟨i, l', y1, y2⟩)
theorem de_call {k m : Nat} {F : List Slot → RF} (hF : Dfn g X.prog X.w X.K X.mg X.base k x m mc F) (hr : Room k X.A) (hg : Gl X x) (ha : DAS g mp X (e :: es) sh fs) (hm : (psN 0 sh).map (·.1) = mc := by rfl) (hl : sh.length = m := by rfl) (nd : ((psN 0 sh).map (·.2)).Nodup := by decide)
    (hdb : (x == ("__debug__" : Str)) = false := by decide) (he : starEach (e :: es) X.env = (false, eval e X.env) :: starEach es X.env := by rfl) (hpl : (backTo pos (starEach es X.env)).any (·.1) = false := by rfl) :
    DE g mp X (.Call (.Name x p) (e :: es) [] pos) (dCall F sh fs) := by
  obtain ⟨f, fd, pn, N, h1, h2, h3, h4⟩ := hF.ex
  refine ⟨fun P ps W hp tk => pe_imp (pe_callS h1 hr hg h2 h3 h4 (E := WE W) (fun σ => passAt tk σ) (ha.run P ps W hp tk) hdb he hpl) fun σ H Q h => ?_⟩
  obtain ⟨e0, s, h⟩ := tD_eq.mp h
  refine ⟨e0, s, h.bnd.mono fun ds e1 H1 go1 z vs av => ?_⟩
  cases hs : mkS sh ds e1 with
  | none => rw [hs] at z; exact z.elim
  | some ss =>
    rw [hs] at z
    refine call_go go1.st hs av nd hm hl ?_
    revert z
    dsimp only
    cases F ss with
    | bad => exact fun z => z
    | exc x outs => exact fun z cls d H' go rx => z cls d H' go rx
    | ok s' outs => cases s' with
      | v d => exact fun z v H' go rv => z H' go v rv
      | m l => exact fun z a H' gm => z H' gm.go _ gm.rep
theorem dm_call {k m : Nat} {F : List Slot → RF} (hF : Dfn g X.prog X.w X.K X.mg X.base k x m mc F) (hr : Room k X.A) (hg : Gl X x) (ha : DAS g mp X (e :: es) sh fs) (hm : (psN 0 sh).map (·.1) = mc := by rfl) (hl : sh.length = m := by rfl) (nd : ((psN 0 sh).map (·.2)).Nodup := by decide)
    (hdb : (x == ("__debug__" : Str)) = false := by decide) (he : starEach (e :: es) X.env = (false, eval e X.env) :: starEach es X.env := by rfl) (hpl : (backTo pos (starEach es X.env)).any (·.1) = false := by rfl) :
    DM g mp X (.Call (.Name x p) (e :: es) [] pos) (mCall F sh fs) := by
  obtain ⟨f, fd, pn, N, h1, h2, h3, h4⟩ := hF.ex
  refine ⟨fun P ps W hp tk => pe_imp (pe_callS h1 hr hg h2 h3 h4 (E := WE W) (fun σ => passAt tk σ) (ha.run P ps W hp tk) hdb he hpl) fun σ H Q h => ?_⟩
  obtain ⟨e0, s, h⟩ := tM_eq.mp h
  refine ⟨e0, s, h.bnd.mono fun ds e1 H1 go1 z vs av => ?_⟩
  cases hs : mkS sh ds e1 with
  | none => rw [hs] at z; exact z.elim
  | some ss =>
    rw [hs] at z
    refine call_go go1.st hs av nd hm hl ?_
    revert z
    dsimp only
    cases F ss with
    | bad => exact fun z => z
    | exc x outs => exact fun z cls d H' go rx => z cls d H' go rx
    | ok s' outs => cases s' with
      | v d => exact fun z => z.elim
      | m l => exact fun z a H' gm => z a H' gm
end
end DL
end

section
set_option Elab.async false
set_option linter.all false
set_option maxRecDepth 100000
set_option maxHeartbeats 4000000
namespace DL
open PySem PySem.Spec PyProof.Rows L2

/-- x[lo:hi] of a tuple or a list -/
def slD (d : D) (l h : Option Int) : Option D := match d with
  | .tup ds => some (.tup (cutD ds l h))
  | .lst ds => some (.lst (cutD ds l h))
  | _ => none
def dSl (f : Env → R D) (lo hi : Env → R (Option Int)) : Env → R D := fun e => bnd (f e) fun d e1 => bnd (lo e1) fun l e2 => bnd (hi e2) fun h e3 => opt (slD d l h) e3
section
variable {g : G} {mp : List Nat} {X : Cx} {x : Str} {pos p2 : Pos} {a b : Expr} {fa fb : Env → R D} {lo hi : Option Expr} {fl fh : Env → R (Option Int)}
theorem de_sl (hK : X.K = g.K) (ha : DE g mp X a fa) (hl : DO g mp X lo fl) (hh : DO g mp X hi fh) : DE g mp X (.Subscript a (.Slice lo hi none p2) pos) (dSl fa fl fh) := ⟨fun P ps W hp tk => pe_imp (pe_slice (sl_tupA.or sl_list) (ha.run P ps W hp tk) (hl.run P ps W hp tk) (hh.run P ps W hp tk)) fun σ H Q h => by
  obtain ⟨e, s, h⟩ := tD_eq.mp h
  refine tD_of s (h.bnd.mono fun d e1 H1 go1 z v rv => ⟨e1, go1.st, z.bnd.mono fun l e2 H2 go2 z2 => ⟨e2, go2.st, z2.bnd.mono fun u e3 H3 go3 z3 => ?_⟩⟩)
  have rv := Rep.kp (go2.kp.trans go3.kp) _ _ rv
  clear z z2 h
  obtain ⟨d', q, z3⟩ := PR.opt z3
  cases d <;> first | (cases q; done) | skip
  · rename_i ds
    cases q
    obtain ⟨p, vs, rfl, hq, rr⟩ := rv
    refine .inl ⟨p, vs, rfl, by rw [hK]; exact hq.sq, fun w => ?_, fun _ p hp => ?_⟩
    · rw [← rr.length] at w
      have z4 := z3 _ (Go.refl go3.st) (.ref p)
      rw [HT_sIx_take _ l u w] at z4
      exact z4 ⟨p, vs, rfl, hq, rr⟩
    · exact z3 _ (Go.new go3.st hp) _ (rep_tup (go3.st.fresh hp) hp (rr.cut l u))
  · cases q
    obtain ⟨p, vs, rfl, hq, rr⟩ := rv
    exact .inr ⟨p, vs, rfl, by rw [hK]; exact hq.sq, fun p hp => z3 _ (Go.new go3.st hp) _ (rep_lst (go3.st.fresh hp) hp (rr.cut l u))⟩⟩
end
section
variable {g : G} {mp : List Nat} {X : Cx} {x : Str} {pos : Pos}
theorem de_gint {i : Int} (hg : Gl X x) (h : ∃ t, X.mg x = some (.int i t)) (hd : (x == ("__debug__" : Str)) = false := by decide) : DE g mp X (.Name x pos) (dC (.int i)) := by
  obtain ⟨t, h⟩ := h
  exact de_c (pe_glob (v := .int i) hg h ⟨t, rfl⟩ hd) fun _ _ => rfl
theorem de_gfn {n : Nat} (hg : Gl X x) (h : X.mg x = some (.ref (g.fnA n))) (hd : (x == ("__debug__" : Str)) = false := by decide) : DE g mp X (.Name x pos) (dC (.fn n)) :=
  de_c (pe_glob (v := .ref (g.fnA n)) hg h rfl hd) fun _ _ => rfl
theorem de_gcl {n : Nat} (hg : Gl X x) (h : X.mg x = some (.ref (g.clA n))) (hd : (x == ("__debug__" : Str)) = false := by decide) : DE g mp X (.Name x pos) (dC (.cl n)) :=
  de_c (pe_glob (v := .ref (g.clA n)) hg h rfl hd) fun _ _ => rfl
end
section
variable {g : G} {P : Addr → Prop} {ps : List (Nat × Addr)} {W : WX} {i : Nat} {fm : Env → R (List D)} {Dn : Ends} {σ : L2.St} {H : Hp}
theorem tM_asgM (hl : i < σ.length) (hm : i ∉ ps.map (·.1)) (q : tS g P ps W (sAsgM i fm) Dn σ H) : tM g P ps W fm σ H (fun x H1 => gName i x σ H1 Dn.nx) := by
  obtain ⟨e, s, q⟩ := tS_eq.mp q
  refine ⟨e, s, ?_⟩
  unfold sAsgM at q
  revert q
  cases fm e with
  | ok ds e1 => exact fun q a H' gm => q _ _ (gm.setm hl hm)
  | exc x e1 => exact fun q c d H' z r => q c d σ H' z r
  | bad => exact fun q => q
theorem tM_asgV (hm : i ∉ ps.map (·.1)) (q : tS g P ps W (sAsg (dM fm) (gtN i)) Dn σ H) : tM g P ps W fm σ H (fun x H1 => gName i x σ H1 Dn.nx) := by
  obtain ⟨e, s, q⟩ := tS_eq.mp q
  refine ⟨e, s, ?_⟩
  unfold sAsg dM at q
  revert q
  cases fm e with
  | ok ds e1 => exact fun q a H' gm => q _ _ (gm.go.trans (gm.go.st.setv gm.rep hm))
  | exc x e1 => exact fun q c d H' z r => q c d σ H' z r
  | bad => exact fun q => q
end
section
variable {g : G} {mp : List Nat} {X : Cx} {y : Str} {py spos pos : Pos} {elt tg iter : Expr} {ifs : List Expr} {scope : Scope} {own : List (Str × Nat)} {fi : Env → R (List D)} {sl : List Nat} {t : D → Env → Option Env} {tt : Env → R Bool} {fe : Env → R D} {f : Env → RS}
theorem ds_lc (i : Nat) (hi0 : i ∉ mp) (hf : ∀ P ps W Dn σ H, i < σ.length → i ∉ ps.map (·.1) → tS g P ps W f Dn σ H → tM g P ps W (mComp (own.map (·.2)) fi t tt fe) σ H (fun x H1 => gName i x σ H1 Dn.nx)) (hN : X.N.Nodup) (hc : X.calm = true) (hy : X.N[i]? = some y) (hyl : X.env.scope.names.lookup y = some .local)
    (hsw : swapsWith (.ListComp elt [⟨tg, iter, ifs, 0⟩] scope pos) (some (.Name y py)) spos.line X.env = pure true) (hi : DI g mp X tg iter fi) (ok : BlkOk X.N X.env.scope scope own)
    (hg : ∀ (s : Shared) (H : Hp) (C : Addr) (cl : List (Str × Addr)) (fp : List Addr), DG g mp (X.blk s H scope (compEnvC scope cl C X.env) fp) tg sl t) (ht : ∀ (s : Shared) (H : Hp) (C : Addr) (cl : List (Str × Addr)) (fp : List Addr), DTs g mp (X.blk s H scope (compEnvC scope cl C X.env) fp) ifs tt)
    (he : ∀ (s : Shared) (H : Hp) (C : Addr) (cl : List (Str × Addr)) (fp : List Addr), DE g mp (X.blk s H scope (compEnvC scope cl C X.env) fp) elt fe) (hm : ∀ j ∈ own.map (·.2), j ∉ mp) (hsl : ∀ j ∈ sl, j ∈ own.map (·.2)) (hs : ∀ x, foldedSetIterable iter X.env x = pure x) :
    DS g mp X (.Assign [.Name y py] (.ListComp elt [⟨tg, iter, ifs, 0⟩] scope pos) spos) f := ⟨fun P ps W hp tk => by
  have hpo : ∀ p ∈ ps, p.1 ∉ own.map (·.2) := fun p h z => hm _ z (by rw [← hp]; exact List.mem_map_of_mem h)
  refine ⟨fun pins s σ H Dn I q => ?_⟩
  have hl : i < σ.length := by
    rw [I.len]
    exact (List.getElem?_eq_some_iff.mp hy).1
  have q := hf P ps W Dn σ H hl (by rw [hp]; exact hi0) q
  refine (ps_setLc (g := fun v σ H Q => ∃ a, tG g (Pl P a) ps sl t v σ H Q) (tt := fun σ H Q => ∃ a, tB g (Pl P a) ps (fun _ _ _ _ => False) tt σ H Q) (te := fun σ H Q => ∃ a, tD g (Pl P a) ps (fun _ _ _ _ => False) fe σ H Q) hc hN hy hyl hsw (hi.run P ps W hp tk) ok (fun s H C cl fp => ?_) (fun s H C cl fp => ?_) (fun s H C cl fp => ?_) hs).run pins s σ H Dn I
    (tLc_of hpo hsl q _ _ _ (fun a v σ H Q z => ⟨a, z⟩) (fun a σ H Q z => ⟨a, z⟩) (fun a σ H Q z => ⟨a, z⟩))
  · exact ⟨fun pins s' σ' H' v u Q I r ⟨a, z⟩ => ((hg s H C cl fp).run (Pl P a) ps hp).run pins s' σ' H' v u Q I r z⟩
  · exact ⟨fun pins s' σ' H' Q I ⟨a, z⟩ => ((ht s H C cl fp).run (Pl P a) ps _ hp takes0).run pins s' σ' H' Q I z⟩
  · exact ⟨fun pins s' σ' H' Q I ⟨a, z⟩ => ((he s H C cl fp).run (Pl P a) ps _ hp takes0).run pins s' σ' H' Q I z⟩⟩
theorem ds_lcV (i : Nat) (hN : X.N.Nodup) (hc : X.calm = true) (hi : DI g mp X tg iter fi) (ok : BlkOk X.N X.env.scope scope own)
    (hg : ∀ (s : Shared) (H : Hp) (C : Addr) (cl : List (Str × Addr)) (fp : List Addr), DG g mp (X.blk s H scope (compEnvC scope cl C X.env) fp) tg sl t) (ht : ∀ (s : Shared) (H : Hp) (C : Addr) (cl : List (Str × Addr)) (fp : List Addr), DTs g mp (X.blk s H scope (compEnvC scope cl C X.env) fp) ifs tt)
    (he : ∀ (s : Shared) (H : Hp) (C : Addr) (cl : List (Str × Addr)) (fp : List Addr), DE g mp (X.blk s H scope (compEnvC scope cl C X.env) fp) elt fe)
    (hy : X.N[i]? = some y := by rfl) (hyl : X.env.scope.names.lookup y = some .local := by rfl) (hsw : swapsWith (.ListComp elt [⟨tg, iter, ifs, 0⟩] scope pos) (some (.Name y py)) spos.line X.env = pure true := by rfl) (hi0 : i ∉ mp := by decide)
    (hm : ∀ j ∈ own.map (·.2), j ∉ mp := by decide) (hsl : ∀ j ∈ sl, j ∈ own.map (·.2) := by decide) (hs : ∀ x, foldedSetIterable iter X.env x = pure x := by intro _; rfl) :
    DS g mp X (.Assign [.Name y py] (.ListComp elt [⟨tg, iter, ifs, 0⟩] scope pos) spos) (sAsg (dM (mComp (own.map (·.2)) fi t tt fe)) (gtN i)) :=
  ds_lc i hi0 (fun P ps W Dn σ H hl hm q => tM_asgV hm q) hN hc hy hyl hsw hi ok hg ht he hm hsl hs
theorem ds_lcM (i : Nat) (hN : X.N.Nodup) (hc : X.calm = true) (hi : DI g mp X tg iter fi) (ok : BlkOk X.N X.env.scope scope own)
    (hg : ∀ (s : Shared) (H : Hp) (C : Addr) (cl : List (Str × Addr)) (fp : List Addr), DG g mp (X.blk s H scope (compEnvC scope cl C X.env) fp) tg sl t) (ht : ∀ (s : Shared) (H : Hp) (C : Addr) (cl : List (Str × Addr)) (fp : List Addr), DTs g mp (X.blk s H scope (compEnvC scope cl C X.env) fp) ifs tt)
    (he : ∀ (s : Shared) (H : Hp) (C : Addr) (cl : List (Str × Addr)) (fp : List Addr), DE g mp (X.blk s H scope (compEnvC scope cl C X.env) fp) elt fe)
    (hy : X.N[i]? = some y := by rfl) (hyl : X.env.scope.names.lookup y = some .local := by rfl) (hsw : swapsWith (.ListComp elt [⟨tg, iter, ifs, 0⟩] scope pos) (some (.Name y py)) spos.line X.env = pure true := by rfl) (hi0 : i ∉ mp := by decide)
    (hm : ∀ j ∈ own.map (·.2), j ∉ mp := by decide) (hsl : ∀ j ∈ sl, j ∈ own.map (·.2) := by decide) (hs : ∀ x, foldedSetIterable iter X.env x = pure x := by intro _; rfl) :
    DS g mp X (.Assign [.Name y py] (.ListComp elt [⟨tg, iter, ifs, 0⟩] scope pos) spos) (sAsgM i (mComp (own.map (·.2)) fi t tt fe)) :=
  ds_lc i hi0 (fun P ps W Dn σ H hl hm q => tM_asgM hl hm q) hN hc hy hyl hsw hi ok hg ht he hm hsl hs
end
/-- what a def of the program is, as the name x stands for it -/
structure DefAt (g : G) (mg : Str → Option Value) (n : Nat) (x : Str) (st : Stmt) : Prop where
  ex : ∃ fd, Fun g.K x x st (g.fnA n) fd ∧ mg x = some (.ref (g.fnA n))
theorem dfn_mk {n : Nat} {g : G} {Pr : Program} {w : World} {mg : Str → Option Value} {base : Heap} {x : Str} {st : Stmt} {N pn : List Str} {k : Nat} {mp : List Nat} {fb : Env → RS} (h : DefAt g mg n x st) (S : FnScope N pn (defScope st))
    (hb : ∀ (kV doc pm : Value) (an : Option Addr) (cdv ct : Value) (us : List Value), us.length = pn.length → bindArgs (PySem.W.fnOf x x (defArgs st) (defBody st) (defScope st) .none kV doc pm an cdv ct) ⟨us, []⟩ = pure (pn.zip us))
    (hbody : ∀ (f : Addr) (cdv : Value) (A : Around) (outer : List PySem.Env) (s : Shared) (H : Hp) (E : XK), Room k (A.deeper (envOfC x (defScope st) s.heap.objs.size f cdv)) →
      DSs g mp (cxOf (L2.CX Pr w) Pr w g.K mg base N x (defScope st) f cdv A outer s H E) (defBody st) fb) :
    Dfn g Pr w g.K mg base (k + 1) x pn.length mp (fun ss => fin mp (fb (startE N.length ss))) := by
  obtain ⟨fd, F, hm⟩ := h.ex
  exact ⟨_, fd, pn, N, fn_okD F S fun cdv A outer s H E hr => hbody _ cdv A outer s H E hr, hm, F.kp, F.binds hb⟩
theorem u1 {k : Nat} {A : Around} (h : Room k A) : A.units + 1 < cLine := by have := h.un; omega
theorem u64 {k : Nat} {A : Around} (h : Room k A) : A.units + 64 < cLine := by have := h.un; omega
theorem po_cx {CX : CXT} {P : Program} {w : World} {K : PySem.W.Frag} {mg : Str → Option Value} {base : Heap} {N : List Str} {qual : Str} {scope : Scope} {f : Addr} {cd : Value} {A : Around} {outer : List PySem.Env} {s : Shared} {H : Hp} {E : XK} :
    PassesOwn (model P w) (cxOf CX P w K mg base N qual scope f cd A outer s H E).A (cxOf CX P w K mg base N qual scope f cd A outer s H E).env (cxOf CX P w K mg base N qual scope f cd A outer s H E).xe :=
  passes_of (X := cxOf CX P w K mg base N qual scope f cd A outer s H E) (K := fun e s'' => CX outer H s E e s'') (E₁ := fun e s'' => CX outer H s E e s'') rfl
end DL
end

section
set_option Elab.async false
set_option linter.all false
set_option maxRecDepth 100000
set_option maxHeartbeats 4000000
namespace DL
open PySem PySem.Spec PyProof.Rows L2

/-! ### a, .., *rest = t -/
def gStar (K : PySem.W.Frag) (n : Nat) (t : TGs) : TG := fun v σ H Q => ∃ a xs, v = .ref a ∧ SqT K H a xs ∧ n ≤ xs.length ∧ xs.length ≤ sizeLine ∧ ∀ l, H l = none → t (xs.take n ++ [.ref l]) σ (upd H l (.lst (xs.drop n))) Q
section
variable {X : Cx} {pos : Pos}
theorem pgs_star {e : Expr} {p : Pos} {es : List Expr} {t : TG} {u : TGs} (h1 : PG X e t) (h2 : PGs X es u) : PGs X (.Starred e p :: es) (gCons t u) := by
  refine ⟨fun pins s σ H vs us Q I r h => ?_⟩
  obtain ⟨v, vr, e1, h⟩ := h
  subst e1
  cases r with
  | cons r rr =>
    show wpAny _ _ (assignInOrder (assign e X.env :: (assignEach es X.env).map (·.2)) _) _ _ _
    refine assignInOrder_cons (thn (h1.run pins s σ H _ _ _ I r h) fun _ s1 ⟨σ1, H1, I1, q1⟩ => ?_)
    exact h2.run pins s1 σ1 H1 _ _ Q I1 rr q1
theorem pg_star {es : List Expr} {k : Nat} {t : TGs} {n : Nat} (hc : X.calm = true) (h : PGs X es t)
    (hn : (assignEach es X.env).length = n + 1 := by rfl) (hst : (assignEach es X.env).findIdx? (·.1) = some n := by rfl) : PG X (.Tuple es k pos) (gStar X.K n t) := by
  refine ⟨fun pins s σ H v u Q I r hw => ?_⟩
  obtain ⟨a, xs, e1, hq, hle, hz2, hw⟩ := hw
  subst e1
  cases r
  obtain ⟨its, rv, ht, hz⟩ := I.tuple hq
  have hh := I.ok.hd hc
  have hlt : a ≠ s.heap.objs.size := by obtain ⟨o, ho, _⟩ := ht; exact Nat.ne_of_lt (Heap.lt_size ho)
  have hlen := rv.length
  show wpAny _ _ (do standAt pos; unpack (.ref a) (assignEach es X.env)) _ _ _
  refine wpAny_bind (wpAny_standAt ?_)
  unfold unpack
  rw [hn, hst]
  refine wpAny_bind (wpAny_holding ?_)
  unfold unpackItems
  refine wpAny_bind ?_
  unfold notIterableAtAll
  refine wpAny_bind (wpAny_specialOf ht.typeIs slot_tuple_iter.lookup ?_)
  refine wpAny_pure ?_
  simp only [Bool.false_eq_true, if_false]
  refine wpAny_bind (wpAny_holding (iter_tuple ht ?_))
  refine wpAny_bind (wpAny_holding (draw_tuple hlt n 0 _ _ ⟨_, Heap.get?_push_size _ rfl, rfl, rfl⟩ (ht.push _) (by simp; omega) fun h₁ hit₁ hs₁ => ?_))
  have hl₁ : IsTup h₁ a its.toArray := (ht.push _).extBut hs₁.extBut hlt
  rw [Nat.zero_add] at hit₁
  have hit₁' := hit₁
  obtain ⟨oi, hoi, _⟩ := hit₁'
  have hl₁' := hl₁
  obtain ⟨ol, hol, _⟩ := hl₁'
  rw [List.drop_zero]
  have hfl : (its.toArray.toList.take n).length = n := by rw [List.length_take]; simp; omega
  rw [if_neg (show ¬ ((its.toArray.toList.take n).length < n) by rw [hfl]; omega)]
  refine wpAny_bind (wpAny_holding (PySem.W.kun_collect (s := { s with heap := h₁ }) (T := "tuple_iterator") (.inr (.inr (.inr rfl))) (Walks.tuple (A := X.A.in1) hh s.heap.objs.size a hlt its.toArray) (fun j u st => st.1.typeIs) (k := n) (by simp; omega) ⟨hit₁, hl₁⟩ (Heap.lt_size hoi) (Heap.lt_size hol) (fun h₂ tk hk => ?_) (by simp; omega)))
  have hrl : (its.toArray.toList.drop n).length = xs.length - n := by simp [hlen]
  have hmid : (its.toArray.toList.drop n).length - (n + 1 - 1 - n) = xs.length - n := by rw [hrl]; omega
  show wpAny _ _ (if (its.toArray.toList.drop n).length < n + 1 - 1 - n then _ else _) _ _ _
  rw [if_neg (by rw [hrl]; omega)]
  show wpAny _ _ (newList ((its.toArray.toList.drop n).take ((its.toArray.toList.drop n).length - (n + 1 - 1 - n))) >>= fun d => pure (its.toArray.toList.take n ++ [d] ++ (its.toArray.toList.drop n).drop ((its.toArray.toList.drop n).length - (n + 1 - 1 - n)))) _ _ _
  rw [hmid]
  have et : (its.toArray.toList.drop n).take (xs.length - n) = its.drop n := by
    simp only [List.toList_toArray]
    exact List.take_of_length_le (by rw [List.length_drop]; omega)
  have ed : (its.toArray.toList.drop n).drop (xs.length - n) = [] := by
    simp only [List.toList_toArray]
    exact List.drop_eq_nil_of_le (by rw [List.length_drop]; omega)
  rw [et, ed]
  simp only [List.append_nil]
  have he : ∀ b o, s.heap.get? b = some o → h₂.get? b = some o := fun b o e => hk b o (Nat.ne_of_lt (Heap.lt_size e)) (hs₁.extBut b o (Nat.ne_of_lt (Heap.lt_size e)) (Heap.get?_push_of_some _ e))
  have I2 : Inv X pins σ H { s with heap := h₂, toks := tk } := I.kept he
  refine wpAny_bind (wpAny_newList ?_ (by rw [List.length_drop]; omega))
  refine wpAny_pure ?_
  have I3 := I2.lnew (ys := xs.drop n) (its := its.drop n) (t' := tk) (rv.drop n) (by rw [List.length_drop]; omega)
  refine h.run pins _ σ _ _ _ Q I3 ?_ (hw _ I2.fresh)
  simp only [List.toList_toArray]
  exact (rv.take n).append (.cons rfl .nil)
end
/-- .. of a tuple -/
def gtStar (n : Nat) (t : List D → Env → Option Env) : D → Env → Option Env := fun d e => match d with
  | .tup ds => if n ≤ ds.length ∧ ds.length ≤ 16777216 then t (ds.take n ++ [.lst (ds.drop n)]) e else none
  | _ => none
section
variable {g : G} {mp : List Nat} {X : Cx} {x : Str} {pos : Pos} {tg : Expr} {tgs : List Expr}
theorem dgs_star {sl sl2 : List Nat} {p : Pos} {t : D → Env → Option Env} {u : List D → Env → Option Env} (a : DG g mp X tg sl t) (b : DGs g mp X tgs sl2 u) : DGs g mp X (.Starred tg p :: tgs) (sl ++ sl2) (gtCons t u) :=
  ⟨fun P ps hp => pgs_imp (pgs_star (a.run P ps hp) (b.run P ps hp)) fun vs σ H Q ⟨e, ds, s, r, e', q, k⟩ => by
    unfold gtCons at q
    cases ds with
    | nil => cases q
    | cons d ds =>
      obtain ⟨v, rr, rfl, r1, r2⟩ := r
      have q : (t d e).bind (u ds) = some e' := q
      cases z : t d e with
      | none => rw [z] at q; cases q
      | some e1 =>
        rw [z] at q
        refine ⟨v, rr, rfl, e, d, s, r1, e1, z, fun σ1 H1 go1 o1 => ⟨e1, ds, go1.st, RepL.kp go1.kp _ _ r2, e', q, fun σ' H' go2 o2 => k _ _ (go1.trans go2) ((o1.mono fun j z => List.mem_append_left _ z).trans (o2.mono fun j z => List.mem_append_right _ z))⟩⟩⟩
theorem dg_star {sl : List Nat} {t : List D → Env → Option Env} {n : Nat} {k : Nat} (hK : X.K = g.K) (hc : X.calm = true) (h : DGs g mp X tgs sl t) (hn : (assignEach tgs X.env).length = n + 1 := by rfl) (hst : (assignEach tgs X.env).findIdx? (·.1) = some n := by rfl) : DG g mp X (.Tuple tgs k pos) sl (gtStar n t) :=
  ⟨fun P ps hp => pg_imp (pg_star hc (h.run P ps hp) hn hst) fun v σ H Q ⟨e, d, s, r, e', q, kk⟩ => by
    cases d <;> first | (cases q; done) | skip
    rename_i ds
    obtain ⟨a, vs, rfl, hq, rr⟩ := r
    have q : (if n ≤ ds.length ∧ ds.length ≤ 16777216 then t (ds.take n ++ [.lst (ds.drop n)]) e else none) = some e' := q
    split at q
    · rename_i hl
      have hlen := rr.length
      refine ⟨a, vs, rfl, by rw [hK]; exact hq.sq, by omega, by rw [sizeLine_eq]; omega, fun l hl => ?_⟩
      have go1 := Go.new s (o := .lst (vs.drop n)) hl
      exact ⟨e, _, go1.st, RepL.append (es := [.lst (ds.drop n)]) (us := [.ref l]) (RepL.kp (kp_new hl) _ _ (rr.take n)) ⟨_, [], rfl, rep_lst (s.fresh hl) hl (rr.drop n), rfl⟩, e', q, fun σ' H' go2 o2 => kk _ _ (go1.trans go2) o2⟩
    · cases q⟩
end
end DL
end

section
set_option Elab.async false
set_option linter.all false
set_option maxRecDepth 100000
set_option maxHeartbeats 4000000
namespace DL
open PySem PySem.Spec PyProof.Rows L2

/-! ### {k: v, ..} with written keys -/
def rdP (g : G) (P : Addr → Prop) (ps : List (Nat × Addr)) (W : WX) (ks : List Key) (f : Env → R (List D)) (σ : L2.St) (H : Hp) (Q : List (V × V) → Hp → Prop) : Prop :=
  ∃ e, StRel g P ps e σ H ∧ PR g P ps W e σ H (f e) (fun ds e' H' => ∀ vs, RepL g H' (Av P e' σ) ds vs → Q ((ks.map kV).zip vs) H')
structure DPs (g : G) (mp : List Nat) (X : Cx) (pos : Pos) (keys : List (Option Expr)) (values : List Expr) (ks : List Key) (f : Env → R (List D)) : Prop where
  run : ∀ (ps : List (Nat × Addr)) (W : WX), ps.map (·.1) = mp → Takes X W → ∃ trs, PPs X pos keys values trs ∧ ∀ P σ H Q, rdP g P ps W ks f σ H Q → tPairs trs σ H Q
  all : keys.all (·.isSome) = true ∧ keys.length = values.length ∧ keys.length = ks.length
section
variable {g : G} {mp : List Nat} {X : Cx} {x : Str} {pos : Pos} {a b c : Expr} {fa fb fc : Env → R D} {keys : List (Option Expr)} {values : List Expr} {ks : List Key} {fs : Env → R (List D)}
theorem dps_nil : DPs g mp X pos [] [] [] dNil := ⟨fun ps W hp tk => ⟨[], pps_nil, fun P σ H Q ⟨e, s, h⟩ => h _ (Go.refl s) [] rfl⟩, rfl, rfl, rfl⟩
theorem dps_cons {k : Expr} {q : Key} (hk : PE X k (tC (kV q))) (hv : DE g mp X a fa) (hr : DPs g mp X pos keys values ks fs) : DPs g mp X pos (some k :: keys) (a :: values) (q :: ks) (dCons fa fs) :=
  ⟨fun ps W hp tk => by
    obtain ⟨trs, h1, h2⟩ := hr.run ps W hp tk
    refine ⟨_, pps_cons (tv := fun σ H Q => ∃ P, tD g P ps W fa σ H Q) hk ⟨fun pins s σ H Q I ⟨P, z⟩ => (hv.run P ps W hp tk).run pins s σ H Q I z⟩ h1, fun P σ H Q ⟨e, s, h⟩ => ⟨P, ?_⟩⟩
    refine tD_of s (h.bnd.mono fun d e1 H1 go1 z v rv => h2 P _ _ _ ⟨e1, go1.st, z.bnd.mono fun ds e2 H2 go2 z2 vs rvs => ?_⟩)
    exact z2 _ (Go.refl go2.st) (v :: vs) ⟨v, vs, rfl, Rep.kp go2.kp _ _ rv, rvs⟩, by
    obtain ⟨h1, h2, h3⟩ := hr.all
    exact ⟨by rw [List.all_cons, h1]; rfl, by simp [h2], by simp [h3]⟩⟩
theorem dps_str {z : Str} {j : Nat} {p : Pos} (hv : DE g mp X a fa) (hr : DPs g mp X pos keys values ks fs) : DPs g mp X pos (some (.Constant (.str z) j p) :: keys) (a :: values) (.inr z :: ks) (dCons fa fs) := dps_cons pe_str hv hr
theorem dps_int {z : Int} {j : Nat} {p : Pos} (hv : DE g mp X a fa) (hr : DPs g mp X pos keys values ks fs) : DPs g mp X pos (some (.Constant (.int z) j p) :: keys) (a :: values) (.inl z :: ks) (dCons fa fs) := dps_cons pe_int hv hr
end
theorem putK_new {kvs : List (Key × V)} {k : Key} {v : V} (h : k ∉ kvs.map (·.1)) : putK kvs k v = kvs ++ [(k, v)] := by
  unfold putK
  rw [if_neg]
  intro z
  obtain ⟨p, hp, q⟩ := List.any_eq_true.mp z
  exact h (List.mem_map.mpr ⟨p, hp, of_decide_eq_true q⟩)
theorem mergeK_new : ∀ {more kvs : List (Key × V)}, (more.map (·.1)).Nodup → (∀ k ∈ more.map (·.1), k ∉ kvs.map (·.1)) → mergeK kvs more = kvs ++ more
  | [], kvs, _, _ => by show kvs = kvs ++ []; rw [List.append_nil]
  | p :: r, kvs, h1, h2 => by
    obtain ⟨n1, n2⟩ := List.nodup_cons.mp h1
    show mergeK (putK kvs p.1 p.2) r = _
    rw [putK_new (h2 p.1 (by simp)), mergeK_new n2 fun k hk z => ?_, List.append_assoc]
    · rfl
    · rw [List.map_append] at z
      rcases List.mem_append.mp z with z | z
      · exact h2 k (List.mem_cons_of_mem _ hk) z
      · have : k = p.1 := by simpa using z
        exact n1 (by show p.1 ∈ _; rw [← this]; exact hk)
def dDisp (ks : List Key) (f : Env → R (List D)) : Env → R D := fun e => bnd (f e) fun ds e1 => if ds.length = ks.length then .ok (.dct ks ds) e1 else .bad
def dEmp : Env → R D := fun e => .ok (.dct [] []) e
section
variable {g : G} {mp : List Nat} {X : Cx} {x : Str} {pos : Pos} {a b c : Expr} {fa fb fc : Env → R D} {keys : List (Option Expr)} {values : List Expr} {ks : List Key} {fs : Env → R (List D)}
theorem tabs_upd' {T : List (Addr × Str)} {H : Hp} {a : Addr} {o0 o : HO} (t : LamX.Tabs T H) (h : H a = some o0) (n0 : NT o0) (nc : ∀ c q, LamX.CodeO c q ≠ o0) : LamX.Tabs T (upd H a o) := fun p hp => by
  obtain ⟨ps, h1, h2, h3⟩ := t p hp
  have n1 : p.1 ≠ a := fun z => by
    rw [z, h] at h1
    exact n0 ps (Option.some.inj h1)
  refine ⟨ps, by rw [upd_ne n1]; exact h1, h2, fun pos cv hc => ?_⟩
  obtain ⟨c, e1, e2⟩ := h3 pos cv hc
  have n2 : c ≠ a := fun z => by
    subst z
    rw [h] at e2
    exact nc _ _ (Option.some.inj e2).symm
  exact ⟨c, e1, by rw [upd_ne n2]; exact e2⟩
/-- a new object, set apart -/
theorem StRel.newP {P ps e σ H} (s : StRel g P ps e σ H) {p : Addr} {o : HO} (h : H p = none) (nc : NC o) : StRel g (Pl P p) ps e σ (upd H p o) ∧ Kp (Av P e σ) H (Av (Pl P p) e σ) (upd H p o) := by
  have nA := s.fresh h
  have k : Kp (Av P e σ) H (Av (Pl P p) e σ) (upd H p o) := fun b u q n => by
    have nb : b ≠ p := ne_of_none q h
    rw [upd_ne nb]
    refine ⟨q, fun z => ?_⟩
    rcases z with (z | z) | z
    · exact n.1 (.inl z)
    · exact nb z
    · exact n.1 (.inr z)
  refine ⟨⟨s.len, fun i d q => ?_, fun i es q => ?_, s.inj, fun b q => ?_, s.par, tabs_new s.tb h⟩, k⟩
  · obtain ⟨v, h1, h2⟩ := s.vv i d q
    exact ⟨v, h1, Rep.kp k _ _ h2⟩
  · obtain ⟨b, us, h1, h2, h3, h4⟩ := s.mm i es q
    have nb : b ≠ p := ne_of_none h2 h
    exact ⟨b, us, h1, by rw [upd_ne nb]; exact h2, RepL.kp k _ _ h3, fun z => z.elim h4 nb⟩
  · by_cases hb : b = p
    · rw [hb, upd_same]; exact ⟨_, rfl, nc⟩
    · rw [upd_ne hb]
      rcases q with q | q
      · exact s.prv b q
      · exact absurd q hb
/-- .. is written, and shared from now on -/
theorem Go.fill {P ps e σ H e1 H1} (s : StRel g P ps e σ H) {p : Addr} {o0 o : HO} (h : H p = none) (go : Go g (Pl P p) ps e σ (upd H p o0) e1 σ H1) (n0 : NT o0) (nc : ∀ c q, LamX.CodeO c q ≠ o0) :
    H1 p = some o0 ∧ Kp (Av (Pl P p) e1 σ) H1 (Av P e1 σ) (upd H1 p o) ∧ Go g P ps e σ H e1 σ (upd H1 p o) ∧ ¬ Av P e1 σ p := by
  have h1 : H1 p = some o0 := (go.pr p (.inr rfl)).trans upd_same
  have k : Kp (Av (Pl P p) e1 σ) H1 (Av P e1 σ) (upd H1 p o) := fun b u q n => by
    have nb : b ≠ p := fun z => n.1 (.inl (.inr z))
    exact ⟨by rw [upd_ne nb]; exact q, fun z => n.1 (z.mono fun _ z => .inl z)⟩
  have k0 := (s.newP (o := o0) h ⟨nc, n0⟩).2
  have nP : ∀ b, P b → b ≠ p := fun b hb z => by
    obtain ⟨u, q, _⟩ := s.prv b hb
    rw [z, h] at q
    cases q
  have nA : ¬ Av P e1 σ p := by
    rintro (z | ⟨j, es, q1, q2⟩)
    · exact nP p z rfl
    · obtain ⟨b, us, r1, r2, _, r4⟩ := go.st.mm j es q1
      rw [q2] at r1
      cases r1
      exact r4 (.inr rfl)
  refine ⟨h1, k, ⟨⟨go.st.len, fun i d q => ?_, fun i es q => ?_, go.st.inj, fun b hb => ?_, go.st.par, tabs_upd' go.st.tb h1 n0 nc⟩, (k0.trans go.kp).trans k, fun b hb => ?_⟩, nA⟩
  · obtain ⟨v, q1, q2⟩ := go.st.vv i d q
    exact ⟨v, q1, Rep.kp k _ _ q2⟩
  · obtain ⟨b, us, q1, q2, q3, q4⟩ := go.st.mm i es q
    have nb : b ≠ p := fun z => q4 (.inr z)
    exact ⟨b, us, q1, by rw [upd_ne nb]; exact q2, RepL.kp k _ _ q3, fun z => q4 (.inl z)⟩
  · rw [upd_ne (nP b hb)]
    exact go.st.prv b (.inl hb)
  · rw [upd_ne (nP b hb), go.pr b (.inl hb), upd_ne (nP b hb)]
theorem de_emp : DE g mp X (.Dict [] [] pos) dEmp := ⟨fun P ps W hp tk => pe_imp pe_dnewK fun σ H Q q => by
  obtain ⟨e, s, q⟩ := tD_eq.mp q
  intro p hp
  exact q _ (Go.new s hp) _ ⟨p, [], rfl, ⟨s.fresh hp, upd_same⟩, rfl, rfl⟩⟩
theorem zip_map_kV : ∀ (ks : List Key) (vs : List V), (ks.map kV).zip vs = (ks.zip vs).map fun kv => (kV kv.1, kv.2)
  | [], _ => rfl
  | _ :: _, [] => rfl
  | k :: ks, v :: vs => by
    show (kV k, v) :: (ks.map kV).zip vs = (kV k, v) :: (ks.zip vs).map _
    rw [zip_map_kV ks vs]
theorem de_disp (h : DPs g mp X pos keys values ks fs) (hnd : ks.Nodup := by decide) (h0 : keys ≠ [] := by exact fun z => by cases z) (h15 : keys.length ≤ 15 := by decide) : DE g mp X (.Dict keys values pos) (dDisp ks fs) := ⟨fun P ps W hp tk => by
  obtain ⟨trs, h1, h2⟩ := h.run ps W hp tk
  refine pe_imp (pe_disp h1 h.all.1 h.all.2.1 h0 h15) fun σ H Q q => ?_
  obtain ⟨e, s, q⟩ := tD_eq.mp q
  intro p hp
  have sP := s.newP (o := .dK []) hp nc_dK
  refine h2 (Pl P p) _ _ _ ⟨e, sP.1, ?_⟩
  have ncd : ∀ c q, LamX.CodeO c q ≠ .dK [] := fun c q z => by unfold LamX.CodeO at z; cases z
  unfold dDisp at q
  revert q
  cases fs e with
  | bad => exact fun q => q
  | exc x e1 =>
      intro q cls d H1 go1 rx
      have hh := Go.fill (o := .dK []) s hp go1 nt_dK ncd
      have e1 : upd H1 p (.dK []) = H1 := by
        funext b
        by_cases hb : b = p
        · rw [hb, upd_same, hh.1]
        · rw [upd_ne hb]
      have g2 := hh.2.2.1
      have k2 := hh.2.1
      rw [e1] at g2 k2
      exact q cls d H1 g2 (XRep.kp k2 rx)
  | ok ds e1 =>
    intro q H1 go1 vs rvs
    have q : PR g P ps W e σ H (if ds.length = ks.length then R.ok (D.dct ks ds) e1 else .bad) (fun d e' H' => ∀ v, Rep g H' (Av P e' σ) d v → Q v H') := q
    by_cases hl : ds.length = ks.length
    · rw [if_pos hl] at q
      have lv := rvs.length
      have hz : ks.length = vs.length := by omega
      obtain ⟨hp1, k, g2, nA⟩ := Go.fill (o := .dK (ks.zip vs)) s hp go1 nt_dK ncd
      refine ⟨hp1, ks.zip vs, zip_map_kV ks vs, ?_, ?_⟩
      · rw [List.length_zip, ← h.all.2.2]
        omega
      · rw [mergeK_new (by rw [List.map_fst_zip (by omega)]; exact hnd) fun k _ z => by simp at z, List.nil_append]
        exact q _ g2 _ ⟨p, vs, rfl, ⟨nA, upd_same⟩, hz, RepL.kp k _ _ rvs⟩
    · rw [if_neg hl] at q
      exact q.elim⟩
end
/-! ### d.get(k, x) -/
def getD2 (d k x : D) : Option D := match d with
  | .dct ks ds => (keyD k).map fun q => (lookK ks ds q).getD x
  | _ => none
def isDct : D → Option Unit
  | .dct _ _ => some ()
  | _ => none
def dGet2 (fa fb fc : Env → R D) : Env → R D := fun e => bnd (fa e) fun a e1 => bnd (opt (isDct a) e1) fun _ e1 => bnd (fb e1) fun b e2 => bnd (fc e2) fun c e3 => opt (getD2 a b c) e3
section
variable {g : G} {mp : List Nat} {X : Cx} {x : Str} {pos : Pos} {a b c : Expr} {fa fb fc : Env → R D}
theorem de_get2 {apos cpos : Pos} (hu : X.A.units + 1 < cLine) (ha : DE g mp X a fa) (hb : DE g mp X b fb) (hc : DE g mp X c fc) (m : M2 X a "get" apos b c cpos := by exact ⟨rfl, rfl, rfl, rfl⟩) : DE g mp X (.Call (.Attribute a "get" apos) [b, c] [] cpos) (dGet2 fa fb fc) := ⟨fun P ps W hp tk => pe_imp (pe_dget2 hu (ha.run P ps W hp tk) (hb.run P ps W hp tk) (hc.run P ps W hp tk) m) fun σ H Q q => by
  obtain ⟨e, s, q⟩ := tD_eq.mp q
  refine tD_of s (q.bnd.mono fun d e1 H1 go1 z v rv => ?_)
  obtain ⟨_, qd, z⟩ := PR.optM go1.st z
  cases d with
  | dct ks ds =>
    obtain ⟨p, vs, rfl, ⟨nA, hH⟩, hl, rr⟩ := rv
    refine ⟨p, rfl, .inl ⟨_, .inl hH⟩, tD_of go1.st (z.bnd.mono fun k e2 H2 go2 z2 v2 rv2 => tD_of go2.st (z2.bnd.mono fun y e3 H3 go3 z3 v3 rv3 => ?_))⟩
    obtain ⟨d', q', z4⟩ := PR.opt z3
    unfold getD2 at q'
    obtain ⟨qk, hk, hd⟩ := Option.map_eq_some_iff.mp q'
    have hH3 := ((go2.trans go3).kp p _ hH ⟨nA, nt_dK⟩).1
    have r3 := RepL.kp (go2.kp.trans go3.kp) _ _ rr
    have ek := keyD_some hk rv2
    have lk := lookK_ok (q := qk) hl r3
    cases hq : lookK ks ds qk with
    | none =>
      rw [hq] at lk hd
      refine ⟨none, .inl ⟨_, qk, .inl hH3, ek, lk.symm⟩, z4 _ (Go.refl go3.st) _ ?_⟩
      rw [← hd]
      exact rv3
    | some d2 =>
      rw [hq] at lk hd
      obtain ⟨v', l1, l2⟩ := lk
      refine ⟨some v', .inl ⟨_, qk, .inl hH3, ek, l1.symm⟩, z4 _ (Go.refl go3.st) _ ?_⟩
      rw [← hd]
      exact l2
  | _ => cases qd⟩
end
end DL
end

section
set_option Elab.async false
set_option linter.all false
set_option maxRecDepth 100000
set_option maxHeartbeats 4000000
namespace DL
open PySem PySem.Spec PyProof.Rows L2

/-! ### a dict of the top: texts to defs -/
structure KTab (g : G) (w : World) (d : Addr) (tab : List (Str × Nat)) : Prop where
  kd : ∃ es n, KDict g.K w d es n
  no : ∀ z, tab.lookup z = none → PySem.W.nsIn g.K d z = some none
  yes : ∀ z n, tab.lookup z = some n → PySem.W.nsIn g.K d z = some (some (.ref (g.fnA n)))
def inT (tab : List (Str × Nat)) (neg : Bool) : D → Option D
  | .str z => some (.bl (if neg then !(tab.lookup z).isSome else (tab.lookup z).isSome))
  | _ => none
def ixT (tab : List (Str × Nat)) : D → Option D
  | .str z => (tab.lookup z).map .fn
  | _ => none
section
variable {g : G} {mp : List Nat} {X : Cx} {x : Str} {pos p : Pos} {a : Expr} {fa : Env → R D} {d : Addr} {tab : List (Str × Nat)}
theorem KTab.has (T : KTab g X.w d tab) (z : Str) : PySem.W.nsIn g.K d z = some ((tab.lookup z).map fun n => .ref (g.fnA n)) := by
  cases h : tab.lookup z with
  | none => exact T.no z h
  | some n => exact T.yes z n h
theorem isSome_map {α β : Type} {o : Option α} {f : α → β} : (o.map f).isSome = o.isSome := by cases o <;> rfl
theorem tD_inT {P ps W neg} {r : R2} (h0 : ∀ (z : Str) (Q : VK) (H : Hp), Q (.bl (if neg then !(tab.lookup z).isSome else (tab.lookup z).isSome)) H → r (.str z) (.ref d) H Q) {σ H Q} (h : tD g P ps W (dUn (inT tab neg) fa) σ H Q) : tOp r (tD g P ps W fa) (tC (.ref d)) σ H Q := by
  obtain ⟨e, s, h⟩ := tD_eq.mp h
  refine tD_of s (h.bnd.mono fun b e1 H1 go1 z v rv => ?_)
  obtain ⟨d', q, z⟩ := PR.opt z
  cases b <;> first | (cases q; done) | skip
  rename_i y
  cases q
  rw [show v = .str y from rv]
  exact h0 _ _ _ (z _ (Go.refl go1.st) _ rfl)
theorem de_inT (T : KTab g X.w d tab) (hK : X.K = g.K) (hg : Gl X x) (hm : X.mg x = some (.ref d)) (ha : DE g mp X a fa) (hb : behindInMarks .In (.Name x p) = false := by rfl) (hd : (x == ("__debug__" : Str)) = false := by decide) : DE g mp X (.Compare a [.In] [.Name x p] pos) (dUn (inT tab false) fa) := by
  obtain ⟨es, n, kd⟩ := T.kd
  rw [← hK] at kd
  exact ⟨fun P ps W hp tk => pe_imp (pe_cmpR (op_in_kd kd) (ha.run P ps W hp tk) (pe_glob hg hm (v := .ref d) rfl hd) hb) fun σ H Q h => tD_inT (fun z Q H q => ⟨z, _, rfl, rfl, by rw [hK]; exact T.has z, by rw [isSome_map]; exact q⟩) h⟩
theorem db_inT (T : KTab g X.w d tab) (hK : X.K = g.K) (hg : Gl X x) (hm : X.mg x = some (.ref d)) (ha : DE g mp X a fa) (hb : behindInMarks .In (.Name x p) = false := by rfl) (hd : (x == ("__debug__" : Str)) = false := by decide) : DB g mp X (.Compare a [.In] [.Name x p] pos) (dTest (dUn (inT tab false) fa)) := by
  obtain ⟨es, n, kd⟩ := T.kd
  rw [← hK] at kd
  exact ⟨fun P ps W hp tk => pt_imp (pt_cmpR (op_in_kd kd) (ha.run P ps W hp tk) (pe_glob hg hm (v := .ref d) rfl hd) hb) fun σ H Q h => tD_inT (fun z Q H q => ⟨z, _, rfl, rfl, by rw [hK]; exact T.has z, by rw [isSome_map]; exact q⟩) (tD_test h)⟩
theorem de_notInT (T : KTab g X.w d tab) (hK : X.K = g.K) (hg : Gl X x) (hm : X.mg x = some (.ref d)) (ha : DE g mp X a fa) (hb : behindInMarks .NotIn (.Name x p) = false := by rfl) (hd : (x == ("__debug__" : Str)) = false := by decide) : DE g mp X (.Compare a [.NotIn] [.Name x p] pos) (dUn (inT tab true) fa) := by
  obtain ⟨es, n, kd⟩ := T.kd
  rw [← hK] at kd
  exact ⟨fun P ps W hp tk => pe_imp (pe_cmpR (op_notIn_kd kd) (ha.run P ps W hp tk) (pe_glob hg hm (v := .ref d) rfl hd) hb) fun σ H Q h => tD_inT (fun z Q H q => ⟨z, _, rfl, rfl, by rw [hK]; exact T.has z, by rw [isSome_map]; exact q⟩) h⟩
theorem db_notInT (T : KTab g X.w d tab) (hK : X.K = g.K) (hg : Gl X x) (hm : X.mg x = some (.ref d)) (ha : DE g mp X a fa) (hb : behindInMarks .NotIn (.Name x p) = false := by rfl) (hd : (x == ("__debug__" : Str)) = false := by decide) : DB g mp X (.Compare a [.NotIn] [.Name x p] pos) (dTest (dUn (inT tab true) fa)) := by
  obtain ⟨es, n, kd⟩ := T.kd
  rw [← hK] at kd
  exact ⟨fun P ps W hp tk => pt_imp (pt_cmpR (op_notIn_kd kd) (ha.run P ps W hp tk) (pe_glob hg hm (v := .ref d) rfl hd) hb) fun σ H Q h => tD_inT (fun z Q H q => ⟨z, _, rfl, rfl, by rw [hK]; exact T.has z, by rw [isSome_map]; exact q⟩) (tD_test h)⟩
theorem de_ixT (T : KTab g X.w d tab) (hK : X.K = g.K) (hg : Gl X x) (hm : X.mg x = some (.ref d)) (ha : DE g mp X a fa) (hs : PlainIx a := by exact fun _ _ => rfl) (hd : (x == ("__debug__" : Str)) = false := by decide) : DE g mp X (.Subscript (.Name x p) a pos) (dUn (ixT tab) fa) := by
  obtain ⟨es, n, kd⟩ := T.kd
  rw [← hK] at kd
  refine ⟨fun P ps W hp tk => pe_imp (pe_ix (ix_kdict (X := X)) (pe_glob hg hm (v := .ref d) rfl hd) (ha.run P ps W hp tk) hs) fun σ H Q h => ?_⟩
  obtain ⟨e, s, h⟩ := tD_eq.mp h
  refine tD_of s (h.bnd.mono fun b e1 H1 go1 z v rv => ?_)
  obtain ⟨d', q, z⟩ := PR.opt z
  cases b <;> first | (cases q; done) | skip
  rename_i y
  obtain ⟨k, hk, rfl⟩ := Option.map_eq_some_iff.mp q
  rw [show v = .str y from rv]
  exact ⟨d, y, .ref (g.fnA k), rfl, rfl, ⟨es, n, _, kd.at_, kd.lit, by rw [hK]; exact T.yes y k hk, rfl⟩, z _ (Go.refl go1.st) _ rfl⟩
end

/-! ### the call of a def that a name holds -/
def tCallLS (i : Nat) (f : Addr) (sp : Sp) (E : L2.St → XK) (t : TA) : TE := fun σ H Q => σ[i]? = some (some (.ref f)) ∧ t σ H fun vs H1 => sp vs H1 Q (E σ)
def fnAt (e : Env) (i : Nat) : Option Nat := match e[i]? with
  | some (some (.v (.fn n))) => some n
  | _ => none
theorem fnAt_some {e : Env} {i n : Nat} (h : fnAt e i = some n) : e[i]? = some (some (.v (.fn n))) := by
  unfold fnAt at h
  split at h
  · rename_i k q; cases h; exact q
  · cases h
def dCallH (i : Nat) (S : Nat → Option (List Slot → RF)) (sh : List (Option Nat)) (fa : Env → R (List D)) : Env → R D := fun e => bnd (opt ((fnAt e i).bind S) e) fun F _ => callF F sh fa kD e
/-- a def by its number -/
structure Hfn (g : G) (Pr : Program) (w : World) (K : PySem.W.Frag) (mg : Str → Option Value) (base : Heap) (k : Nat) (n m : Nat) (mp : List Nat) (F : List Slot → RF) : Prop where
  ex : ∃ fd pn N, FnOk Pr w K mg base (L2.CX Pr w) k (g.fnA n) fd pn (spD g N mp m F) ∧ PySem.W.keepIn K (.ref (g.fnA n)) = true ∧ Binds K fd pn []
section
variable {g : G} {mp mc : List Nat} {X : Cx} {x : Str} {pos p : Pos} {e : Expr} {es : List Expr} {fs : Env → R (List D)} {sh : List (Option Nat)}
theorem de_callH (i : Nat) {k m : Nat} {S : Nat → Option (List Slot → RF)} (hS : ∀ n F, S n = some F → Hfn g X.prog X.w X.K X.mg X.base k n m mc F) (hr : Room k X.A) (ha : DAS g mp X (e :: es) sh fs) (hm : (psN 0 sh).map (·.1) = mc := by rfl) (hl : sh.length = m := by rfl) (nd : ((psN 0 sh).map (·.2)).Nodup := by decide)
    (hN : X.N[i]? = some x := by rfl) (hv : Vis X.env.scope x := by first | exact Or.inl rfl | exact Or.inr (Or.inl rfl) | exact Or.inr (Or.inr rfl)) (hdb : (x == ("__debug__" : Str)) = false := by decide) (hcd : (x == ("__classdict__" : Str)) = false := by decide)
    (he : starEach (e :: es) X.env = (false, eval e X.env) :: starEach es X.env := by rfl) (hpl : (backTo pos (starEach es X.env)).any (·.1) = false := by rfl) : DE g mp X (.Call (.Name x p) (e :: es) [] pos) (dCallH i S sh fs) := by
  refine ⟨fun P ps W hp tk => ⟨fun pins s σ H Q I h => ?_⟩⟩
  obtain ⟨e0, st, h⟩ := tD_eq.mp h
  obtain ⟨F, q, h⟩ := PR.optM st h
  cases hn : fnAt e0 i with
  | none => rw [hn] at q; cases q
  | some n =>
  rw [hn] at q
  obtain ⟨fd, pn, N, h1, h3, h4⟩ := (hS n F q).ex
  obtain ⟨u, hσ, ru⟩ := st.vv i _ (fnAt_some hn)
  rw [show u = .ref (g.fnA n) from ru] at hσ
  refine wpAny_Call_Name_kw (thn ((pe_var (pos := p) hN hv hdb hcd).run pins s σ H (fun v H1 => v = .ref (g.fnA n) ∧ H1 = H) I ⟨_, hσ, rfl, rfl⟩) fun u s1 ⟨v, H1, I1, r1, q1⟩ => ?_)
  obtain ⟨rfl, rfl⟩ := q1
  cases r1
  refine PySem.W.callWith_K (h₀ := X.base) I.ok.mod.kin h3 (thn ((ha.run P ps W hp tk).run pos pins s1 σ _ (fun vs H2 => spD g N mc m F vs H2 Q (WE W σ)) I1 ?_) fun us s2 ⟨vs, H2, I2, r, q⟩ => ⟨I2.kIn, run_fnS h1 hr h4 (passAt tk σ) I2 r q⟩) he hpl
  refine ⟨e0, st, h.bnd.mono fun ds e1 H1 go1 z vs av => ?_⟩
  cases hs : mkS sh ds e1 with
  | none => rw [hs] at z; exact z.elim
  | some ss =>
    rw [hs] at z
    refine call_go go1.st hs av nd hm hl ?_
    revert z
    dsimp only
    cases F ss with
    | bad => exact fun z => z
    | exc x outs => exact fun z cls d H' go rx => z cls d H' go rx
    | ok s' outs => cases s' with
      | v d => exact fun z v H' go rv => z H' go v rv
      | m l => exact fun z a H' gm => z H' gm.go _ gm.rep
end
end DL
end

section
set_option Elab.async false
set_option linter.all false
set_option maxRecDepth 100000
set_option maxHeartbeats 4000000
/-! own exceptions -/
namespace DX
open PySem PySem.Spec PyProof.Rows L2
section
open Builtin Builtin.ObjectAttr PySem.W
variable {prog : Program} {w : World} {A : Around} {R : Result → Shared → Prop} {hp : Heap} {g : Array GenState} {d : Drawn} {t : Nat} {os : OsState}
/-- x.name = v on an exception without a dict, whatever its built-in base -/
theorem store_first {K : W.Frag} {name : Str} {tk : Tok} {v : Value} {x C : Addr} {fv : Array Value} {cd : ClassData}
    (X : K.In hp) (hx : hp.get? x = some { cls := .ref C, data := .fields fv }) (hcd : W.clsIn K C = some cd) (ne : cd.mro.isEmpty = false) (hob : cd.mro.contains (.type "object") = true) (pass : refuseLoop (.ref x) "__setattr__" cd.mro = pure ()) (hh : cd.hasDict = true) (ha : W.findIn K (.ref C) name = some none)
    (hq : ∀ h' tk' dx, (∀ b o, b ≠ x → hp.get? b = some o → h'.get? b = some o) → hp.objs.size ≤ dx → dx ≠ x → h'.get? x = some { cls := .ref C, dict := some dx, data := .fields fv } →
      h'.Ns1 dx (fun y => if y = name then some v else none) → R (.ok (.ret .none)) ⟨h', g, d, tk', os⟩) :
    codeAny (model prog w) A (.call (.builtin "object.__setattr__") ⟨[.ref x, .str name tk, v], []⟩) R ⟨hp, g, d, t, os⟩ := by
  have I : W.InstAt hp x { cls := .ref C, data := .fields fv } C none := ⟨hx, rfl, rfl, trivial⟩
  have SF := F.store_object
  have hxs : x ≠ hp.objs.size := Nat.ne_of_lt (Heap.lt_size hx)
  have sub : W.Looks (model prog w) hp (isInstance (.ref x) (.type "object")) true := I.type.andThen (W.looks_mroIn X (by unfold W.mroIn; rw [hcd, Option.bind_some, if_neg (by rw [ne]; decide), hob]))
  refine codeAny_call_builtin SF.slot.plain SF.entry (@W.check_slot (model prog w) _ _ ⟨hp, g, d, t, os⟩ "object.__setattr__" "object" "__setattr__" (.ref x) [.str name tk, v] [] _ SF.kind SF.split sub (SF.args (.ref x) (.str name tk) v) ?_)
  have hmr : W.Looks (model prog w) hp (mroOf (.ref C)) cd.mro := (W.looks_clsIn X hcd).andThen .now
  have hcls : W.Looks (model prog w) hp (classData C) cd := W.looks_clsIn X hcd
  rw [W.osa_eq, refuse_eq]
  refine wpAny_bind (wpAny_bind (I.type.at (wpAny_bind (hmr.at ?_))))
  rw [pass]
  refine wpAny_pure (wpAny_bind (I.type.at (wpAny_bind ((W.looks_findIn X ha).at (wpAny_bind ((W.Looks.now : W.Looks (model prog w) hp (storeTaker? none) none).at ?_))))))
  show wpAny _ _ (storeInOwnDict (.ref x) (.ref C) (.str name tk) name v false) _ _ _
  obtain ⟨nm, bs, mro, ns, qn, hd, sn, sb, ab, col, del⟩ := cd
  dsimp only at hh
  subst hh
  unfold storeInOwnDict ownDictForStores
  repeat (first | with_reducible refine HandSPX.store_in_new ?_ ?_ | with_reducible refine wpAny_loadPart_at hx ?_ | with_reducible refine hcls.at ?_ | wp_step)
  · exact ⟨_, #[], _, (Heap.get?_update_ne _ _ _ _ hxs.symm).trans (Heap.get?_push_at rfl rfl), rfl, fun e he => absurd he (by simp), fun _ => rfl⟩
  · intro h' tk' hn' hs
    have hx₁ : (hp.push { cls := .type "dict", data := .dict #[] }).get? x = some { cls := .ref C, data := .fields fv } := Heap.get?_push_of_some _ hx
    refine hq h' tk' hp.objs.size (fun b o hb ho => ?_) (Nat.le_refl _) hxs.symm ?_ hn'
    · exact (hs.2 b (Nat.ne_of_lt (Heap.lt_size ho))).trans ((Heap.get?_update_ne _ _ _ _ hb).trans (Heap.get?_push_of_some _ ho))
    · exact (hs.2 x hxs).trans (Heap.get?_update_self _ hx₁ rfl)
end
/-- refs, then this end -/
def refsT (tl : List Value) : List Value → Bool
  | .ref _ :: r => refsT tl r
  | l => decide (l = tl)
/-- what may stand at the end -/
structure TailOk (tl : List Value) : Prop where
  pass : ∀ self, refuseLoop self "__setattr__" tl = pure ()
  obj : tl.contains (.type "object") = true
  ne : tl.isEmpty = false
theorem refsT_cases {tl : List Value} : ∀ l : List Value, refsT tl l = true → (∃ c r, l = .ref c :: r ∧ refsT tl r = true) ∨ l = tl
  | l, h => by
    unfold refsT at h
    split at h
    · exact .inl ⟨_, _, rfl, h⟩
    · exact .inr (of_decide_eq_true h)
theorem refsT_pass {tl : List Value} (T : TailOk tl) (self : Value) : ∀ l : List Value, refsT tl l = true → refuseLoop self "__setattr__" l = pure ()
  | [], h => by
    rcases refsT_cases [] h with ⟨c, r, e, _⟩ | e
    · cases e
    · rw [e]; exact T.pass self
  | a :: l, h => by
    rcases refsT_cases (a :: l) h with ⟨c, r, e, q⟩ | e
    · cases e
      rw [refuseLoop_ref]
      exact refsT_pass T self l q
    · rw [e]; exact T.pass self
theorem refsT_has {tl : List Value} (Y : String) : ∀ l : List Value, refsT tl l = true → l.contains (.type Y) = tl.contains (.type Y)
  | [], h => by
    rcases refsT_cases [] h with ⟨c, r, e, _⟩ | e
    · cases e
    · rw [← e]
  | a :: l, h => by
    rcases refsT_cases (a :: l) h with ⟨c, r, e, q⟩ | e
    · cases e
      rw [List.contains_cons, refsT_has Y l q]
      rfl
    · rw [e]
abbrev leTail : List Value := [.type "LookupError", .type "Exception", .type "BaseException", .type "object"]
abbrev veTail : List Value := [.type "ValueError", .type "Exception", .type "BaseException", .type "object"]
theorem tail_le : TailOk leTail := ⟨fun self => F.store_LookupError.passes self, by decide +kernel, rfl⟩
theorem tail_ve : TailOk veTail := ⟨fun self => F.store_ValueError.passes self, by decide +kernel, rfl⟩
/-- what the written part says of an own exception class over a built-in one -/
structure OexT (K : PySem.W.Frag) (C : Addr) (newId : String) (tl : List Value) : Prop where
  cls : ∃ nm q N bs bm sn sub ab col dd k0 k1 k2 k3 k5, K.lookup C = some (excClassObj nm q C N bs bm true sn sub ab col dd k0 k1 k2 k3 k5 newId) ∧ refsT tl bm = true
  sa : PySem.W.findIn K (.ref C) "__setattr__" = some (some (.builtin "object.__setattr__"))
  exC : PySem.W.subIn K (.ref C) (.type "BaseException") = some true
  tyC : PySem.W.typeIn K (.ref C) = some (.type "type")
  kC : PySem.W.keepIn K (.ref C) = true
section
variable {X : Cx} {pins : List (Addr × Obj)} {σ : L2.St} {H : Hp} {s : Shared} {a C dx : Addr} {f : Str} {y : V} {u : Value} {A : Around} {newId : String} {tl : List Value} {E : Value → Shared → Prop}
/-- self.f = y, the first one -/
theorem ost_first {Q : Unit → Shared → Prop} (T : OexT X.K C newId tl) (TT : TailOk tl) (I : Inv X pins σ H s) (e : H a = some (exo a C none)) (hno : PySem.W.findIn X.K (.ref C) f = some none) (ry : RelV y u)
    (h : ∀ dx s', H dx = none → dx ≠ a → Inv X pins σ (upd (upd H dx (exd dx [(f, y)])) a (exo a C (some dx))) s' → Q () s') : wpAny (model X.prog X.w) A (setAttr (.ref a) f u) Q E s := by
  obtain ⟨nm, q, N, bs, bm, sn, sub, ab, col, dd, k0, k1, k2, k3, k5, hC, hbm⟩ := T.cls
  have hcl : PySem.W.clsIn X.K C = some { name := nm, bases := bs, mro := .ref C :: bm, ns := N, qualname := q, hasDict := true, slotNames := sn, subclasses := sub, abstract := ab, collection := col, hasDel := false } := by unfold PySem.W.clsIn; rw [hC] <;> rfl
  have hr : refsT tl (.ref C :: bm) = true := hbm
  obtain ⟨t1, ho⟩ := exo_at I.hok e
  obtain ⟨hp, g, d, t, os⟩ := s
  refine PySem.W.set_plain I.kIn (ox := { cls := .ref C, dict := none, data := .fields #[.ref t1, .none, .none, .none, .bool false, .none] }) (od := none) ⟨ho, rfl, rfl, trivial⟩ T.sa ?_
  refine store_first I.kIn ho hcl rfl ((refsT_has "object" _ hr).trans TT.obj) (refsT_pass TT _ _ hr) rfl hno (fun h' tk' dx k dn dne hx hn => ?_)
  have hnd : H dx = none := I.hok.fresh dn
  have nd : ∀ {b : Addr} {o : Obj}, hp.get? b = some o → b ≠ dx := fun {b o} q => Nat.ne_of_lt (Nat.lt_of_lt_of_le (Heap.lt_size q) dn)
  have na : ∀ {b : Addr}, H b = none → b ≠ a := fun {b} n z => by
    rw [z, e] at n
    cases n
  have Un1 : Un X.fs [] H (upd (upd H dx (exd dx [(f, y)])) a (exo a C (some dx))) hp h' := {
    keep := fun b o q n _ _ => k b o (na n) q
    slot := fun b o q n _ _ => ⟨o.slots, k b o (na n) q⟩
    free := fun b o q n _ => by rw [upd_ne (na n), upd_ne (nd q)]; exact n
    there := fun b o q _ => by
      by_cases hb : b = a
      · exact ⟨_, by rw [hb]; exact hx⟩
      · exact ⟨o, k b o hb q⟩
    tups := fun b xs q => by rw [upd_ne (at_ne e q exo_tup), upd_ne (ne_of_none q hnd)]; exact q
    frzs := fun b o v q => by rw [upd_ne (at_ne e q exo_frz), upd_ne (ne_of_none q hnd)]; exact q
    tbls := fun b ps q => ⟨#[], by rw [upd_ne (at_ne e q exo_tbl), upd_ne (ne_of_none q hnd), q]; simp⟩ }
  refine h dx _ hnd dne (I.un (t' := tk') Un1 fun b o q => ?_)
  by_cases hb : b = a
  · subst hb
    rw [upd_same] at q
    cases q
    exact exo_ok hx
  · rw [upd_ne hb] at q
    by_cases hd : b = dx
    · subst hd
      rw [upd_same] at q
      cases q
      exact exd_ok hn (relO_put (fs := []) ry fun g => True.intro)
    · rw [upd_ne hd] at q
      exact (I.hok b o q).stay (fun c v hc z => k c v (by
          rcases hc with hc | hc
          · rw [hc]
            exact hb
          · exact at_ne e hc exo_own) z)
        (fun c hc => by rw [upd_ne (at_ne e hc exo_own), upd_ne (ne_of_none hc hnd)]; exact hc) (fun c xs hc => by rw [upd_ne (at_ne e hc exo_tup), upd_ne (ne_of_none hc hnd)]; exact hc)
/-- B.__init__(self, ..) -/
theorem binit_ok {B initId : String} {bmB us : List Value} {Q : Value → Shared → Prop} (T : OexT X.K C newId tl) (FB : ExcBaseFacts B newId initId tl) (I : Inv X pins σ H s) (e : H a = some (exo a C none)) (hl : us.length ≤ sizeLine) (h : ∀ s', Inv X pins σ H s' → Q .none s') :
    wpAny (model X.prog X.w) A (call (.builtin initId) (.ref a :: us)) Q E s := by
  obtain ⟨nm, q, N, bs, bm, sn, sub, ab, col, dd, k0, k1, k2, k3, k5, hC, hbm⟩ := T.cls
  obtain ⟨t1, ho⟩ := exo_at I.hok e
  obtain ⟨hp, g, d, t, os⟩ := s
  refine wpAny_call (PySem.HandSPX.init_base FB (fun Y => refsT_has Y bm hbm) (I.kIn _ _ hC) ho hl fun h' t2 k hx => ?_)
  have J := I.write (t' := t) (x := a) (e := a) (o := exo a C none) (by rw [e]; exact True.intro) (.inl rfl) k ⟨_, hx⟩ (exo_ok hx)
  have eu : upd H a (exo a C none) = H := by
    funext b
    by_cases hb : b = a
    · rw [hb, upd_same, e]
    · rw [upd_ne hb]
  rw [eu] at J
  exact h _ J
/-! readings and rules -/
def tBI (K : PySem.W.Frag) (C : Addr) (ta : TA) : TE := fun σ H Q => ta σ H fun vs H1 => ∃ (a : Addr) (ws : List V), vs = .ref a :: ws ∧ ws.length ≤ 1000 ∧ H1 a = some (exo a C none) ∧ Q .non H1
def tOF (C : Addr) (f : Str) (to te : TE) : TS := fun D σ H => te σ H fun y H1 => to σ H1 fun x H2 => ∃ a : Addr, x = .ref a ∧ H2 a = some (exo a C none) ∧ ∀ dx, H2 dx = none → dx ≠ a → D.nx σ (upd (upd H2 dx (exd dx [(f, y)])) a (exo a C (some dx)))
variable {o e : Expr} {es : List Expr} {to te : TE} {ta : TA} {p p' p1 p2 pos : Pos} {B : Str} {T initId : String}
theorem pe_binit {pl : Sem Bool} (OT : OexT X.K C newId tl) (FB : ExcBaseFacts T newId initId tl) (hg : Gl X B) (hm : X.mg B = none) (hv : bootBuiltins B = some (.type T)) (ty : typeOf (.type T) = pure (.type "type")) (vV : PySem.W.findCls X.K (.type T) (.type "type") "__init__" = some (.val (.builtin initId)))
    (hn : B ≠ "__name__") (hdb : (B == ("__debug__" : Str)) = false) (q1 : Manifest.isStub T = false) (q2 : PySem.W.handedIn (Value.builtin initId) = true) (ha : PA X (e :: es) ta)
    (hc : eval (.Call (.Attribute (.Name B p1) "__init__" p2) (e :: es) [] pos) X.env = (do
      let ov ← eval (.Name B p1) X.env
      standAt p2.atName
      let (f, first) ← holding [ov] (getMethod ov "__init__" pl)
      callWith pos f first (backTo pos (starEach (e :: es) X.env)) (backToKw pos (keywordEach [] X.env))) := by rfl)
    (he : starEach (e :: es) X.env = (false, eval e X.env) :: starEach es X.env := by rfl) (hpl : (backTo pos (starEach es X.env)).any (·.1) = false := by rfl) :
    PE X (.Call (.Attribute (.Name B p1) "__init__" p2) (e :: es) [] pos) (tBI X.K C ta) := by
  refine ⟨fun pins s σ H Q I h => ?_⟩
  refine PySem.W.methodCall_KW (ld_blt I hg hm hv ?_ hn hdb) hc
  obtain ⟨m, fr⟩ := I.fr
  refine PySem.W.method_type fr I.ok.mod.kin ty q1 vV q2 ?_
  show wpAny _ _ (callWith pos (Value.builtin initId) [] (backTo pos (starEach (e :: es) X.env)) []) _ _ _
  refine PyProof.Rows.callWith_method1 (thn (ha.run pos pins _ σ H _ (I.tok _) h) fun us s1 ⟨vs, H1, I1, r1, a, ws, ev, hl, ea, q⟩ => ?_) he hpl
  subst ev
  cases r1 with
  | @cons _ u0 _ ur ra rw' =>
    obtain rfl : u0 = Value.ref a := ra
    have hlen : ur.length ≤ sizeLine := by
      rw [← Paired.length rw', sizeLine_eq]
      omega
    exact binit_ok (bmB := tl) OT FB I1 ea hlen fun s' J => ⟨.non, H1, J, rfl, q⟩
theorem ps_of (T' : OexT X.K C newId tl) (TT : TailOk tl) (hno : PySem.W.findIn X.K (.ref C) f = some none) (ho : PE X o to) (he : PE X e te) (hs : swapsWith e (some (.Attribute o f p')) pos.line X.env = pure false := by rfl) : PS X (.Assign [.Attribute o f p'] e pos) (tOF C f to te) := by
  refine ⟨fun pins s σ H D I h => ?_⟩
  refine plainObj_wpAny_Assign_Attribute (thn (he.run pins s σ H _ I h) fun v s1 ⟨y, H1, I1, r1, q1⟩ => thn (ho.run pins s1 σ H1 _ I1 q1) fun u s2 ⟨x, H2, I2, r2, a, ex, ea, q⟩ => ?_) hs
  subst ex
  obtain rfl : u = Value.ref a := r2
  exact ost_first T' TT I2 ea hno r1 fun dx s' n ne J => ⟨σ, _, J, q dx n ne⟩
end
/-- what __init__(self, y): B.__init__(self, 'text'); self.f = y promises -/
def spF (C : Addr) (f : Str) : Sp := fun vs H Q _ => ∃ a v, vs = [.ref a, v] ∧ H a = some (exo a C none) ∧ ∀ dx, H dx = none → dx ≠ a → Q .non (upd (upd H dx (exd dx [(f, v)])) a (exo a C (some dx)))
section
variable {P : Program} {w : World} {K : PySem.W.Frag} {mg : Str → Option Value} {base : Heap} {C fI : Addr} {newId : String} {tl : List Value} {qual B f y : Str} {T initId : String} {st : Stmt} {fd : FuncData} {txt : Str} {j : Nat} {p1 p2 p3 p4 p5 p6 p7 p8 p9 p10 : Pos}
theorem init_ok (F : Fun K "__init__" qual st fI fd) (S : FnScope ["self", y] ["self", y] (defScope st)) (hst : defBody st = [.Expr (.Call (.Attribute (.Name B p1) "__init__" p2) [.Name "self" p3, .Constant (.str txt) j p4] [] p5) p6, .Assign [.Attribute (.Name "self" p7) f p8] (.Name y p9) p10])
    (OT : OexT K C newId tl) (TT : TailOk tl) (FB : ExcBaseFacts T newId initId tl) (hm : mg B = none) (hv : bootBuiltins B = some (.type T)) (ty : typeOf (.type T) = pure (.type "type")) (vV : PySem.W.findCls K (.type T) (.type "type") "__init__" = some (.val (.builtin initId)))
    (hn : B ≠ "__name__") (hdb : (B == ("__debug__" : Str)) = false) (q1 : Manifest.isStub T = false) (q2 : PySem.W.handedIn (Value.builtin initId) = true) (hno : PySem.W.findIn K (.ref C) f = some none)
    (hg : (defScope st).names.lookup B = some .globalImplicit) (h0 : Vis (defScope st) "self") (h1 : Vis (defScope st) y) (hy : (y == ("__debug__" : Str)) = false) (hy2 : (y == ("__classdict__" : Str)) = false)
    (hline : ∀ env : PySem.Env, swapsWith (.Call (.Attribute (.Name B p1) "__init__" p2) [.Name "self" p3, .Constant (.str txt) j p4] [] p5) none p6.line env = pure false)
    (hline2 : ∀ env : PySem.Env, env.kindOf y = (defScope st).names.lookup y → swapsWith (.Name y p9) (some (.Attribute (.Name "self" p7) f p8)) p10.line env = pure false)
    (hc : ∀ env : PySem.Env, ∃ pl : Sem Bool, eval (.Call (.Attribute (.Name B p1) "__init__" p2) [.Name "self" p3, .Constant (.str txt) j p4] [] p5) env = (do
      let ov ← eval (.Name B p1) env
      standAt p2.atName
      let (f, first) ← holding [ov] (getMethod ov "__init__" pl)
      callWith p5 f first (backTo p5 (starEach [.Name "self" p3, .Constant (.str txt) j p4] env)) (backToKw p5 (keywordEach [] env)))) :
    FnOk P w K mg base (L2.CX P w) 1 fI fd ["self", y] (spF C f) := by
  refine F.okX S (fun vs H Q E h => ?_) fun cdv A outer s H vs Q E hr h => ?_
  · obtain ⟨a, v, rfl, _⟩ := h
    rfl
  · obtain ⟨pl, hc⟩ := hc (envOfC qual (defScope st) s.heap.objs.size fI cdv)
    rw [hst]
    have e1 : PS (cxOf (L2.CX P w) P w K mg base ["self", y] qual (defScope st) fI cdv A outer s H E) (.Expr (.Call (.Attribute (.Name B p1) "__init__" p2) [.Name "self" p3, .Constant (.str txt) j p4] [] p5) p6) _ :=
      ps_expr (pe_binit (X := cxOf (L2.CX P w) P w K mg base ["self", y] qual (defScope st) fI cdv A outer s H E) (pl := pl) OT FB hg hm hv ty vV hn hdb q1 q2 (pa_cons (pe_var (i := 0) rfl h0) (pa_cons pe_str pa_nil)) hc) (hline _)
    have e2 : PS (cxOf (L2.CX P w) P w K mg base ["self", y] qual (defScope st) fI cdv A outer s H E) (.Assign [.Attribute (.Name "self" p7) f p8] (.Name y p9) p10) _ :=
      ps_of OT TT hno (pe_var (i := 0) rfl h0) (pe_var (i := 1) rfl h1 hy hy2) (hline2 _ rfl)
    refine ⟨_, pss_cons e1 (pss_one e2), ?_⟩
    obtain ⟨a, v, rfl, ha, q⟩ := h
    exact ⟨V.ref a, rfl, a, [V.str txt], rfl, (by decide : 1 ≤ 1000), ha, v, rfl, V.ref a, rfl, a, rfl, ha, q⟩
end
section
variable {X : Cx} {e : Expr} {es : List Expr} {te : TE} {ta : TA} {f : Str} {p pos : Pos} {newId initId B : String} {tl : List Value} {C fI : Addr}
def tMk1 (C : Addr) (f : Str) (te : TE) : L2.St → Hp → XK → Prop := fun σ H Q => te σ H fun v H1 => ∀ d, H1 d = none → Q (.ref C) (some d) (upd H1 d (.xd [(f, v)]))
theorem pmk_first (hmono : ∀ σ H (Q Q' : VK), te σ H Q → (∀ v H1, Q v H1 → Q' v H1) → te σ H Q') {x : Str} {k : Nat} {fd : FuncData} {ps : List Str} (T : OexT X.K C newId tl) (FB : ExcBaseFacts B newId initId tl) (iC : PySem.W.findIn X.K (.ref C) "__init__" = some (some (.ref fI))) (tI : PySem.W.typeIn X.K (.ref fI) = some (.type "function"))
    (F1 : FnOk X.prog X.w X.K X.mg X.base (L2.CX X.prog X.w) k fI fd ps (spF C f)) (hr : Room (k + 1) X.A) (hb : Binds X.K fd ps []) (hx : Passes (L2.CX X.prog X.w) X (fun _ _ _ => False)) (hg : Gl X x) (hm : X.mg x = some (.ref C)) (ha : PE X e te)
    (hdb : (x == ("__debug__" : Str)) = false := by decide) (he : starEach (e :: []) X.env = (false, eval e X.env) :: starEach [] X.env := by rfl) (hpl : (backTo pos (starEach [] X.env)).any (·.1) = false := by rfl) :
    PMk X (.Call (.Name x p) [e] [] pos) (tMk1 C f te) := by
  intro pins s σ H Q I h
  obtain ⟨nm, q, N, bs, bm, sn, sub, ab, col, dd, k0, k1, k2, k3, k5, hC, hbm⟩ := T.cls
  refine wpAny_Call_Name_kw (ld_glob I hg hm ?_ hdb)
  have hpa := pa_cons (X := X) ha pa_nil he
  refine PySem.W.callWith_K (h₀ := X.base) I.ok.mod.kin T.kC (thn (hpa.run pos pins s σ H (fun vs H1 => ∃ v, vs = [v] ∧ ∀ d, H1 d = none → Q (.ref C) (some d) (upd H1 d (.xd [(f, v)]))) I ?_) fun us s1 ⟨vs, H1, I1, r1, v, ev, q1⟩ => ⟨I1.kIn, ?_⟩) he hpl
  · exact hmono σ H _ _ h fun v H1 q => ⟨v, rfl, q⟩
  subst ev
  show wpAny _ _ (call (.ref C) us) _ _ _
  obtain ⟨hp, g, dr, tk, os⟩ := s1
  have hsz : hp.objs.size ≤ hp.objs.size + 1 := Nat.le_succ _
  have hn : H1 (hp.objs.size + 1) = none := I1.hok.fresh hsz
  have kk : ∀ b o, hp.get? b = some o → ((hp.push (PySem.W.kdv_tup us)).push (PySem.HandSPX.excO C hp.objs.size)).get? b = some o := fun b o e => Heap.get?_push_of_some _ (Heap.get?_push_of_some _ e)
  have hget : ((hp.push (PySem.W.kdv_tup us)).push (PySem.HandSPX.excO C hp.objs.size)).get? (hp.objs.size + 1) = some (PySem.HandSPX.excO C hp.objs.size) := by heap_get
  have I2 : Inv X pins σ (upd H1 (hp.objs.size + 1) (exo (hp.objs.size + 1) C none)) ⟨(hp.push (PySem.W.kdv_tup us)).push (PySem.HandSPX.excO C hp.objs.size), g, dr, tk, os⟩ :=
    I1.laid (t' := tk) (a := hp.objs.size + 1) (o := exo (hp.objs.size + 1) C none) (h' := (hp.push (PySem.W.kdv_tup us)).push (PySem.HandSPX.excO C hp.objs.size)) kk hsz (exo_ok hget)
  have r2 : Vals [V.ref (hp.objs.size + 1), v] (Value.ref (hp.objs.size + 1) :: us) := .cons rfl r1
  have hus : us.length ≤ sizeLine := by
    rw [← Paired.length r1, sizeLine_eq]
    exact (by decide : 1 ≤ 16777216)
  have hq : spF C f [V.ref (hp.objs.size + 1), v] (upd H1 (hp.objs.size + 1) (exo (hp.objs.size + 1) C none)) (fun v' H2 => v' = .non ∧ ∃ d, H2 (hp.objs.size + 1) = some (exo (hp.objs.size + 1) C (some d)) ∧ H2 d = some (exd d [(f, v)]) ∧ H1 d = none ∧ Q (.ref C) (some d) (upd (del H2 (hp.objs.size + 1)) d (.xd [(f, v)]))) (fun _ _ _ => False) := by
    refine ⟨_, _, rfl, upd_same, fun dx hd ne => ⟨rfl, dx, upd_same, ?_, ?_, ?_⟩⟩
    · rw [upd_ne ne, upd_same]
    · rw [upd_ne ne] at hd
      exact hd
    · have e : upd (del (upd (upd (upd H1 (hp.objs.size + 1) (exo (hp.objs.size + 1) C none)) dx (exd dx [(f, v)])) (hp.objs.size + 1) (exo (hp.objs.size + 1) C (some dx))) (hp.objs.size + 1)) dx (.xd [(f, v)]) = upd H1 dx (.xd [(f, v)]) := by
        funext b
        by_cases h1 : b = dx
        · rw [h1, upd_same, upd_same]
        · rw [upd_ne h1, upd_ne h1]
          by_cases h2 : b = hp.objs.size + 1
          · rw [h2, del_same, hn]
          · rw [del_ne h2, upd_ne h2, upd_ne h1, upd_ne h2]
      rw [e]
      rw [upd_ne ne] at hd
      exact q1 dx hd
  have hl : (Value.ref (hp.objs.size + 1) :: us).length = ps.length := by
    have e := r2.length
    rw [F1.len _ _ _ _ hq] at e
    exact e.symm
  have hbd := hb (⟨(hp.push (PySem.W.kdv_tup us)).push (PySem.HandSPX.excO C hp.objs.size), g, dr, tk, os⟩ : Shared) (Value.ref (hp.objs.size + 1) :: us) I2.kIn (by rw [List.append_nil]; exact hl)
  rw [List.append_nil] at hbd
  refine wpAny_call (PySem.HandSPX.call_own FB (fun Y => refsT_has Y bm hbm) (I1.kIn _ _ hC) (PySem.W.looks_findIn I1.kIn iC) (fun self => PySem.W.bind_fn I1.kIn self tI) hus
    (codeAny_mono (F1.run _ X.stack _ _ ⟨Value.ref (hp.objs.size + 1) :: us, []⟩ (Value.ref (hp.objs.size + 1) :: us) _ _ (fun _ _ _ => False) (hr.make C us []) (I2.env0.make C us []) hbd r2 hq) fun r s' hq' => ?_))
  cases r with
  | error er => exact hx pins σ _ _ er s' I2 hq'
  | ok fl =>
    cases fl with
    | ret u =>
      obtain ⟨v', H2, os2, bare2, un2, hok2, rv, ev, d, ea, ed, hd1, q2⟩ := hq'
      subst ev
      obtain ⟨h2, g2, d2, t2, os'⟩ := s'
      exact ⟨rv, mk_end (raises_own T.exC T.tyC) I1 hsz kk un2 hok2 os2 bare2 ea ed hd1 q2⟩
    | next => exact False.elim hq'
    | brk => exact False.elim hq'
    | cont => exact False.elim hq'
end
end DX
end

section
set_option Elab.async false
set_option linter.all false
set_option maxRecDepth 100000
set_option maxHeartbeats 4000000
namespace DX
open PySem PySem.Spec PyProof.Rows L2
/-! ### several except clauses, some with a name -/
/-- what a clause does: the class, the name's slot, what its suite is -/
abbrev Cl : Type := Value × Option Nat × (Addr → Value → Option Addr → TS)
def endA (D : Ends) : Option Nat → Ends
  | some i => { nx := fun σ' H' => D.nx (σ'.set i none) H', rt := D.rt, bk := fun σ' H' => D.bk (σ'.set i none) H', ct := fun σ' H' => D.ct (σ'.set i none) H' }
  | none => D
def putA (σ : L2.St) (a : Addr) : Option Nat → L2.St
  | some i => σ.set i (some (.ref a))
  | none => σ
def wAll (K : PySem.W.Frag) (Wout : WX) (D : Ends) : List Cl → WX
  | [] => Wout
  | (c, i, ts) :: r => fun cls d σ H => ∃ b, PySem.W.exmOne K cls c = some b ∧ (b = true → ∀ a, H a = none → ts a cls d (endA D i) (putA σ a i) H) ∧ (b = false → wAll K Wout D r cls d σ H)
inductive HdsA (X : Cx) : List ExceptHandler → List Cl → Prop
  | nil : HdsA X [] []
  | cons {x : Str} {c : Value} {ts : Addr → Value → Option Addr → TS} {b₀ : Stmt} {suite : List Stmt} {np pos' : Pos} {hds : List ExceptHandler} {l : List Cl} (hc : Names X x c)
      (hsu : ∀ (a : Addr) (oe : Obj) (cls : Value) (d : Option Addr) (pn : List (Addr × Obj)), Zc cls d oe → (∃ vs, oe.data = .fields vs) → PSs (X.suite a ((a, oe) :: pn)) (b₀ :: suite) (ts a cls d)) (r : HdsA X hds l) :
      HdsA X (.ExceptHandler (some (.Name x np)) none (b₀ :: suite) pos' :: hds) ((c, none, ts) :: l)
  | consA {x n : Str} {i : Nat} {c : Value} {ts : Addr → Value → Option Addr → TS} {b₀ : Stmt} {suite : List Stmt} {np pos' : Pos} {hds : List ExceptHandler} {l : List Cl} (hi : X.N[i]? = some n) (hln : X.env.kindOf n = some .local) (hc : Names X x c)
      (hsu : ∀ (a : Addr) (oe : Obj) (cls : Value) (d : Option Addr) (pn : List (Addr × Obj)), Zc cls d oe → (∃ vs, oe.data = .fields vs) → PSs (X.suite a ((a, oe) :: pn)) (b₀ :: suite) (ts a cls d)) (r : HdsA X hds l) :
      HdsA X (.ExceptHandler (some (.Name x np)) (some n) (b₀ :: suite) pos' :: hds) ((c, some i, ts) :: l)
section
variable {X : Cx} {body : List Stmt} {h₀ : ExceptHandler} {hds : List ExceptHandler} {l : List Cl} {pos : Pos} {tb : WX → TS} {Wout : WX}
theorem ps_try_all (hs : X.stack = X.env :: X.outer) (hf : X.env.frame = some X.env.locals) (hN : X.N.Nodup) (tk : Takes X Wout)
    (hb : ∀ (W : WX) (pn : List (Addr × Obj)) (xe : Value → Shared → Prop), Takes (X.tr pn xe) W → PassesOwn (model X.prog X.w) X.A X.env xe → PSs (X.tr pn xe) body (tb W))
    (hh : HdsA X (h₀ :: hds) l) : PS X (.Try body (h₀ :: hds) [] [] pos) (fun D σ H => tb (wAll X.K Wout D l) D σ H) := by
  refine ⟨fun pins s σ H D I h => ?_⟩
  have ok := I.ok
  have hfr : X.A.frames = some (X.env :: X.outer) := by rw [ok.frames, hs]
  refine wpAny_Try_except ?_
  refine wpAny_mono ((hb (wAll X.K Wout D l) (X.pn ++ pins) (fun e s₁ => wpAny (model X.prog X.w) X.A (noteFrame e X.env) (fun _ s₂ => wpAny (model X.prog X.w) X.A (setFlight e none) (fun _ s₃ =>
    wpAny (model X.prog X.w) X.A (handleBy e X.env (h₀ :: hds)) (SP X pins D) X.xe s₃) X.xe s₂) X.xe s₁) (fun u s' xx => ?_) PassesOwn.looking).run [] s σ H D (I.toTry _) h) (fun f s1 hsp => ?_) (fun e s1 he => he)
  · obtain ⟨a, B, sI, pins', σ', H', cls, d, rfl, J', nb, up, sky, na, os, ag, w⟩ := xx
    have J : Inv X pins σ' H' sI := J'.ofTry ok
    have sky' : Sky B (X.env :: X.outer) a (Zc cls d) X.env.locals s'.heap := by rw [← hs]; exact sky
    show wpAny (model X.prog X.w) X.A (noteFrame (.ref a) X.env) _ _ _
    refine Sky.land Zc.steady hfr hf sky' fun h3 fl3 up3 => ?_
    have J3 : Inv X pins σ' H' { s' with heap := h3 } := J.landed nb fl3.1 (up.trans up3) os ag
    obtain ⟨oe3, vs3, he3, hz3, hd3⟩ := fl3.there
    have notFr : ∀ {h : Heap} {o : Obj} {vs : Array Value}, h.FunFrames B (X.env :: X.outer) → h.get? a = some o → o.data = .fields vs → a ∉ frs (X.env :: X.outer) := fun {h o vs} ff e dd hm => by
      obtain ⟨_, o', e', hnf⟩ := ff.mem hm
      rw [e] at e'; cases e'
      exact hnf _ dd
    have nfr := notFr fl3.2.2.1 he3 hd3
    have nL : a ≠ X.env.locals := fun z => nfr (List.mem_filterMap.mpr ⟨X.env, List.mem_cons_self, by rw [hf, z]⟩)
    have nF : a ∉ X.fs := fun hm => by
      obtain ⟨e, he, q⟩ := List.mem_filterMap.mp hm
      exact nfr (List.mem_filterMap.mpr ⟨e, List.mem_cons_of_mem _ he, q⟩)
    have S3 := J3.suite he3 hd3 na nL nF
    have tst : ∀ {x : Str} {c : Value} {np : Pos}, Names X x c → ∀ {Q : Value → Shared → Prop} {E : Value → Shared → Prop}, Q c { s' with heap := h3 } → wpAny (model X.prog X.w) (X.A.mark (some (.ref a))) (eval (.Name x np) X.env) Q E { s' with heap := h3 } := fun {x c np} hc {Q E} q => by
      obtain ⟨hg, hdbg, hm | ⟨hm, hv, hnn⟩⟩ := hc
      · exact ld_glob (X := X.suite a ((a, oe3) :: (X.pn ++ pins))) S3 hg hm q hdbg
      · exact ld_blt (X := X.suite a ((a, oe3) :: (X.pn ++ pins))) S3 hg hm hv q hnn hdbg
    have LT : PySem.W.Looks (model X.prog X.w) h3 (typeOf (.ref a)) cls := fun A Q E s k q => wpAny_typeOf_ref (k _ _ he3) (by rw [hz3.1]; exact q)
    have go : ∀ {hds' : List ExceptHandler} {l' : List Cl}, HdsA X hds' l' → wAll X.K Wout D l' cls d σ' H' →
        wpAny (model X.prog X.w) X.A (handleBy (.ref a) X.env hds') (SP X pins D) X.xe { s' with heap := h3 } := by
      intro hds' l' hk
      induction hk with
      | nil =>
        intro w
        refine wpAny_handleBy_nil ?_
        obtain ⟨k1, k2, k3, oe, vs, T, oT, ts', he, hz, hd, h1, hr⟩ := id fl3
        unfold PySem.passOn
        refine wpAny_bind (wpAny_field he hd h1 ?_)
        rw [if_neg (show ¬ ((Value.ref T == Value.none) = true) from by simp)]
        have fin : wpAny (model X.prog X.w) X.A (setFlight (.ref a) X.env.frame) (fun _ s4 => wpAny (model X.prog X.w) X.A (throw (.ref a) : Sem Flow) (SP X pins D) X.xe s4) X.xe { s' with heap := h3 } := by
          rw [hf]
          refine HandSPX.setFlight_upZ fl3 fun h4 hh4 up4 => wpAny_throw (tk _ _ ?_)
          exact ⟨a, B, sI, pins, σ', H', cls, d, rfl, J, nb, (up.trans up3).trans up4, .inr (.inr (by rw [hs]; exact hh4)), na, os, ag, w⟩
        first
          | exact wpAny_bind (wpAny_pure (wpAny_bind fin))
          | exact wpAny_bind fin
      | @cons x c ts b₀ suite np pos' hds2 l2 hc hsu r ih =>
        intro w
        obtain ⟨b, hb1, hyes, hno⟩ := w
        refine wpAny_handleBy_cons (codeAny_handlers_test ?_) (by intro q; cases q)
        refine tst hc ((PySem.W.exm_one (M := model X.prog X.w) (J3.kIn) LT hb1).here ?_)
        cases b with
        | true =>
          refine codeAny_handlers_suite ?_
          refine HandSPX.lands_againZ fl3 fun h4 fl4 up4 => ?_
          have J4 : Inv X pins σ' H' { s' with heap := h4 } := J.landed nb fl4.1 ((up.trans up3).trans up4) os ag
          obtain ⟨oe4, vs4, he4, hz4, hd4⟩ := fl4.there
          have S4 := J4.suite he4 hd4 na nL nF
          refine wpAny_mono ((hsu a oe4 cls d (X.pn ++ pins) hz4 ⟨_, hd4⟩).run [] _ _ H' _ S4 (hyes rfl a na)) (fun f s6 hsp => ?_) (fun _ _ z => False.elim z)
          cases f with
          | next => obtain ⟨σ6, H6, S6, q6⟩ := hsp; exact ⟨_, _, S6.unsuite ok, q6⟩
          | brk => obtain ⟨σ6, H6, S6, q6⟩ := hsp; exact ⟨_, _, S6.unsuite ok, q6⟩
          | cont => obtain ⟨σ6, H6, S6, q6⟩ := hsp; exact ⟨_, _, S6.unsuite ok, q6⟩
          | ret u => obtain ⟨v6, σ6, H6, S6, r6, q6⟩ := hsp; exact ⟨_, _, _, S6.unsuite ok, r6, q6⟩
        | false =>
          show wpAny _ X.A (handleBy (.ref a) X.env hds2) _ _ _
          exact ih (hno rfl)
      | @consA x n i c ts b₀ suite np pos' hds2 l2 hi hln hc hsu r ih =>
        intro w
        obtain ⟨b, hb1, hyes, hno⟩ := w
        have hloc : Loc X.env.scope n := .inl hln
        refine wpAny_handleBy_cons (codeAny_handlers_test ?_) (by intro q; cases q)
        refine tst hc ((PySem.W.exm_one (M := model X.prog X.w) (J3.kIn) LT hb1).here ?_)
        cases b with
        | true =>
          refine codeAny_handlers_suite_as ?_
          refine HandSPX.lands_againZ fl3 fun h4 fl4 up4 => ?_
          have J4 : Inv X pins σ' H' { s' with heap := h4 } := J.landed nb fl4.1 ((up.trans up3).trans up4) os ag
          obtain ⟨oe4, vs4, he4, hz4, hd4⟩ := fl4.there
          have S4 := J4.suite he4 hd4 na nL nF
          refine store_ok (X := X.suite a ((a, oe4) :: (X.pn ++ pins))) (v := .ref a) S4 hN hi hloc rfl (fun s5 S5 => ?_) (.inr hln)
          refine wpAny_mono ((hsu a oe4 cls d (X.pn ++ pins) hz4 ⟨_, hd4⟩).run [] s5 _ H' _ S5 (hyes rfl a na)) (fun f s6 hsp => ?_) (fun _ _ z => False.elim z)
          have end_ : ∀ {σ6 : L2.St} {H6 : Hp} {Q : Shared → Prop}, Inv (X.suite a ((a, oe4) :: (X.pn ++ pins))) [] σ6 H6 s6 → (∀ s7, Inv X pins (σ6.set i none) H6 s7 → Q s7) →
              wpAny (model X.prog X.w) X.A (do bindName X.env n .none; unbindBehindTheSuite X.env n pos') (fun _ s7 => Q s7) X.xe s6 := fun {σ6 H6 Q} S6 hq => gone_ok (S6.unsuite ok) hN hi hln hq
          cases f with
          | next => obtain ⟨σ6, H6, S6, q6⟩ := hsp; exact end_ S6 fun s7 J7 => ⟨_, _, J7, q6⟩
          | brk => obtain ⟨σ6, H6, S6, q6⟩ := hsp; exact end_ S6 fun s7 J7 => ⟨_, _, J7, q6⟩
          | cont => obtain ⟨σ6, H6, S6, q6⟩ := hsp; exact end_ S6 fun s7 J7 => ⟨_, _, J7, q6⟩
          | ret u => obtain ⟨v6, σ6, H6, S6, r6, q6⟩ := hsp; exact end_ S6 fun s7 J7 => ⟨_, _, _, J7, r6, q6⟩
        | false =>
          show wpAny _ X.A (handleBy (.ref a) X.env hds2) _ _ _
          exact ih (hno rfl)
    exact go hh w
  · cases f with
    | next => obtain ⟨σ', H', J', q⟩ := hsp; exact wpAny_execs_nil ⟨σ', H', J'.ofTry ok, q⟩
    | brk => obtain ⟨σ', H', J', q⟩ := hsp; exact ⟨σ', H', J'.ofTry ok, q⟩
    | cont => obtain ⟨σ', H', J', q⟩ := hsp; exact ⟨σ', H', J'.ofTry ok, q⟩
    | ret u => obtain ⟨v, σ', H', J', r, q⟩ := hsp; exact ⟨v, σ', H', J'.ofTry ok, r, q⟩
end
end DX
end

section
set_option Elab.async false
set_option linter.all false
set_option maxRecDepth 100000
set_option maxHeartbeats 4000000
namespace DL
open PySem PySem.Spec PyProof.Rows L2 DX

/-! ### data that tells the same in another view -/
mutual
def plainD : D → Bool
  | .tup xs => plainL xs
  | .lst xs => plainL xs
  | .dct _ xs => plainL xs
  | .th _ _ => false
  | .xc _ _ _ => false
  | _ => true
def plainL : List D → Bool
  | [] => true
  | x :: xs => plainD x && plainL xs
end
structure GE (g g' : G) : Prop where
  K : g.K = g'.K
  fnA : g.fnA = g'.fnA
  clA : g.clA = g'.clA
  T : g.T = g'.T
theorem GE.symm {g g' : G} (h : GE g g') : GE g' g := ⟨h.K.symm, h.fnA.symm, h.clA.symm, h.T.symm⟩
section
variable {g g' : G} {H : Hp} {A : Addr → Prop}
mutual
theorem Rep.swap (h : GE g g') : ∀ (d : D) (v : V), plainD d = true → Rep g H A d v → Rep g' H A d v
  | .non, _, _, r => r
  | .bl _, _, _, r => r
  | .int _, _, _, r => r
  | .str _, _, _, r => r
  | .tup ds, _, p, ⟨a, vs, e, q, r⟩ => ⟨a, vs, e, by unfold QT; rw [← h.K]; exact q, RepL.swap h ds vs (by simpa [plainD] using p) r⟩
  | .lst ds, _, p, ⟨a, vs, e, q, r⟩ => ⟨a, vs, e, by unfold QL; rw [← h.K]; exact q, RepL.swap h ds vs (by simpa [plainD] using p) r⟩
  | .dct ks ds, _, p, ⟨a, vs, e, q, l, r⟩ => ⟨a, vs, e, q, l, RepL.swap h ds vs (by simpa [plainD] using p) r⟩
  | .fn _, _, _, r => by unfold Rep; rw [← h.fnA]; exact r
  | .cl _, _, _, r => by unfold Rep; rw [← h.clA]; exact r
  | .ty _, _, _, r => r
  | .th _ _, _, p, _ => by simp [plainD] at p
  | .xc _ _ _, _, p, _ => by simp [plainD] at p
theorem RepL.swap (h : GE g g') : ∀ (ds : List D) (vs : List V), plainL ds = true → RepL g H A ds vs → RepL g' H A ds vs
  | [], _, _, r => r
  | d :: ds, _, p, ⟨v, r, e, h1, h2⟩ => by
    simp only [plainL, Bool.and_eq_true] at p
    exact ⟨v, r, e, Rep.swap h d v p.1 h1, RepL.swap h ds r p.2 h2⟩
end
end
/-! .. and from a view to one with another exception in hand -/
mutual
def plainX : D → Bool
  | .tup xs => plainXL xs
  | .lst xs => plainXL xs
  | .dct _ xs => plainXL xs
  | .xc _ _ _ => false
  | _ => true
def plainXL : List D → Bool
  | [] => true
  | x :: xs => plainX x && plainXL xs
end
structure GX (g g' : G) : Prop where
  K : g.K = g'.K
  fnA : g.fnA = g'.fnA
  clA : g.clA = g'.clA
  T : g.T = g'.T
  th : g.th = g'.th
theorem GX.symm {g g' : G} (h : GX g g') : GX g' g := ⟨h.K.symm, h.fnA.symm, h.clA.symm, h.T.symm, h.th.symm⟩
section
variable {g g' : G} {H : Hp} {A : Addr → Prop}
mutual
theorem Rep.swapX (h : GX g g') : ∀ (d : D) (v : V), plainX d = true → Rep g H A d v → Rep g' H A d v
  | .non, _, _, r => r
  | .bl _, _, _, r => r
  | .int _, _, _, r => r
  | .str _, _, _, r => r
  | .tup ds, _, p, ⟨a, vs, e, q, r⟩ => ⟨a, vs, e, by unfold QT; rw [← h.K]; exact q, RepL.swapX h ds vs (by simpa [plainX] using p) r⟩
  | .lst ds, _, p, ⟨a, vs, e, q, r⟩ => ⟨a, vs, e, by unfold QL; rw [← h.K]; exact q, RepL.swapX h ds vs (by simpa [plainX] using p) r⟩
  | .dct ks ds, _, p, ⟨a, vs, e, q, l, r⟩ => ⟨a, vs, e, q, l, RepL.swapX h ds vs (by simpa [plainX] using p) r⟩
  | .fn _, _, _, r => by unfold Rep; rw [← h.fnA]; exact r
  | .cl _, _, _, r => by unfold Rep; rw [← h.clA]; exact r
  | .ty _, _, _, r => r
  | .th _ _, _, _, ⟨t, h1, h2⟩ => ⟨t, by rw [← h.th]; exact h1, h2⟩
  | .xc _ _ _, _, p, _ => by simp [plainX] at p
theorem RepL.swapX (h : GX g g') : ∀ (ds : List D) (vs : List V), plainXL ds = true → RepL g H A ds vs → RepL g' H A ds vs
  | [], _, _, r => r
  | d :: ds, _, p, ⟨v, r, e, h1, h2⟩ => by
    simp only [plainXL, Bool.and_eq_true] at p
    exact ⟨v, r, e, Rep.swapX h d v p.1 h1, RepL.swapX h ds r p.2 h2⟩
end
end
def plainS : Option Slot → Bool
  | some (.v d) => plainX d
  | some (.m ds) => plainXL ds
  | none => true
def plainE (e : Env) : Bool := e.all plainS
theorem plainE_get {e : Env} (h : plainE e = true) {i : Nat} {s : Option Slot} (q : e[i]? = some s) : plainS s = true := List.all_eq_true.mp h s (List.mem_of_getElem? q)
section
variable {g g' : G} {P : Addr → Prop} {ps : List (Nat × Addr)} {e e' e1 : Env} {σ σ' σ1 : L2.St} {H H' H1 : Hp}
theorem StRel.swap (h : GX g g') (p : plainE e = true) (s : StRel g P ps e σ H) : StRel g' P ps e σ H where
  len := s.len
  vv := fun i d q => let ⟨v, h1, h2⟩ := s.vv i d q; ⟨v, h1, Rep.swapX h _ _ (plainE_get p q) h2⟩
  mm := fun i ds q => let ⟨a, vs, h1, h2, h3, h4⟩ := s.mm i ds q; ⟨a, vs, h1, h2, RepL.swapX h _ _ (plainE_get p q) h3, h4⟩
  inj := s.inj
  prv := s.prv
  par := s.par
  tb := by rw [← h.T]; exact s.tb
theorem Go.unset (s : StRel g P ps e σ H) {i : Nat} (hi : i ∉ ps.map (·.1)) : Go g P ps e σ H (e.set i none) (σ.set i none) H := s.wipe (vs := [i]) fun p hp z => hi (by
  rw [← List.mem_singleton.mp z]
  exact List.mem_map_of_mem hp)
/-- from one view to another and back -/
theorem Go.via (a : Kp (Av P e σ) H (Av P e1 σ1) H1) (ap : ∀ b, P b → H1 b = H b) (b : Go g P ps e1 σ1 H1 e' σ' H') : Go g P ps e σ H e' σ' H' :=
  ⟨b.st, a.trans b.kp, fun c h => (b.pr c h).trans (ap c h)⟩
end
/-! ### raise -/
/-- an own exception class without __init__ -/
structure ExcV (g : G) (n : Nat) : Prop where
  q : PySem.W.excIn g.K (g.clA n) [.type "ValueError", .type "Exception", .type "BaseException", .type "object"] "ValueError.__new__" = true
  kC : PySem.W.keepIn g.K (.ref (g.clA n)) = true
  exC : PySem.W.subIn g.K (.ref (g.clA n)) (.type "BaseException") = some true
  tyC : PySem.W.typeIn g.K (.ref (g.clA n)) = some (.type "type")
/-- .. with __init__(self, y): B.__init__(self, 'text'); self.f = y -/
structure ExcF (g : G) (Pr : Program) (w : World) (mg : Str → Option Value) (base : Heap) (n : Nat) (f : Str) : Prop where
  ex : ∃ newId tl B initId fI fd pn, OexT g.K (g.clA n) newId tl ∧ ExcBaseFacts B newId initId tl ∧ PySem.W.findIn g.K (.ref (g.clA n)) "__init__" = some (some (.ref fI)) ∧ PySem.W.typeIn g.K (.ref fI) = some (.type "function") ∧
    FnOk Pr w g.K mg base (L2.CX Pr w) 1 fI fd pn (spF (g.clA n) f) ∧ Binds g.K fd pn []
def sRaise0 (n : Nat) : Env → RS := fun e => .exc ⟨n, []⟩ e
def sRaise1 (n : Nat) (f : Str) (fe : Env → R D) : Env → RS := fun e => sB (fe e) fun d e1 => .exc ⟨n, [(f, d)]⟩ e1
section
variable {g : G} {mp : List Nat} {X : Cx} {x : Str} {a : Expr} {fa : Env → R D} {p p2 pos pos' : Pos} {m : Str} {j n : Nat}
theorem ds_raise0 (hE : ExcV g n) (hK : X.K = g.K) (hc : X.calm = true) (hg : Gl X x) (hm : X.mg x = some (.ref (g.clA n))) (hdb : (x == ("__debug__" : Str)) = false := by decide) : DS g mp X (.Raise (some (.Call (.Name x p) [.Constant (.str m) j p2] [] pos)) none pos') (sRaise0 n) :=
  ⟨fun P ps W hp tk => ps_imp (ps_raise hc tk (pmk_own (X := X) F.excBase_ValueError (by rw [hK]; exact hE.q) hm (by rw [hK]; exact hE.kC) (raises_own (by rw [hK]; exact hE.exC) (by rw [hK]; exact hE.tyC)) hg hdb)) fun σ H Q q => by
    obtain ⟨e, s, q⟩ := tS_eq.mp q
    exact q _ _ _ _ (Go.refl s) ⟨rfl, fun _ => rfl, fun z => (z rfl).elim⟩⟩
theorem tD_mono {P ps W} {f : Env → R D} {σ H} {Q Q' : VK} (h : tD g P ps W f σ H Q) (m : ∀ v H1, Q v H1 → Q' v H1) : tD g P ps W f σ H Q' := by
  obtain ⟨e, s, h⟩ := tD_eq.mp h
  exact tD_of s (h.mono fun d e1 H1 go1 z v rv => m _ _ (z v rv))
theorem ds_raise1 {f : Str} {k : Nat} (hE : ExcF g X.prog X.w X.mg X.base n f) (hK : X.K = g.K) (hc : X.calm = true) (hr : Room (k + 2) X.A) (hg : Gl X x) (hm : X.mg x = some (.ref (g.clA n))) (ha : DE g mp X a fa) (hdb : (x == ("__debug__" : Str)) = false := by decide)
    (he : starEach (a :: []) X.env = (false, eval a X.env) :: starEach [] X.env := by rfl) (hpl : (backTo pos (starEach [] X.env)).any (·.1) = false := by rfl) : DS g mp X (.Raise (some (.Call (.Name x p) [a] [] pos)) none pos') (sRaise1 n f fa) := by
  obtain ⟨newId, tl, B, initId, fI, fd, pn, h1, h2, h3, h4, h5, h6⟩ := hE.ex
  rw [← hK] at h1 h3 h4 h5 h6
  refine ⟨fun P ps W hp tk => ps_imp (ps_raise hc tk (pmk_first (X := X) (te := tD g P ps W fa) (fun σ H Q Q' h m => tD_mono h m) h1 h2 h3 h4 h5 (hr.mono (by omega)) h6 (fun _ _ _ _ e s' I c => passes_call (E := fun _ _ _ => False) tk (fun _ _ _ _ z => z.elim) _ _ _ _ _ _ I c) hg hm (ha.run P ps W hp tk) hdb he hpl)) fun σ H Q q => ?_⟩
  obtain ⟨e, s, q⟩ := tS_eq.mp q
  refine tD_of s (q.sB.mono fun d e1 H1 go1 z v rv dd hd => ?_)
  have nA := go1.st.fresh hd
  exact z _ _ _ _ (Go.new go1.st hd) ⟨rfl, (fun z => by cases z), fun _ => ⟨dd, _, rfl, nA, upd_same, v, [], rfl, Rep.kp (kp_new hd) _ _ rv, rfl⟩⟩
end

/-! ### try .. except -/
/-- a clause: which classes it takes, its name's slot, its suite -/
abbrev DCl : Type := (Nat → Option Bool) × Option Nat × (Env → RS)
def setO (e : Env) (x : Xc) : Option Nat → Env
  | some i => e.set i (some (.v (.xc x.cls (x.fs.map (·.1)) (x.fs.map (·.2)))))
  | none => e
def unO (e : Env) : Option Nat → Env
  | some i => e.set i none
  | none => e
def unS (σ : L2.St) : Option Nat → L2.St
  | some i => σ.set i none
  | none => σ
def plS : Slot → Bool
  | .v d => plainD d
  | .m ds => plainL ds
def endC (i : Option Nat) : RS → RS
  | .nx e => if plainE (unO e i) = true then .nx (unO e i) else .bad
  | .bk e => if plainE (unO e i) = true then .bk (unO e i) else .bad
  | .ct e => if plainE (unO e i) = true then .ct (unO e i) else .bad
  | .rt s e => if plainE (unO e i) = true ∧ plS s = true then .rt s (unO e i) else .bad
  | _ => .bad
def catchC (x : Xc) (e : Env) : List DCl → RS
  | [] => .exc x e
  | (r, i, fs) :: l => match r x.cls with
    | none => .bad
    | some true => endC i (fs (setO e x i))
    | some false => catchC x e l
def sTry (fb : Env → RS) (l : List DCl) : Env → RS := fun e => match fb e with
  | .exc x e1 => if plainE e1 = true ∧ plainL (x.fs.map (·.2)) = true then catchC x e1 l else .bad
  | r => r
/-- the clauses of the text -/
inductive DHds (g : G) (mp : List Nat) (X : Cx) : List ExceptHandler → List DCl → Prop
  | nil : DHds g mp X [] []
  | cons {x : Str} {c : Value} {r : Nat → Option Bool} {fs : Env → RS} {b₀ : Stmt} {suite : List Stmt} {np pos' : Pos} {hds : List ExceptHandler} {l : List DCl} (hc : Names X x c) (hr : ∀ n b, r n = some b → PySem.W.exmOne g.K (.ref (g.clA n)) c = some b)
      (hsu : ∀ (a : Addr) (oe : Obj) (cls : Value) (d : Option Addr) (pn : List (Addr × Obj)), Zc cls d oe → (∃ vs, oe.data = .fields vs) → DSs { g with ex := some ⟨a, cls, d⟩ } mp (X.suite a ((a, oe) :: pn)) (b₀ :: suite) fs) (rest : DHds g mp X hds l) :
      DHds g mp X (.ExceptHandler (some (.Name x np)) none (b₀ :: suite) pos' :: hds) ((r, none, fs) :: l)
  | consA {x n : Str} {i : Nat} {c : Value} {r : Nat → Option Bool} {fs : Env → RS} {b₀ : Stmt} {suite : List Stmt} {np pos' : Pos} {hds : List ExceptHandler} {l : List DCl} (hi : X.N[i]? = some n) (hln : X.env.kindOf n = some .local) (him : i ∉ mp) (hc : Names X x c)
      (hr : ∀ n b, r n = some b → PySem.W.exmOne g.K (.ref (g.clA n)) c = some b)
      (hsu : ∀ (a : Addr) (oe : Obj) (cls : Value) (d : Option Addr) (pn : List (Addr × Obj)), Zc cls d oe → (∃ vs, oe.data = .fields vs) → DSs { g with ex := some ⟨a, cls, d⟩ } mp (X.suite a ((a, oe) :: pn)) (b₀ :: suite) fs) (rest : DHds g mp X hds l) :
      DHds g mp X (.ExceptHandler (some (.Name x np)) (some n) (b₀ :: suite) pos' :: hds) ((r, some i, fs) :: l)
theorem RepF.parts {g : G} {H : Hp} {A : Addr → Prop} : ∀ {l : List (Str × D)} {r : List (Str × V)}, RepF g H A l r → r.map (·.1) = l.map (·.1) ∧ RepL g H A (l.map (·.2)) (r.map (·.2))
  | [], _, h => by rw [show _ = [] from h]; exact ⟨rfl, rfl⟩
  | (n, d) :: l, _, ⟨v, r, e, h1, h2⟩ => by
    rw [e]
    obtain ⟨q1, q2⟩ := RepF.parts h2
    exact ⟨by simp [q1], v, r.map (·.2), rfl, h1, q2⟩
section
variable {g : G} {mp : List Nat} {X : Cx} {P : Addr → Prop} {ps : List (Nat × Addr)}
theorem takesF {X : Cx} : Takes X (fun _ _ _ _ => False) := fun _ _ ⟨_, _, _, _, _, _, _, _, _, _, _, _, _, _, _, _, w⟩ => w.elim
theorem GX.ex {x : Option Exv} : GX g { g with ex := x } := ⟨rfl, rfl, rfl, rfl, rfl⟩
theorem GE.ex {x : Option Exv} : GE g { g with ex := x } := ⟨rfl, rfl, rfl, rfl⟩
/-- an exception's own suite: from its entry to its end -/
theorem suite_of {Wout : WX} {x : Xc} {e1 : Env} {σ' : L2.St} {H' : Hp} {cls : Value} {d : Option Addr} {i : Option Nat} {fs : Env → RS} {D : Ends} (s1 : StRel g P ps e1 σ' H') (pe : plainE e1 = true) (px : plainL (x.fs.map (·.2)) = true) (rx : XRep g H' (Av P e1 σ') x cls d)
    (him : ∀ j, i = some j → j ∉ ps.map (·.1)) (z : PRS g P ps Wout e1 σ' H' (endC i (fs (setO e1 x i))) D) (a : Addr) :
    tS { g with ex := some ⟨a, cls, d⟩ } P ps (fun _ _ _ _ => False) fs (endA D i) (putA σ' a i) H' := by
  have s1' : StRel { g with ex := some ⟨a, cls, d⟩ } P ps e1 σ' H' := s1.swap GX.ex pe
  have rxc : Rep { g with ex := some ⟨a, cls, d⟩ } H' (Av P e1 σ') (.xc x.cls (x.fs.map (·.1)) (x.fs.map (·.2))) (.ref a) := by
    refine ⟨_, rfl, rfl, rx.1, fun hn => rx.2.1 (by cases hx : x.fs with | nil => rfl | cons p r => rw [hx] at hn; cases hn), fun hn => ?_⟩
    obtain ⟨dd, ff, q1, q2, q3, q4⟩ := rx.2.2 (fun z => hn (by rw [z]; rfl))
    obtain ⟨y1, y2⟩ := q4.parts
    exact ⟨dd, ff, q1, ⟨q2, q3⟩, y1, RepL.swap GE.ex _ _ px y2⟩
  -- the entry
  have ent : Go { g with ex := some ⟨a, cls, d⟩ } P ps e1 σ' H' (setO e1 x i) (putA σ' a i) H' := by
    cases i with
    | none => exact Go.refl s1'
    | some i => exact s1'.setv rxc (him i rfl)
  refine tS_eq.mpr ⟨_, ent.st, ?_⟩
  -- the way back
  have back : ∀ {e' : Env} {σ2 : L2.St} {H2 : Hp}, plainE (unO e' i) = true → Go { g with ex := some ⟨a, cls, d⟩ } P ps (setO e1 x i) (putA σ' a i) H' e' σ2 H2 →
      Go g P ps e1 σ' H' (unO e' i) (unS σ2 i) H2 ∧ (∀ b, Av P (unO e' i) (unS σ2 i) b → Av P e' σ2 b) := fun {e' σ2 H2} hp go => by
    have un : Go { g with ex := some ⟨a, cls, d⟩ } P ps e' σ2 H2 (unO e' i) (unS σ2 i) H2 := by
      cases i with
      | none => exact Go.refl go.st
      | some i => exact Go.unset go.st (him i rfl)
    have all := (ent.trans go).trans un
    refine ⟨⟨all.st.swap GX.ex.symm hp, all.kp, all.pr⟩, fun b hb => ?_⟩
    cases i with
    | none => exact hb
    | some i =>
      rcases hb with hb | ⟨j, ds, h1, h2⟩
      · exact .inl hb
      · rcases set_get h1 with ⟨_, w, _⟩ | ⟨hj, h1⟩
        · cases w
        · have h2 : (σ2.set i none)[j]? = some (some (.ref b)) := h2
          rw [List.getElem?_set_ne hj] at h2
          exact .inr ⟨j, ds, h1, h2⟩
  revert z
  unfold endC
  cases fs (setO e1 x i) with
  | bad => exact fun z => z.elim
  | exc x' e' => exact fun z => z.elim
  | nx e' =>
    intro z σ2 H2 go
    by_cases hp : plainE (unO e' i) = true
    · simp only [hp, if_true] at z
      have := z _ _ (back hp go).1
      cases i <;> exact this
    · simp only [hp, if_false] at z
      exact z.elim
  | bk e' =>
    intro z σ2 H2 go
    by_cases hp : plainE (unO e' i) = true
    · simp only [hp, if_true] at z
      have := z _ _ (back hp go).1
      cases i <;> exact this
    · simp only [hp, if_false] at z
      exact z.elim
  | ct e' =>
    intro z σ2 H2 go
    by_cases hp : plainE (unO e' i) = true
    · simp only [hp, if_true] at z
      have := z _ _ (back hp go).1
      cases i <;> exact this
    · simp only [hp, if_false] at z
      exact z.elim
  | rt sl e' =>
    cases sl with
    | v dv =>
      intro z v σ2 H2 go rv
      by_cases hp : plainE (unO e' i) = true ∧ plS (.v dv) = true
      · simp only [hp, and_self, if_true] at z
        obtain ⟨b1, b2⟩ := back hp.1 go
        have := z v _ _ b1 (Rep.mono b2 (Rep.swap GE.ex.symm _ _ hp.2 rv))
        cases i <;> exact this
      · simp only [hp, if_false] at z
        exact z.elim
    | m ds =>
      intro z c σ2 H2 gm
      by_cases hp : plainE (unO e' i) = true ∧ plS (.m ds) = true
      · simp only [hp, and_self, if_true] at z
        obtain ⟨b1, b2⟩ := back hp.1 gm.go
        have un : Go { g with ex := some ⟨a, cls, d⟩ } (Pl P c) ps e' σ2 H2 (unO e' i) (unS σ2 i) H2 := by
          cases i with
          | none => exact Go.refl gm.st
          | some i => exact Go.unset gm.st (him i rfl)
        obtain ⟨vs, w1, w2⟩ := gm.at_
        have sub : ∀ b, Av (Pl P c) (unO e' i) (unS σ2 i) b → Av (Pl P c) e' σ2 b := fun b hb => by
          rcases hb with hb | hb
          · exact .inl hb
          · rcases b2 b (.inr hb) with w | w
            · exact .inl (.inl w)
            · exact .inr w
        have := z c _ _ ⟨un.st.swap GX.ex.symm hp.1, (ent.kp.trans gm.kp).trans un.kp, fun b hb => (gm.pr b hb).trans (ent.pr b hb), gm.np, vs, w1, RepL.mono sub (RepL.swap GE.ex.symm _ _ hp.2 w2)⟩
        cases i <;> exact this
      · simp only [hp, if_false] at z
        exact z.elim
theorem hds_of {hds : List ExceptHandler} {l : List DCl} (hK : X.K = g.K) (hp : ps.map (·.1) = mp) (h : DHds g mp X hds l) : ∃ l' : List Cl, HdsA X hds l' ∧
    ∀ (Wout : WX) (x : Xc) (e1 : Env) (σ' : L2.St) (H' : Hp) (cls : Value) (d : Option Addr) (D : Ends), (∀ cls d σ2 H2, Go g P ps e1 σ' H' e1 σ2 H2 → XRep g H2 (Av P e1 σ2) x cls d → True) → StRel g P ps e1 σ' H' → plainE e1 = true → plainL (x.fs.map (·.2)) = true → XRep g H' (Av P e1 σ') x cls d →
      PRS g P ps Wout e1 σ' H' (catchC x e1 l) D → wAll X.K Wout D l' cls d σ' H' := by
  induction h with
  | nil => exact ⟨[], .nil, fun Wout x e1 σ' H' cls d D _ s1 pe px rx z => z _ _ _ _ (Go.refl s1) rx⟩
  | @cons x c r fs b₀ suite np pos' hds l hc hr hsu rest ih =>
    obtain ⟨l', h1, h2⟩ := ih
    refine ⟨_, .cons (ts := fun a cls d => tS { g with ex := some ⟨a, cls, d⟩ } P ps (fun _ _ _ _ => False) fs) hc (fun a oe cls d pn z f => (hsu a oe cls d pn z f).run P ps _ hp takesF) h1, fun Wout x e1 σ' H' cls d D nn s1 pe px rx z => ?_⟩
    unfold catchC at z
    cases hq : r x.cls with
    | none => rw [hq] at z; exact z.elim
    | some b =>
      rw [hq] at z
      refine ⟨b, by rw [hK, rx.1]; exact hr _ _ hq, fun hb a ha => ?_, fun hb => ?_⟩
      · subst hb
        exact suite_of (i := none) s1 pe px rx (fun j z => by cases z) z a
      · subst hb
        exact h2 Wout x e1 σ' H' cls d D nn s1 pe px rx z
  | @consA x n i c r fs b₀ suite np pos' hds l hi hln him hc hr hsu rest ih =>
    obtain ⟨l', h1, h2⟩ := ih
    refine ⟨_, .consA (ts := fun a cls d => tS { g with ex := some ⟨a, cls, d⟩ } P ps (fun _ _ _ _ => False) fs) hi hln hc (fun a oe cls d pn z f => (hsu a oe cls d pn z f).run P ps _ hp takesF) h1, fun Wout x e1 σ' H' cls d D nn s1 pe px rx z => ?_⟩
    unfold catchC at z
    cases hq : r x.cls with
    | none => rw [hq] at z; exact z.elim
    | some b =>
      rw [hq] at z
      refine ⟨b, by rw [hK, rx.1]; exact hr _ _ hq, fun hb a ha => ?_, fun hb => ?_⟩
      · subst hb
        exact suite_of (i := some i) s1 pe px rx (fun j z => by cases z; rw [hp]; exact him) z a
      · subst hb
        exact h2 Wout x e1 σ' H' cls d D nn s1 pe px rx z
theorem ds_try {body : List Stmt} {h₀ : ExceptHandler} {hds : List ExceptHandler} {l : List DCl} {pos : Pos} {fb : Env → RS} (hK : X.K = g.K) (hs : X.stack = X.env :: X.outer) (hf : X.env.frame = some X.env.locals) (hN : X.N.Nodup)
    (hb : ∀ (pn : List (Addr × Obj)) (xe : Value → Shared → Prop), PassesOwn (model X.prog X.w) X.A X.env xe → DSs g mp (X.tr pn xe) body fb) (hh : DHds g mp X (h₀ :: hds) l) : DS g mp X (.Try body (h₀ :: hds) [] [] pos) (sTry fb l) := by
  refine ⟨fun P ps W hp tk => ?_⟩
  obtain ⟨l', h1, h2⟩ := hds_of (P := P) hK hp hh
  refine ps_imp (ps_try_all (tb := fun W => tS g P ps W fb) hs hf hN tk (fun W' pn xe tk' po => (hb pn xe po).run P ps W' hp tk') h1) fun σ H D q => ?_
  obtain ⟨e, s, q⟩ := tS_eq.mp q
  refine tS_eq.mpr ⟨e, s, ?_⟩
  unfold sTry at q
  revert q
  cases fb e with
  | bad => exact fun q => q
  | nx e' => exact fun q => q
  | bk e' => exact fun q => q
  | ct e' => exact fun q => q
  | rt sl e' => cases sl <;> exact fun q => q
  | exc x e1 =>
    intro q cls d σ' H' go rx
    by_cases hpl : plainE e1 = true ∧ plainL (x.fs.map (·.2)) = true
    · simp only [hpl, and_self, if_true] at q
      exact h2 W x e1 σ' H' cls d D (fun _ _ _ _ _ _ => True.intro) go.st hpl.1 hpl.2 rx (PRS.shift q go)
    · simp only [hpl, if_false] at q
      exact q.elim
end
end DL
end

section
set_option Elab.async false
set_option linter.all false
set_option maxRecDepth 100000
set_option maxHeartbeats 4000000
namespace DX
open PySem PySem.Spec PyProof.Rows L2 PySem.W PySem.Calls
section
variable {prog : Program} {w : World} {A : Around} {E : Value → Shared → Prop} {s : Shared} {K : Frag} {x D : Addr} {ox : Obj} {od : Option Obj}
theorem findObj_data {C : Addr} {name : Str} {a g : Value} (hc : (clsIn K C).isSome = true) (ha : findIn K (.ref C) name = some (some a)) (hg : specialIn K a "__get__" = some (some g)) (ht : takesIn K a = some true) : findObj K C od name = some (.bind g a) := by
  obtain ⟨cd, hc⟩ := Option.isSome_iff_exists.mp hc
  unfold findObj
  rw [hc, Option.bind_some, ha, Option.bind_some]
  simp [hg, ht]
/-- x.__class__ of an exception, with or without a dict -/
theorem cls_of {Q : Option Value → Shared → Prop} (C : L2.ExcC K D) (X : K.In s.heap) (I : InstAt s.heap x ox D od) (h : Q (some (.ref D)) { s with toks := s.toks + 1 }) : wpAny (model prog w) A (getAttr? (.ref x) "__class__") Q E s := by
  have hf : findObj K D od "__class__" = some (.bind (.builtin "getset_descriptor.__get__") (.builtin "object.__class__")) := findObj_data (by obtain ⟨cd, hc, _⟩ := any_some C.hd; rw [hc]; rfl) C.ha C.hn C.ht
  obtain ⟨hp, g, d, t, os⟩ := s
  have L0 := I.type (M := model prog w)
  have L1 := looks_findIn (M := model prog w) X C.hg
  have L2 := looks_findIn (M := model prog w) X C.hk
  have L3 := looks_find (M := model prog w) X I hf
  have sub : Looks (model prog w) hp (isInstance (.ref x) (.type "BaseException")) true := L0.andThen (looks_subIn X C.hs)
  have hx2 : (Value.builtin "BaseException.__getattribute__" == Value.builtin "object.__getattribute__") = false := by decide +kernel
  have hx1 : (onTheHeap (Value.ref D) && Value.builtin "BaseException.__getattribute__" == Value.builtin "object.__getattribute__") = false := by rw [hx2]; rfl
  unfold getAttr? getAttrBy? getAttrBy
  refine wpAny_bind (wpAny_mkText (wpAny_bind (wpAny_attempt (wpAny_holding (wpAny_bind (L0.at (wpAny_bind (L1.at ?_))))))))
  show wpAny _ _ (if (onTheHeap (Value.ref D) && Value.builtin "BaseException.__getattribute__" == Value.builtin "object.__getattribute__") = true then _ else _) _ _ _
  rw [hx1, if_neg Bool.false_ne_true]
  unfold getAttrByItsOwn hookBefore
  refine wpAny_bind ?_
  rw [if_pos (show onTheHeap (Value.ref D) = true from rfl)]
  refine L2.at ?_
  refine wpAny_bind (wpAny_attempt (wpAny_holding ?_))
  unfold callGetattribute
  rw [show (false && onTheHeap (Value.builtin "BaseException.__getattribute__")) = false from rfl, if_neg Bool.false_ne_true]
  unfold boundAndCalled
  rw [PySem.F.excAttr_ValueError.ga.bind (.ref x)]
  refine wpAny_bind (wpAny_pure ?_)
  show wpAny _ _ (call (.builtin "BaseException.__getattribute__") [.ref x, .str "__class__" t]) _ _ _
  refine wpAny_call (codeAny_call_builtin PySem.F.excAttr_ValueError.ga.plain PySem.F.entry_bexc_ga ?_)
  refine @check_slot (model prog w) _ _ ⟨hp, g, d, t + 1, os⟩ "BaseException.__getattribute__" "BaseException" "__getattribute__" (.ref x) [.str "__class__" t] [] _ (by decide +kernel) (by decide +kernel) sub (PySem.F.args_bexc_ga (.ref x) (.str "__class__" t)) ?_
  unfold Builtin.«object.__getattribute__»
  refine wpAny_bind (wpAny_of_eq (a := ((Value.ref x : Value), [Value.str "__class__" t])) (by first | rfl | (simp only [slotArgs]; rfl)) ?_)
  refine wpAny_bind (wpAny_pure (wpAny_bind (L0.at (wpAny_bind (L3.at ?_)))))
  show wpAny _ _ (holding [Value.builtin "object.__class__"] (call (.builtin "getset_descriptor.__get__") [.builtin "object.__class__", .ref x, .ref D]) >>= ret) _ _ _
  refine wpAny_bind (wpAny_holding (wpAny_call (class_get (s := ⟨hp, g, d, t + 1, os⟩) (ox := ox) (od := od) X I C.hm ?_)))
  refine wpAny_pure ?_
  show wpAny _ _ (handedOut (.ref D)) _ _ _
  rw [handedOut_of (v := .ref D) rfl]
  first
    | exact wpAny_pure (wpAny_pure h)
    | exact wpAny_pure h
    | exact wpAny_pure (wpAny_bind (wpAny_pure (wpAny_pure h)))
theorem kit_exc (C : L2.ExcC K D) : KitX K (.ref x) (.ref D) (fun h => ∃ od, InstAt h x ox D od) where
  ty := fun _ _ _ ⟨_, I⟩ => I.type
  it := fun _ _ X _ => by
    obtain ⟨cdD, hcD, _⟩ := any_some C.hd
    unfold clsIn at hcD
    split at hcD
    · rename_i c' d' cd' sl' ho
      intro A' Q' E' s' k q
      unfold isType loadHead
      exact wpAny_bind (wpAny_loadPart (k _ _ (X _ _ ho)) (wpAny_pure q))
    · cases hcD
  ne := fun h tp dd its n sl X htp => by
    obtain ⟨cdD, hcD, _⟩ := any_some C.hd
    refine Bool.eq_false_iff.mpr fun q => ?_
    have e : D = tp := Value.ref.inj (beq_iff_eq.mp q)
    subst e
    unfold clsIn at hcD
    split at hcD
    · rename_i c' d' cd' sl' ho
      have z := (X _ _ ho).symm.trans htp
      cases z
    · cases hcD
  ca := fun X ⟨_, I⟩ k => cls_of C X I k
end
end DX
namespace DL
open PySem PySem.Spec PyProof.Rows L2 DX
/-- the exception that a suite looks at -/
def xAt (e : Env) (i : Nat) : Option (Nat × List Str × List D) := match e[i]? with
  | some (some (.v (.xc n ns ds))) => some (n, ns, ds)
  | _ => none
theorem xAt_some {e : Env} {i n ns ds} (h : xAt e i = some (n, ns, ds)) : e[i]? = some (some (.v (.xc n ns ds))) := by
  unfold xAt at h
  split at h
  · rename_i q; cases h; exact q
  · cases h
def dIsX (i : Nat) (r : Nat → Option Bool) : Env → R D := fun e => bnd (opt ((xAt e i).bind fun x => r x.1) e) fun b e => .ok (.bl b) e
def dXf (i : Nat) (f : Str) (r : Nat → Bool) : Env → R D := fun e => opt ((xAt e i).bind fun x => if r x.1 = true then (x.2.1.zip x.2.2).lookup f else none) e
theorem lookup_parts {g : G} {H : Hp} {A : Addr → Prop} {f : Str} : ∀ {fs : List (Str × V)} {ds : List D} {d : D}, RepL g H A ds (fs.map (·.2)) → ((fs.map (·.1)).zip ds).lookup f = some d → ∃ v, fs.lookup f = some v ∧ Rep g H A d v
  | [], ds, d, _, h => by simp at h
  | (n, v) :: fs, [], d, r, h => by simp at h
  | (n, v) :: fs, d0 :: ds, d, ⟨v', r', e, h1, h2⟩, h => by
    have e : v :: fs.map (·.2) = v' :: r' := e
    injection e with e1 e2
    subst e1 e2
    have h : ((n, d0) :: (fs.map (·.1)).zip ds).lookup f = some d := h
    rw [List.lookup_cons] at h ⊢
    cases hb : (f == n) with
    | true => rw [hb] at h; cases h; exact ⟨v, rfl, h1⟩
    | false => rw [hb] at h; exact lookup_parts h2 h
section
variable {g : G} {mp : List Nat} {X : Cx} {x y : Str} {p p2 p3 pos : Pos} {a : Addr} {oe : Obj} {cls : Value} {d : Option Addr} {pn : List (Addr × Obj)}
theorem exc_inst {pins : List (Addr × Obj)} {σ : L2.St} {H : Hp} {s : Shared} {D : Addr} {cls : Value} (hz : Zc cls d oe) (hf : ∃ vs, oe.data = .fields vs) (ec : cls = .ref D) (I : Inv (X.suite a ((a, oe) :: pn)) pins σ H s) (hd : ∀ dd, d = some dd → ∃ od, s.heap.get? dd = some od) : ∃ od, PySem.W.InstAt s.heap a oe D od := by
  obtain ⟨hget, _⟩ := I.pin (a, oe) (List.mem_append.mpr (.inl List.mem_cons_self))
  obtain ⟨vs, hv⟩ := hf
  subst ec
  obtain ⟨oc, odict, oda, osl⟩ := oe
  obtain ⟨h1, h2⟩ := hz
  dsimp only at h1 h2 hv
  subst h1 h2 hv
  cases odict with
  | none => exact ⟨none, hget, rfl, rfl, trivial⟩
  | some dd =>
    obtain ⟨od, q⟩ := hd dd rfl
    exact ⟨some od, hget, rfl, rfl, q⟩
/-- a row of classes, by their names -/
structure ClsL (X : Cx) (es : List Expr) (us : List Value) : Prop where
  ex : ∃ vs, PA X es (fun _ H Q => Q vs H) ∧ Paired ClsV vs us
theorem cl_nil {X : Cx} : ClsL X [] [] := ⟨[], pa_nil, .nil⟩
theorem cl_own {X : Cx} {x : Str} {p : Pos} {C : Addr} {es : List Expr} {us : List Value} (hg : Gl X x) (hm : X.mg x = some (.ref C)) (h : ClsL X es us) (hd : (x == ("__debug__" : Str)) = false := by decide) (hs : starEach (.Name x p :: es) X.env = (false, eval (.Name x p) X.env) :: starEach es X.env := by rfl) : ClsL X (.Name x p :: es) (.ref C :: us) := by
  obtain ⟨vs, h1, h2⟩ := h.ex
  exact ⟨_, pa_imp (pa_cons (pe_glob (v := .ref C) hg hm rfl hd) h1 hs) fun σ H Q q => q, .cons (.own C) h2⟩
theorem cl_ty {X : Cx} {x : Str} {p : Pos} {T : String} {es : List Expr} {us : List Value} (hg : Gl X x) (hm : X.mg x = none) (hv : bootBuiltins x = some (.type T)) (h : ClsL X es us) (hn : x ≠ "__name__" := by decide) (hd : (x == ("__debug__" : Str)) = false := by decide)
    (hs : starEach (.Name x p :: es) X.env = (false, eval (.Name x p) X.env) :: starEach es X.env := by rfl) : ClsL X (.Name x p :: es) (.type T :: us) := by
  obtain ⟨vs, h1, h2⟩ := h.ex
  exact ⟨_, pa_imp (pa_cons (pe_bltn (v := .ty T) hg hm hv rfl hn hd) h1 hs) fun σ H Q q => q, .cons (.ty T) h2⟩
def rIs1 (K : PySem.W.Frag) (a : Addr) (cls : Value) (d : Option Addr) : List V → Hp → VK → Prop := fun xs H Q => ∃ c cv b D, xs = [.ref a, c] ∧ ClsV c cv ∧ cls = .ref D ∧ (∀ dd, d = some dd → ∃ fs, H dd = some (.xd fs)) ∧ L2.ExcC K D ∧ PySem.W.kitOne K (.ref D) cv = some b ∧ Q (.bl b) H
def rIsTp (K : PySem.W.Frag) (a : Addr) (cls : Value) (d : Option Addr) : List V → Hp → VK → Prop := fun xs H Q => ∃ tp cs us b D, xs = [.ref a, .ref tp] ∧ H tp = some (.tup cs) ∧ Paired ClsV cs us ∧ cls = .ref D ∧ (∀ dd, d = some dd → ∃ fs, H dd = some (.xd fs)) ∧ L2.ExcC K D ∧ PySem.W.kitAny K (.ref D) us = some b ∧ Q (.bl b) H
theorem call_is1 (hz : Zc cls d oe) (hf : ∃ vs, oe.data = .fields vs) : CallR (X.suite a ((a, oe) :: pn)) (.builtin "isinstance") (rIs1 X.K a cls d) := by
  intro pins s σ H xs us Q I r h
  obtain ⟨c, cv, b, D, rfl, k, ec, hd, C, e, q⟩ := h
  obtain ⟨u1, u2, rfl, r1, r2⟩ := vals2 r
  cases (show u1 = Value.ref a from r1)
  have e2 := k.eq r2
  subst e2
  obtain ⟨od, J⟩ := exc_inst hz hf ec I fun dd q => by
    obtain ⟨fs, z⟩ := hd dd q
    exact objOk_get (I.hok dd _ z)
  exact PySem.W.kia_one (kit_exc C) I.kIn ⟨od, J⟩ e (fun z => nomatch z) fun tk => ⟨.bl b, H, I.tok tk, rfl, q⟩
theorem call_isTp (hz : Zc cls d oe) (hf : ∃ vs, oe.data = .fields vs) : CallR (X.suite a ((a, oe) :: pn)) (.builtin "isinstance") (rIsTp X.K a cls d) := by
  intro pins s σ H xs us Q I r h
  obtain ⟨tp, cs, ws, b, D, rfl, hT, k, ec, hd, C, e, q⟩ := h
  obtain ⟨u1, u2, rfl, r1, r2⟩ := vals2 r
  cases (show u1 = Value.ref a from r1)
  cases (show u2 = Value.ref tp from r2)
  obtain ⟨od, J⟩ := exc_inst hz hf ec I fun dd q => by
    obtain ⟨fs, z⟩ := hd dd q
    exact objOk_get (I.hok dd _ z)
  obtain ⟨_, its, rv, o, h1, h2, n, h3⟩ := (show ObjOk X.prog X.w H s.heap tp (.tup cs) from I.hok tp _ hT)
  have e3 := ClsV.all k rv
  subst e3
  obtain ⟨oc, od', dt, sl⟩ := o
  simp only at h2 h3
  subst h2 h3
  exact PySem.W.kia_tup (kit_exc C) I.kIn ⟨od, J⟩ h1 e (fun z => nomatch z) fun tk => ⟨.bl b, H, I.tok tk, rfl, q⟩
/-- what the slot tells of the exception -/
theorem xc_of {P ps e σ H i n ns ds} (s : StRel { g with ex := some ⟨a, cls, d⟩ } P ps e σ H) (h : xAt e i = some (n, ns, ds)) :
    σ[i]? = some (some (.ref a)) ∧ cls = .ref (g.clA n) ∧ (∀ dd, d = some dd → ∃ fs, H dd = some (.xd fs) ∧ ¬ Av P e σ dd ∧ fs.map (·.1) = ns ∧ RepL { g with ex := some ⟨a, cls, d⟩ } H (Av P e σ) ds (fs.map (·.2))) ∧ (d = none → ns = []) := by
  obtain ⟨v, h1, x, h2, h3, h4, h5, h6⟩ := s.vv i _ (xAt_some h)
  cases h2
  rw [h3] at h1
  refine ⟨h1, h4, fun dd hd => ?_, fun hd => ?_⟩
  · have hn : ns ≠ [] := fun z => by
      have := h5 z
      rw [hd] at this
      cases this
    obtain ⟨dd', fs, q1, ⟨q2, q3⟩, q4, q5⟩ := h6 hn
    rw [hd] at q1
    cases q1
    exact ⟨fs, q3, q2, q4, q5⟩
  · cases hn : ns with
    | nil => rfl
    | cons y r =>
      obtain ⟨dd', fs, q1, _⟩ := h6 (by rw [hn]; exact fun z => by cases z)
      rw [hd] at q1
      cases q1
theorem de_is1 (i : Nat) {c : Expr} {u : Value} {r : Nat → Option Bool} (hK : X.K = g.K) (hz : Zc cls d oe) (hf : ∃ vs, oe.data = .fields vs) (hg : Gl (X.suite a ((a, oe) :: pn)) "isinstance") (hm : X.mg "isinstance" = none) (hcl : ClsL (X.suite a ((a, oe) :: pn)) [c] [u])
    (hr : ∀ n b, r n = some b → L2.ExcC g.K (g.clA n) ∧ PySem.W.kitOne g.K (.ref (g.clA n)) u = some b) (hN : X.N[i]? = some x := by rfl) (hv : Vis X.env.scope x := by first | exact Or.inl rfl | exact Or.inr (Or.inl rfl) | exact Or.inr (Or.inr rfl)) (hd : (x == ("__debug__" : Str)) = false := by decide)
    (hcd : (x == ("__classdict__" : Str)) = false := by decide) (hs : starEach (.Name x p2 :: [c]) X.env = (false, eval (.Name x p2) X.env) :: starEach [c] X.env := by rfl) (hpl : (backTo pos (starEach [c] X.env)).any (·.1) = false := by rfl) :
    DE { g with ex := some ⟨a, cls, d⟩ } mp (X.suite a ((a, oe) :: pn)) (.Call (.Name "isinstance" p) [.Name x p2, c] [] pos) (dIsX i r) := by
  obtain ⟨vs, h1, h2⟩ := hcl.ex
  refine ⟨fun P ps W hp tk => pe_imp (pe_callB (X := X.suite a ((a, oe) :: pn)) (call_is1 hz hf) hg hm boot_isinstance (pa_cons (X := X.suite a ((a, oe) :: pn)) (pe_var hN hv hd hcd) h1 hs) (by decide) (by decide) hs hpl) fun σ H Q h => ?_⟩
  obtain ⟨e, s, h⟩ := tD_eq.mp h
  obtain ⟨b, q, h⟩ := PR.optM s h
  obtain ⟨⟨n, ns, ds⟩, q1, q2⟩ := Option.bind_eq_some_iff.mp q
  obtain ⟨x1, x2, x3, x4⟩ := xc_of s q1
  obtain ⟨y1, y2⟩ := hr n b q2
  rw [← hK] at y1 y2
  cases h2 with
  | cons k kr =>
    cases kr
    exact ⟨.ref a, x1, _, _, b, _, rfl, k, x2, fun dd hd => let ⟨fs, z, _⟩ := x3 dd hd; ⟨fs, z⟩, y1, y2, h _ (Go.refl s) _ rfl⟩
theorem de_isT (i : Nat) {es : List Expr} {k : Nat} {us : List Value} {r : Nat → Option Bool} (hK : X.K = g.K) (hz : Zc cls d oe) (hf : ∃ vs, oe.data = .fields vs) (hg : Gl (X.suite a ((a, oe) :: pn)) "isinstance") (hm : X.mg "isinstance" = none) (hcl : ClsL (X.suite a ((a, oe) :: pn)) es us) (hl : us.length ≤ 100)
    (hr : ∀ n b, r n = some b → L2.ExcC g.K (g.clA n) ∧ PySem.W.kitAny g.K (.ref (g.clA n)) us = some b) (hN : X.N[i]? = some x := by rfl) (hv : Vis X.env.scope x := by first | exact Or.inl rfl | exact Or.inr (Or.inl rfl) | exact Or.inr (Or.inr rfl)) (hd : (x == ("__debug__" : Str)) = false := by decide)
    (hcd : (x == ("__classdict__" : Str)) = false := by decide) (hs : starEach (.Name x p2 :: [.Tuple es k p3]) X.env = (false, eval (.Name x p2) X.env) :: starEach [.Tuple es k p3] X.env := by rfl) (hs2 : starEach (.Tuple es k p3 :: []) X.env = (false, eval (.Tuple es k p3) X.env) :: starEach [] X.env := by rfl) (hpl : (backTo pos (starEach [.Tuple es k p3] X.env)).any (·.1) = false := by rfl) :
    DE { g with ex := some ⟨a, cls, d⟩ } mp (X.suite a ((a, oe) :: pn)) (.Call (.Name "isinstance" p) [.Name x p2, .Tuple es k p3] [] pos) (dIsX i r) := by
  obtain ⟨vs, h1, h2⟩ := hcl.ex
  refine ⟨fun P ps W hp tk => pe_imp (pe_callB (X := X.suite a ((a, oe) :: pn)) (call_isTp hz hf) hg hm boot_isinstance (pa_cons (X := X.suite a ((a, oe) :: pn)) (pe_var hN hv hd hcd) (pa_cons (X := X.suite a ((a, oe) :: pn)) (pe_tup h1) pa_nil hs2) hs) (by decide) (by decide) hs hpl) fun σ H Q h => ?_⟩
  obtain ⟨e, s, h⟩ := tD_eq.mp h
  obtain ⟨b, q, h⟩ := PR.optM s h
  obtain ⟨⟨n, ns, ds⟩, q1, q2⟩ := Option.bind_eq_some_iff.mp q
  obtain ⟨x1, x2, x3, x4⟩ := xc_of s q1
  obtain ⟨y1, y2⟩ := hr n b q2
  rw [← hK] at y1 y2
  have hlen : vs.length ≤ sizeLine := by
    rw [Paired.length h2, sizeLine_eq]
    omega
  refine ⟨.ref a, x1, hlen, fun tp htp => ⟨tp, vs, us, b, _, rfl, upd_same, h2, x2, fun dd hd => ?_, y1, y2, h _ (Go.new s htp) _ rfl⟩⟩
  obtain ⟨fs, z, _⟩ := x3 dd hd
  exact ⟨fs, by rw [upd_ne (ne_of_none z htp)]; exact z⟩
theorem de_xf (i : Nat) {f : Str} {r : Nat → Bool} (hK : X.K = g.K) (hz : Zc cls d oe) (hf : ∃ vs, oe.data = .fields vs) (hr : ∀ n, r n = true → XfC g.K (g.clA n) ∧ PySem.W.findIn g.K (.ref (g.clA n)) f = some none) (hN : X.N[i]? = some x := by rfl) (hv : Vis X.env.scope x := by first | exact Or.inl rfl | exact Or.inr (Or.inl rfl) | exact Or.inr (Or.inr rfl)) (hd : (x == ("__debug__" : Str)) = false := by decide)
    (hcd : (x == ("__classdict__" : Str)) = false := by decide) (hb : attributeBase (.Name x p2) f X.env (eval (.Name x p2) X.env) = eval (.Name x p2) X.env := by rfl) : DE { g with ex := some ⟨a, cls, d⟩ } mp (X.suite a ((a, oe) :: pn)) (.Attribute (.Name x p2) f pos) (dXf i f r) := by
  refine ⟨fun P ps W hp tk => ⟨fun pins s σ H Q I h => ?_⟩⟩
  obtain ⟨e, st, h⟩ := tD_eq.mp h
  obtain ⟨dv, q, h⟩ := PR.opt h
  obtain ⟨⟨n, ns, ds⟩, q1, q2⟩ := Option.bind_eq_some_iff.mp q
  obtain ⟨x1, x2, x3, x4⟩ := xc_of st q1
  dsimp only at q2
  split at q2
  · rename_i hrn
    obtain ⟨y1, y2⟩ := hr n hrn
    rw [← hK] at y1 y2
    cases hdd : d with
    | none =>
      rw [x4 hdd] at q2
      simp at q2
    | some dd =>
      obtain ⟨fs, z1, z2, z3, z4⟩ := x3 dd hdd
      rw [← z3] at q2
      obtain ⟨v, w1, w2⟩ := lookup_parts z4 q2
      rw [hdd] at hz
      exact (pe_xf (X := X) (C := g.clA n) (pn := pn) (d := some dd) y1 y2 hz hf (pe_var (X := X.suite a ((a, oe) :: pn)) hN hv hd hcd) hb).run pins s σ H Q I ⟨.ref a, x1, rfl, x2, dd, fs, v, rfl, z1, w1, h _ (Go.refl st) _ w2⟩
  · cases q2
end
end DL
end

section
set_option Elab.async false
set_option linter.all false
set_option maxRecDepth 100000
set_option maxHeartbeats 4000000
namespace DX
open PySem PySem.Spec PyProof.Rows L2
/-! ### defs that are called where no repr is under way -/
structure FnG (P : Program) (w : World) (K : PySem.W.Frag) (mg : Str → Option Value) (base : Heap) (CX : CXT) (k : Nat) (f : Addr) (fd : FuncData) (ps : List Str) (sp : Sp) : Prop where
  len : ∀ vs H Q E, sp vs H Q E → vs.length = ps.length
  run : ∀ (A : Around) (outer : List PySem.Env) (s : Shared) (H : Hp) (args : Args) (us : List Value) (vs : List V) (Q : VK) (E : XK), Room k A → A.guards = some [] → Env0 P w K mg base A outer s H → BindsTo s fd args (ps.zip us) → Vals vs us → sp vs H Q E →
    codeAny (model P w) A (.call (.ref f) args) (CR CX outer P w H s Q E) s
theorem gd_deeper {A : Around} {env : PySem.Env} (h : A.guards = some []) : (A.deeper env).guards = some [] := h
section
variable {P : Program} {w : World} {K : PySem.W.Frag} {mg : Str → Option Value} {base : Heap} {CX : CXT}
theorem fnG_of {k : Nat} {f : Addr} {fd : FuncData} {ps : List Str} {sp : Sp} (F : FnOk P w K mg base CX k f fd ps sp) : FnG P w K mg base CX k f fd ps sp := ⟨F.len, fun A outer s H args us vs Q E hr _ => F.run A outer s H args us vs Q E hr⟩
theorem FnG.mono {j k : Nat} {f : Addr} {fd : FuncData} {ps : List Str} {sp : Sp} (F : FnG P w K mg base CX j f fd ps sp) (h : j ≤ k) : FnG P w K mg base CX k f fd ps sp := ⟨F.len, fun A outer s H args us vs Q E hr => F.run A outer s H args us vs Q E (hr.mono h)⟩
theorem fun_okG {x qual : Str} {st : Stmt} {f : Addr} {fd : FuncData} {N ps : List Str} {k : Nat} {sp : Sp} (F : Fun K x qual st f fd) (S : FnScope N ps (defScope st)) (len : ∀ vs H Q E, sp vs H Q E → vs.length = ps.length)
    (hbody : ∀ (cdv : Value) (A : Around) (outer : List PySem.Env) (s : Shared) (H : Hp) (vs : List V) (Q : VK) (E : XK), Room k (A.deeper (envOfC qual (defScope st) s.heap.objs.size f cdv)) → (A.deeper (envOfC qual (defScope st) s.heap.objs.size f cdv)).guards = some [] → sp vs H Q E →
      ∃ t, PSs (cxOf CX P w K mg base N qual (defScope st) f cdv A outer s H E) (defBody st) t ∧ t { nx := fun _ H' => Q .non H', rt := Q } (L2.start N vs) H) : FnG P w K mg base CX (k + 1) f fd ps sp := by
  obtain ⟨oc, od, kV, doc, pm, an, cdv, ct, osl, rfl, lk, hcd⟩ := F.ex
  exact ⟨len, fun A outer s H args us vs Q E hr hgd e0 hb r hsp => LamX.run_ofS lk hcd S hr e0 hb r (len _ _ _ _ hsp) fun hr' => hbody cdv A outer s H vs Q E hr' (gd_deeper hgd) hsp⟩
end
section
variable {X : Cx} {CX : CXT} {k : Nat} {f : Addr} {fd : FuncData} {ps : List Str} {sp : Sp} {E : L2.St → XK} {x : Str} {p pos : Pos} {e : Expr} {es : List Expr} {t : TA}
theorem run_fnSG {pins : List (Addr × Obj)} {σ : L2.St} {H : Hp} {s : Shared} {Q : VK} {us : List Value} {vs : List V} (F : FnG X.prog X.w X.K X.mg X.base CX k f fd ps sp) (hr : Room k X.A) (hgd : X.A.guards = some []) (hb : Binds X.K fd ps []) (hx : PassesAt CX X σ (E σ))
    (I : Inv X pins σ H s) (r : Vals vs us) (h : sp vs H Q (E σ)) : wpAny (model X.prog X.w) X.A (call (.ref f) us) (EP X pins σ Q) X.xe s := by
  have hl : us.length = ps.length := by rw [← r.length]; exact F.len _ _ _ _ h
  have b := hb s us I.kIn (by rw [List.append_nil]; exact hl)
  rw [List.append_nil] at b
  refine wpAny_call (codeAny_mono (F.run X.A X.stack s H ⟨us, []⟩ us vs Q (E σ) hr hgd I.env0 b r h) fun r s' hq => ?_)
  cases r with
  | error e => exact hx pins H s e s' I hq
  | ok fl =>
    cases fl with
    | ret u => exact I.after hq
    | next => exact False.elim hq
    | brk => exact False.elim hq
    | cont => exact False.elim hq
theorem pe_callSG (F : FnG X.prog X.w X.K X.mg X.base CX k f fd ps sp) (hr : Room k X.A) (hgd : X.A.guards = some []) (hg : Gl X x) (hm : X.mg x = some (.ref f)) (hk : PySem.W.keepIn X.K (.ref f) = true) (hb : Binds X.K fd ps []) (hx : ∀ σ, PassesAt CX X σ (E σ))
    (ha : PA X (e :: es) t) (hdb : (x == ("__debug__" : Str)) = false := by decide) (he : starEach (e :: es) X.env = (false, eval e X.env) :: starEach es X.env := by rfl) (hpl : (backTo pos (starEach es X.env)).any (·.1) = false := by rfl) :
    PE X (.Call (.Name x p) (e :: es) [] pos) (tCallS sp E t) := by
  refine ⟨fun pins s σ H Q I h => ?_⟩
  refine wpAny_Call_Name_kw (ld_glob I hg hm ?_ hdb)
  refine PySem.W.callWith_K (h₀ := X.base) I.ok.mod.kin hk (thn (ha.run pos pins s σ H _ I h) fun us s1 ⟨vs, H1, I1, r, q⟩ => ⟨I1.kIn, ?_⟩) he hpl
  exact run_fnSG F hr hgd hb (hx σ) I1 r q
/-- repr of data -/
def rRepr (K : PySem.W.Frag) : List V → Hp → VK → Prop := fun xs H Q => ∃ x d, xs = [x] ∧ Dp K H x d ∧ d.showable = true ∧ d.hasDict = false ∧ d.depth ≤ 60 ∧ d.shown.length ≤ 16777216 ∧ Q (.str d.shown) H
theorem call_repr (hu : X.A.units + 64 < cLine) (hgd : X.A.guards = some []) : CallR X (.builtin "repr") (rRepr X.K) := by
  intro pins s σ H xs us Q I r h
  obtain ⟨x, d, rfl, dp, h1, h2, h3, h4, q⟩ := h
  cases r with
  | cons rx rr =>
  cases rr
  rename_i u
  obtain ⟨as, rd⟩ := Dp.reads I d x u dp rx
  have hz : d.shown.length ≤ sizeLine := by rw [sizeLine_eq]; exact h4
  cases rd with
  | none => exact P.repr_of_none ⟨.str _, H, I.tok _, ⟨_, rfl⟩, q⟩
  | bool b => exact P.repr_of_bool ⟨.str _, H, I.tok _, ⟨_, rfl⟩, q⟩
  | int i t => exact P.repr_of_int (of_decide_eq_true h1) ⟨.str _, H, I.tok _, ⟨_, rfl⟩, q⟩
  | str y t => exact P.repr_of_str ⟨.str _, H, I.tok _, ⟨_, rfl⟩, q⟩ hz
  | list a b c e =>
    exact repr_of_reads' (Reads.list a b c e) h1 (PyData.noDict_hsm h2) hgd (by omega) (fun _ _ z => z) (fun h' u tk hk => ⟨.str _, H, I.kept (t' := tk) hk, ⟨_, rfl⟩, q⟩) hz
  | tuple a b c e =>
    exact repr_of_reads' (Reads.tuple a b c e) h1 (PyData.noDict_hsm h2) hgd (by omega) (fun _ _ z => z) (fun h' u tk hk => ⟨.str _, H, I.kept (t' := tk) hk, ⟨_, rfl⟩, q⟩) hz
  | dict a b c e f => cases h2
end
end DX
namespace DL
open PySem PySem.Spec PyProof.Rows L2 DX
/-! ### repr -/
def reprD (d : D) : Option D := if dep d ≤ 60 ∧ (toP d).showable = true ∧ (toP d).shown.length ≤ 16777216 then some (.str (toP d).shown) else none
mutual
theorem noDict_toP : ∀ d : D, (toP d).hasDict = false
  | .non => rfl
  | .bl _ => rfl
  | .int _ => rfl
  | .str _ => rfl
  | .tup xs => by simp only [toP, PyData.hasDict]; exact noDictL_toP xs
  | .lst xs => by simp only [toP, PyData.hasDict]; exact noDictL_toP xs
  | .dct _ _ => rfl
  | .fn _ => rfl
  | .cl _ => rfl
  | .ty _ => rfl
  | .th _ _ => rfl
  | .xc _ _ _ => rfl
theorem noDictL_toP : ∀ xs : List D, PyData.hasDictAll (toPL xs) = false
  | [] => rfl
  | x :: xs => by simp only [toPL, PyData.hasDictAll, noDict_toP x, noDictL_toP xs]; rfl
end
section
variable {g : G} {X : Cx}
theorem oc_repr (hK : X.K = g.K) : OpC g (rRepr X.K) (on1 reprD) := oc_on1 fun A H x a d Q tr ra h k => by
  unfold reprD at h
  split at h
  · rename_i q
    cases h
    exact ⟨x, toP a, rfl, dp_of hK a x (by omega) ra, q.2.1, noDict_toP a, by rw [(shape_toP a (by omega)).2]; exact q.1, q.2.2, k _ _ (Same.refl H) rfl⟩
  · cases h
end
/-! ### == of texts, whatever stands in them -/
def eqS : D → D → Option D
  | .str x, .str y => some (.bl (decide (x = y)))
  | a, b => eqD a b
def neS : D → D → Option D
  | .str x, .str y => some (.bl (!decide (x = y)))
  | a, b => neD a b
section
variable {g : G} {X : Cx}
theorem op_eqS (hu : X.A.units + 64 < cLine) : OpR X (compareOp .Eq) (fun x y H Q => rEq x y H Q ∨ rEqD X.K x y H Q) := op_eq.or (op_eqD hu)
theorem op_neS (hu : X.A.units + 64 < cLine) : OpR X (compareOp .NotEq) (fun x y H Q => rNe x y H Q ∨ rNeD X.K x y H Q) := op_ne.or (op_neD hu)
theorem dec_vs {x y : Str} : decide (V.str x = V.str y) = decide (x = y) := by
  rw [Bool.eq_iff_iff]
  simp
theorem o2_eqS (hK : X.K = g.K) : Op2 g (fun x y H Q => rEq x y H Q ∨ rEqD X.K x y H Q) eqS := fun A H x y a b d Q tr ra rb h k => by
  by_cases hs : ∃ u v, a = .str u ∧ b = .str v
  · obtain ⟨u, v, rfl, rfl⟩ := hs
    cases h
    rw [show x = .str u from ra, show y = .str v from rb]
    exact .inl ⟨rfl, by rw [dec_vs]; exact k _ _ (Same.refl H) rfl⟩
  · have h : eqD a b = some d := by
      cases a <;> first | exact h | (cases b <;> first | exact h | exact (hs ⟨_, _, rfl, rfl⟩).elim)
    exact .inr (o2_eq hK A H x y a b d Q tr ra rb h k)
theorem o2_neS (hK : X.K = g.K) : Op2 g (fun x y H Q => rNe x y H Q ∨ rNeD X.K x y H Q) neS := fun A H x y a b d Q tr ra rb h k => by
  by_cases hs : ∃ u v, a = .str u ∧ b = .str v
  · obtain ⟨u, v, rfl, rfl⟩ := hs
    cases h
    rw [show x = .str u from ra, show y = .str v from rb]
    exact .inl ⟨rfl, by rw [dec_vs]; exact k _ _ (Same.refl H) rfl⟩
  · have h : neD a b = some d := by
      cases a <;> first | exact h | (cases b <;> first | exact h | exact (hs ⟨_, _, rfl, rfl⟩).elim)
    exact .inr (o2_ne hK A H x y a b d Q tr ra rb h k)
end
/-! ### defs called where no repr is under way -/
structure DfnG (g : G) (Pr : Program) (w : World) (K : PySem.W.Frag) (mg : Str → Option Value) (base : Heap) (k : Nat) (x : Str) (m : Nat) (mp : List Nat) (F : List Slot → RF) : Prop where
  ex : ∃ f fd pn N, FnG Pr w K mg base (L2.CX Pr w) k f fd pn (spD g N mp m F) ∧ mg x = some (.ref f) ∧ PySem.W.keepIn K (.ref f) = true ∧ Binds K fd pn []
theorem DfnG.mono {g Pr w K mg base k k' x m mp F} (h : DfnG g Pr w K mg base k x m mp F) (hk : k ≤ k') : DfnG g Pr w K mg base k' x m mp F := by
  obtain ⟨f, fd, pn, N, h1, h2⟩ := h.ex
  exact ⟨f, fd, pn, N, h1.mono hk, h2⟩
theorem dfn_mkG {n : Nat} {g : G} {Pr : Program} {w : World} {mg : Str → Option Value} {base : Heap} {x : Str} {st : Stmt} {N pn : List Str} {k : Nat} {mp : List Nat} {fb : Env → RS} (h : DefAt g mg n x st) (S : FnScope N pn (defScope st))
    (hb : ∀ (kV doc pm : Value) (an : Option Addr) (cdv ct : Value) (us : List Value), us.length = pn.length → bindArgs (PySem.W.fnOf x x (defArgs st) (defBody st) (defScope st) .none kV doc pm an cdv ct) ⟨us, []⟩ = pure (pn.zip us))
    (hbody : ∀ (f : Addr) (cdv : Value) (A : Around) (outer : List PySem.Env) (s : Shared) (H : Hp) (E : XK), Room k (A.deeper (envOfC x (defScope st) s.heap.objs.size f cdv)) → (A.deeper (envOfC x (defScope st) s.heap.objs.size f cdv)).guards = some [] →
      DSs g mp (cxOf (L2.CX Pr w) Pr w g.K mg base N x (defScope st) f cdv A outer s H E) (defBody st) fb) :
    DfnG g Pr w g.K mg base (k + 1) x pn.length mp (fun ss => fin mp (fb (startE N.length ss))) := by
  obtain ⟨fd, F, hm⟩ := h.ex
  refine ⟨_, fd, pn, N, fun_okG F S (fun vs H Q E h => h.1) fun cdv A outer s H vs Q E hr hgd hsp => ?_, hm, F.kp, F.binds hb⟩
  obtain ⟨_, P, ps, ss, hm, hl, st, hA, hR⟩ := hsp
  refine ⟨_, (hbody _ cdv A outer s H E hr hgd).run P ps (fun cls d _ H' => E cls d H') hm (takes_of rfl rfl rfl rfl), ?_⟩
  refine tS_eq.mpr ⟨_, st, ?_⟩
  replace hR : ROK g P ps H (fin mp (fb (startE N.length ss))) Q E := hR
  revert hR
  cases fb (startE N.length ss) with
  | nx e' => exact fun hR σ' H' go => hR .non H' (go.after hm hA) rfl
  | rt z e' => cases z with
    | v d => exact fun hR v σ' H' go rv => hR v H' (go.after hm hA) (Rep.mono (fun a z => go.st.ap z) rv)
    | m ds => exact fun hR a σ' H' gm => hR a H' (gm.after hm hA)
  | bk e' => exact fun hR => hR.elim
  | ct e' => exact fun hR => hR.elim
  | exc y e' => exact fun hR cls d σ' H' go rx => hR cls d H' (go.after hm hA) (XRep.kp (fun b o q n => ⟨q, fun z => n.1 (go.st.ap z)⟩) rx)
  | bad => exact fun hR => hR.elim
section
variable {g : G} {mp mc : List Nat} {X : Cx} {fs : Env → R (List D)} {sh : List (Option Nat)} {pos p : Pos} {x : Str} {e : Expr} {es : List Expr}
theorem de_callG {k m : Nat} {F : List Slot → RF} (hF : DfnG g X.prog X.w X.K X.mg X.base k x m mc F) (hr : Room k X.A) (hgd : X.A.guards = some []) (hg : Gl X x) (ha : DAS g mp X (e :: es) sh fs) (hm : (psN 0 sh).map (·.1) = mc := by rfl) (hl : sh.length = m := by rfl) (nd : ((psN 0 sh).map (·.2)).Nodup := by decide)
    (hdb : (x == ("__debug__" : Str)) = false := by decide) (he : starEach (e :: es) X.env = (false, eval e X.env) :: starEach es X.env := by rfl) (hpl : (backTo pos (starEach es X.env)).any (·.1) = false := by rfl) :
    DE g mp X (.Call (.Name x p) (e :: es) [] pos) (dCall F sh fs) := by
  obtain ⟨f, fd, pn, N, h1, h2, h3, h4⟩ := hF.ex
  refine ⟨fun P ps W hp tk => pe_imp (pe_callSG h1 hr hgd hg h2 h3 h4 (E := WE W) (fun σ => passAt tk σ) (ha.run P ps W hp tk) hdb he hpl) fun σ H Q h => ?_⟩
  obtain ⟨e0, s, h⟩ := tD_eq.mp h
  refine ⟨e0, s, h.bnd.mono fun ds e1 H1 go1 z vs av => ?_⟩
  cases hs : mkS sh ds e1 with
  | none => rw [hs] at z; exact z.elim
  | some ss =>
    rw [hs] at z
    refine call_go go1.st hs av nd hm hl ?_
    revert z
    dsimp only
    cases F ss with
    | bad => exact fun z => z
    | exc x outs => exact fun z cls d H' go rx => z cls d H' go rx
    | ok s' outs => cases s' with
      | v d => exact fun z v H' go rv => z H' go v rv
      | m l => exact fun z a H' gm => z H' gm.go _ gm.rep
end
end DL
end

section
set_option Elab.async false
set_option linter.all false
set_option maxRecDepth 100000
set_option maxHeartbeats 4000000
namespace DX
open PySem PySem.Spec PyProof.Rows L2 LamX
section
variable {X : Cx} {pins : List (Addr × Obj)} {σ : L2.St} {H HZ : Hp} {s s1 : Shared}
/-- a(), in the def that got the lambda; what it raises is wished for at that def's slots -/
theorem pe_actS {Eg : XK} {Ng : List Str} {qg : Str} {sg : Scope} {gA f c' : Addr} {cdg pm ctv : Value} {params : Arguments} {body : Expr} {scope : Scope} {k i : Nat} {a : Str} {pn : List (Addr × Obj)} {xe : Value → Shared → Prop} {W : WX} {tb : XK → TE} {p1 p2 : Pos}
    (I : Inv X pins σ H s) (L : LamS X.env.scope scope) (hf : s.heap.get? f = some (PySem.W.kla_obj "<lambda>" (X.env.qual ++ "<lambda>") params body scope (cloFrom X.env.cells scope.names []) pm c' ctv)) (hfn : H f = none) (hfr : f ∉ frs X.stack)
    (hbind : bindArgs (PySem.W.kla_fn "<lambda>" (X.env.qual ++ "<lambda>") params body scope (cloFrom X.env.cells scope.names []) pm (.ref c') ctv) ⟨[], []⟩ = pure [])
    (tk : Takes ((cxOf (L2.CX X.prog X.w) X.prog X.w X.K X.mg X.base Ng qg sg gA cdg X.A X.stack s H Eg).tr pn xe) W) (hr : Room (k + 1) (X.A.deeper (envOfC qg sg s.heap.objs.size gA cdg)))
    (hbody : ∀ (A : Around) (outer : List PySem.Env) (s : Shared) (H : Hp) (E : XK), Room k (A.deeper (lamEnv X scope s.heap.objs.size f c')) → PE (lamCx X A outer s H E scope f c') body (tb E))
    (hN : Ng[i]? = some a) (hv : Vis sg a) (hd : (a == ("__debug__" : Str)) = false := by decide) (hcd : (a == ("__classdict__" : Str)) = false := by decide) :
    PE ((cxOf (L2.CX X.prog X.w) X.prog X.w X.K X.mg X.base Ng qg sg gA cdg X.A X.stack s H Eg).tr pn xe) (.Call (.Name a p1) [] [] p2)
      (fun σZ HZ Q => σZ[i]? = some (some (.ref f)) ∧ HZ c' = some (CodeO c' (X.env.qual ++ "<lambda>")) ∧ tb (WE W σZ) σ HZ Q) := by
  refine ⟨fun pinsZ sZ σZ HZ Q IZ h => ?_⟩
  obtain ⟨hs, hc, ht⟩ := h
  refine wpAny_Call_Name_kw (thn ((pe_var (pos := p1) (i := i) hN hv hd hcd).run pinsZ sZ σZ HZ (fun v H1 => v = .ref f ∧ H1 = HZ) IZ ⟨.ref f, hs, rfl, rfl⟩) fun u s1 ⟨v, H1, I1, r1, q1⟩ => ?_)
  obtain ⟨ev, eH⟩ := q1
  subst ev
  rw [eH] at I1
  obtain rfl : u = Value.ref f := r1
  have of1 : s1.heap.get? f = some (PySem.W.kla_obj "<lambda>" (X.env.qual ++ "<lambda>") params body scope (cloFrom X.env.cells scope.names []) pm c' ctv) := I1.base.keep f _ hf hfn hfr (fun z => nomatch (show f ∈ ([] : List Addr) from z))
  refine PySem.W.callWith_F0 ⟨_, _, _, _, of1⟩ ?_
  have un : Un (frs X.stack) [] H HZ s.heap s1.heap := I1.base
  obtain ⟨⟨oc, vs, t, hoc, hdc, hvc⟩, _, _⟩ := I1.hok c' _ hc
  have rc : codeAny (model X.prog X.w) (X.A.deeper (envOfC qg sg s.heap.objs.size gA cdg)) (.call (.ref f) ⟨[], []⟩) (CR (L2.CX X.prog X.w) (envOfC qg sg s.heap.objs.size gA cdg :: X.stack) X.prog X.w HZ s1 Q (WE W σZ)) s1 := by
    refine PySem.W.kla_callFunE hr.depth of1 rfl L.co L.gen rfl ⟨c', oc, vs, t, rfl, hoc, hdc, hvc⟩ ?_
    rw [hbind]
    refine wpAny_pure (wpAny_newFunctionEnv (fun y hy => (L.own y hy).2) (fun y hy => absurd hy (by simp)) (fun h₁ hns hsb => ⟨I1.nolimit.fresh _ hsb, ?_⟩) L.kind)
    show codeAny _ _ (.expr body (lamEnv X scope s1.heap.objs.size f c')) _ _
    have kp : ∀ b o, s1.heap.get? b = some o → h₁.get? b = some o := fun b o e => hsb.extBut b o (Nat.ne_of_lt (Heap.lt_size e)) (Heap.get?_push_of_some _ e)
    have J : Inv (lamCx X (X.A.deeper (envOfC qg sg s.heap.objs.size gA cdg)) (envOfC qg sg s.heap.objs.size gA cdg :: X.stack) s1 HZ (WE W σZ) scope f c') [] σ HZ { s1 with heap := h₁, toks := s1.toks + ([] : List (Str × Value)).length } :=
      lam_start2 I L I1.env0 hr.hd un hns kp
    refine PySem.W.kla_codeExpr (wpAny_mono ((hbody _ _ s1 HZ (WE W σZ) (hr.deeper _)).run [] _ _ HZ Q J ht) (fun v s' hq => ?_) fun e s' hq => hq)
    obtain ⟨w', H', J', rv, q⟩ := hq
    exact ⟨w', H', J'.os, J'.bare, J'.base, J'.hok, rv, q⟩
  refine wpAny_call (codeAny_mono rc fun r s' hq => ?_)
  cases r with
  | error e => exact passAt tk σZ pinsZ HZ s1 e s' I1 hq
  | ok fl =>
    cases fl with
    | ret u => exact I1.after hq
    | next => exact False.elim hq
    | brk => exact False.elim hq
    | cont => exact False.elim hq
end
/-- the def that calls what it got: a calls it -/
def GivesT (X : Cx) (Ng : List Str) (x : Str) (sg : Scope) (gA : Addr) (cdg : Value) (bg : List Stmt) (a : Str) (q : Str) (TT : (XK → Hp → VK → Prop) → Hp → VK → XK → Prop) : Prop :=
  ∀ (f c' : Addr) (s : Shared) (H : Hp) (Q : VK) (E : XK) (tl : XK → Hp → VK → Prop),
    (∀ (W : WX) (pn : List (Addr × Obj)) (xe : Value → Shared → Prop) (p1 p2 : Pos), Takes ((cxOf (L2.CX X.prog X.w) X.prog X.w X.K X.mg X.base Ng x sg gA cdg X.A X.stack s H E).tr pn xe) W →
      PE ((cxOf (L2.CX X.prog X.w) X.prog X.w X.K X.mg X.base Ng x sg gA cdg X.A X.stack s H E).tr pn xe) (.Call (.Name a p1) [] [] p2) (fun σZ HZ Q => σZ[0]? = some (some (.ref f)) ∧ HZ c' = some (CodeO c' q) ∧ tl (WE W σZ) HZ Q)) →
    H c' = some (CodeO c' q) → TT tl H Q E →
    ∃ t, PSs (cxOf (L2.CX X.prog X.w) X.prog X.w X.K X.mg X.base Ng x sg gA cdg X.A X.stack s H E) bg t ∧ t { nx := fun _ H' => Q .non H', rt := Q } (L2.start Ng [.ref f]) H
def tLamS (T : List (Addr × Str)) (TT : (XK → Hp → VK → Prop) → Hp → VK → XK → Prop) (W : WX) (t : XK → TE) : TE := fun σ H Q => Tabs T H ∧ ∀ H1, ExtN H H1 → Tabs T H1 → TT (fun E H' Q' => t E σ H' Q') H1 Q (WE W σ)
section
variable {X : Cx}
/-- x(lambda: body) -/
theorem pe_lamS {W : WX} {T : List (Addr × Str)} {TT : (XK → Hp → VK → Prop) → Hp → VK → XK → Prop} {x a : Str} {gA c P : Addr} {k : Nat} {pg : Arguments} {bg : List Stmt} {sg : Scope} {dV kV doc pm cdv ct oc : Value} {an od : Option Addr} {osl : Array (Option Value)} {Ng : List Str}
    {params : Arguments} {body : Expr} {scope : Scope} {t : XK → TE} {p lpos pos : Pos} (tk : Takes X W) (hg : Gl X x) (hm : X.mg x = some (.ref gA)) (hk : PySem.W.keepIn X.K (.ref gA) = true)
    (lk : X.K.lookup gA = some ⟨oc, od, .func (PySem.W.fnOf x x pg bg sg dV kV doc pm an cdv ct), osl⟩) (hcg : PySem.W.codeIn X.K cdv x = true) (hb : L2.Binds X.K (PySem.W.fnOf x x pg bg sg dV kV doc pm an cdv ct) [a] []) (Sg : FnScope Ng [a] sg) (hNg : Ng[0]? = some a) (hva : Vis sg a)
    (hG : GivesT X Ng x sg gA cdv bg a (X.env.qual ++ "<lambda>") TT)
    (TB : TabB X.base X.mg c P) (hcode : X.env.code = .ref c) (hmT : (P, X.env.qual ++ "<lambda>") ∈ T) (hu : ∀ p ∈ T, p.1 = P → p.2 = X.env.qual ++ "<lambda>") (hr : Room (k + 2) X.A) (L : LamS X.env.scope scope) (hdef : defaultsOf params X.env = ([], []))
    (hbind : ∀ (q : Str) (cl : List (Str × Addr)) (pm cv ctv : Value), bindArgs (PySem.W.kla_fn "<lambda>" q params body scope cl pm cv ctv) ⟨[], []⟩ = pure [])
    (hbody : ∀ (A : Around) (outer : List PySem.Env) (s : Shared) (H : Hp) (E : XK) (f c' : Addr), Room k (A.deeper (lamEnv X scope s.heap.objs.size f c')) → PE (lamCx X A outer s H E scope f c') body (t E))
    (hdb : (x == ("__debug__" : Str)) = false := by decide) (hd : (a == ("__debug__" : Str)) = false := by decide) (hcd : (a == ("__classdict__" : Str)) = false := by decide) :
    PE X (.Call (.Name x p) [.Lambda params body scope lpos] [] pos) (tLamS T TT W t) := by
  refine ⟨fun pins s σ H Q I h => ?_⟩
  obtain ⟨hT, h⟩ := h
  refine wpAny_Call_Name_kw (ld_glob I hg hm ?_ hdb)
  refine PySem.W.callWith_K (h₀ := X.base) I.ok.mod.kin hk ?_ (by rfl) (by rfl)
  show wpAny _ _ (spliced ((false, eval (.Lambda params body scope lpos) X.env) :: backTo pos (starEach [] X.env))) _ _ s
  refine Calls.spliced_cons (lam_make2 I TB hcode hmT hu hT hdef (L.has I.ok) fun f c' pm' ctv H1 s' I1 eN T1 hf hfn hfr hco => ?_)
  refine Calls.spliced_nil ⟨I1.kIn, ?_⟩
  have rc : codeAny (model X.prog X.w) X.A (.call (.ref gA) ⟨[.ref f], []⟩) (CR (L2.CX X.prog X.w) X.stack X.prog X.w H1 s' Q (WE W σ)) s' := by
    refine run_ofS (N := Ng) (ps := [a]) (us := [.ref f]) (vs := [.ref f]) lk hcg Sg hr I1.env0 (hb s' [.ref f] I1.kIn rfl) (.cons rfl .nil) rfl fun hr' => ?_
    exact hG f c' s' H1 Q (WE W σ) (fun E H' Q' => t E σ H' Q') (fun W' pn xe p1 p2 tk' => pe_actS (i := 0) I1 L hf hfn hfr (hbind _ _ _ _ _) tk' hr' (fun A outer s H E hr2 => hbody A outer s H E f c' hr2) hNg hva hd hcd) hco (h H1 eN T1)
  refine wpAny_call (codeAny_mono rc fun r s2 hq => ?_)
  cases r with
  | error e => exact passAt tk σ pins H1 s' e s2 I1 hq
  | ok fl =>
    cases fl with
    | ret u => exact I1.after hq
    | next => exact False.elim hq
    | brk => exact False.elim hq
    | cont => exact False.elim hq
end
end DX
end

section
set_option Elab.async false
set_option linter.all false
set_option maxRecDepth 100000
set_option maxHeartbeats 4000000
namespace DL
open PySem PySem.Spec PyProof.Rows L2 DX LamX
/-! ### a lambda handed to a def -/
/-- what a call of the lambda does, wherever -/
def contract (g : G) (tl : XK → Hp → VK → Prop) (A : Addr → Prop) (H : Hp) (r : List D) (x : Option (Nat × List Str)) : Prop :=
  ∀ (A1 : Addr → Prop) (H1 : Hp), Kp A H A1 H1 → (∀ b, A1 b → ∃ o, H1 b = some o ∧ NC o) → Tabs g.T H1 → ∀ (Q : VK) (E : XK),
    (∀ d, x = none → r = [d] → ∀ v H2, Kp A1 H1 A1 H2 → (∀ b, A1 b → H2 b = H1 b) → Tabs g.T H2 → Rep g H2 A1 d v → Q v H2) →
    (∀ c ns, x = some (c, ns) → ∀ cls dd H2, Kp A1 H1 A1 H2 → (∀ b, A1 b → H2 b = H1 b) → Tabs g.T H2 → XRep g H2 A1 ⟨c, ns.zip r⟩ cls dd → E cls dd H2) → tl E H1 Q
def thk (g : G) (f c : Addr) (q : Str) (tl : XK → Hp → VK → Prop) : Thk := ⟨f, c, q, contract g tl, fun _ _ _ _ _ _ k h A1 H1 k1 => h A1 H1 (k.trans k1)⟩
abbrev G.thn (g : G) (t : Thk) : G := { g with th := some t }
theorem GE.thn {g : G} {t : Thk} : GE g (g.thn t) := ⟨rfl, rfl, rfl, rfl⟩
theorem RepF.swap {g g' : G} {H : Hp} {A : Addr → Prop} (h : GE g g') : ∀ {l : List (Str × D)} {r : List (Str × V)}, plainL (l.map (·.2)) = true → RepF g H A l r → RepF g' H A l r
  | [], _, _, q => q
  | (n, d) :: l, _, p, ⟨v, r, e, h1, h2⟩ => by
    simp only [List.map_cons, plainL, Bool.and_eq_true] at p
    exact ⟨v, r, e, Rep.swap h _ _ p.1 h1, RepF.swap h p.2 h2⟩
theorem XRep.swap {g g' : G} {H : Hp} {A : Addr → Prop} (h : GE g g') {x : Xc} {cls : Value} {d : Option Addr} (p : plainL (x.fs.map (·.2)) = true) (r : XRep g H A x cls d) : XRep g' H A x cls d :=
  ⟨by rw [← h.clA]; exact r.1, r.2.1, fun z => by
    obtain ⟨dd, fs, q1, q2, q3, q4⟩ := r.2.2 z
    exact ⟨dd, fs, q1, q2, q3, q4.swap h p⟩⟩
def thAt (e : Env) (i : Nat) : Option (List D × Option (Nat × List Str)) := match e[i]? with
  | some (some (.v (.th r x))) => some (r, x)
  | _ => none
theorem thAt_some {e : Env} {i r x} (h : thAt e i = some (r, x)) : e[i]? = some (some (.v (.th r x))) := by
  unfold thAt at h
  split at h
  · rename_i q; cases h; exact q
  · cases h
def actR (e : Env) : List D × Option (Nat × List Str) → R D
  | ([d], none) => if plainD d = true then .ok d e else .bad
  | (r, some (c, ns)) => if plainL ((ns.zip r).map (·.2)) = true then .exc ⟨c, ns.zip r⟩ e else .bad
  | _ => .bad
theorem actR_exc {e : Env} {r : List D} {c : Nat} {ns : List Str} : actR e (r, some (c, ns)) = if plainL ((ns.zip r).map (·.2)) = true then .exc ⟨c, ns.zip r⟩ e else .bad := by
  cases r with
  | nil => rfl
  | cons d r => cases r <;> rfl
def dAct (i : Nat) : Env → R D := fun e => bnd (opt (thAt e i) e) fun t e => actR e t
theorem Go.stay {g : G} {P ps e σ H H'} (s : StRel g P ps e σ H) (k : Kp (Av P e σ) H (Av P e σ) H') (pr : ∀ b, Av P e σ b → H' b = H b) (t : Tabs g.T H') : Go g P ps e σ H e σ H' :=
  ⟨s.kp k (fun a h => pr a (.inr h)) (fun a h => pr a (.inl h)) t, k, fun a h => pr a (.inl h)⟩
section
variable {g : G} {mp : List Nat} {X : Cx}
theorem de_act {f c' : Addr} {q a : Str} {tl : XK → Hp → VK → Prop} {p1 p2 : Pos} (act : ∀ W, Takes X W → PE X (.Call (.Name a p1) [] [] p2) (fun σZ HZ Q => σZ[0]? = some (some (.ref f)) ∧ HZ c' = some (CodeO c' q) ∧ tl (WE W σZ) HZ Q)) :
    DE (g.thn (thk g f c' q tl)) mp X (.Call (.Name a p1) [] [] p2) (dAct 0) := ⟨fun P ps W hp tk => pe_imp (act W tk) fun σ H Q h => by
  obtain ⟨e, s, h⟩ := tD_eq.mp h
  obtain ⟨⟨r, x⟩, q0, h⟩ := PR.optM s h
  obtain ⟨v, h1, t, h2, h3, ⟨nA, h4⟩, h5⟩ := s.vv 0 _ (thAt_some q0)
  cases h2
  rw [h3] at h1
  refine ⟨h1, h4, h5 (Av P e σ) H Kp.refl (fun b hb => Av.nc s hb) s.tb Q (WE W σ) (fun d ex er v' H2 k pr tb rv => ?_) fun c ns ex cls dd H2 k pr tb rx => ?_⟩
  · subst ex er
    have h : PR _ P ps W e σ H (if plainD d = true then R.ok d e else .bad) _ := h
    by_cases hp : plainD d = true
    · rw [if_pos hp] at h
      exact h H2 (Go.stay s k pr tb) v' (Rep.swap GE.thn _ _ hp rv)
    · rw [if_neg hp] at h
      exact h.elim
  · subst ex
    rw [actR_exc] at h
    by_cases hp : plainL ((ns.zip r).map (·.2)) = true
    · rw [if_pos hp] at h
      exact h cls dd H2 (Go.stay s k pr tb) (XRep.swap GE.thn hp rx)
    · rw [if_neg hp] at h
      exact h.elim⟩
end
/-- the result of the def that got the lambda -/
def ROKm (g : G) (A : Addr → Prop) (H : Hp) (r : RF) (Q : VK) (E : XK) : Prop := match r with
  | .ok (.v d) _ => plainD d = true ∧ ∀ v H', Kp A H A H' → (∀ b, A b → H' b = H b) → Tabs g.T H' → Rep g H' A d v → Q v H'
  | .ok (.m ds) _ => plainL ds = true ∧ ∀ v H', Kp A H A H' → (∀ b, A b → H' b = H b) → Tabs g.T H' → Rep g H' A (.lst ds) v → Q v H'
  | .exc x _ => plainL (x.fs.map (·.2)) = true ∧ ∀ cls d H', Kp A H A H' → (∀ b, A b → H' b = H b) → Tabs g.T H' → XRep g H' A x cls d → E cls d H'
  | .bad => False
def TTm (g : G) (n : Nat) (fm : Env → RS) : (XK → Hp → VK → Prop) → Hp → VK → XK → Prop := fun tl H Q E => ∃ A r x, contract g tl A H r x ∧ (∀ b, A b → ∃ o, H b = some o ∧ NC o) ∧ Tabs g.T H ∧ ROKm g A H (fin [] (fm (startE n [.v (.th r x)]))) Q E
section
variable {g : G} {X : Cx}
theorem gives_of {Ng : List Str} {x a q : Str} {sg : Scope} {gA : Addr} {cdg : Value} {bg : List Stmt} {fm : Env → RS}
    (body : ∀ (f c' : Addr) (s : Shared) (H : Hp) (E : XK) (tl : XK → Hp → VK → Prop),
      (∀ (W : WX) (pn : List (Addr × Obj)) (xe : Value → Shared → Prop) (p1 p2 : Pos), Takes ((cxOf (L2.CX X.prog X.w) X.prog X.w X.K X.mg X.base Ng x sg gA cdg X.A X.stack s H E).tr pn xe) W →
        PE ((cxOf (L2.CX X.prog X.w) X.prog X.w X.K X.mg X.base Ng x sg gA cdg X.A X.stack s H E).tr pn xe) (.Call (.Name a p1) [] [] p2) (fun σZ HZ Q => σZ[0]? = some (some (.ref f)) ∧ HZ c' = some (CodeO c' q) ∧ tl (WE W σZ) HZ Q)) →
      DSs (g.thn (thk g f c' q tl)) [] (cxOf (L2.CX X.prog X.w) X.prog X.w X.K X.mg X.base Ng x sg gA cdg X.A X.stack s H E) bg fm) :
    GivesT X Ng x sg gA cdg bg a q (TTm g Ng.length fm) := by
  intro f c' s H Q E tl act hco hTT
  obtain ⟨A, r, xx, hc, hA, hT, hR⟩ := hTT
  refine ⟨_, (body f c' s H E tl act).run A [] (fun cls d _ H' => E cls d H') rfl (takes_of rfl rfl rfl rfl), ?_⟩
  have noM : ∀ b, ¬ isM (startE Ng.length [.v (.th r xx)]) (L2.start Ng [.ref f]) b := fun b ⟨i, ds, h1, _⟩ => by
    have z := startE_get h1
    cases i with
    | zero => cases z
    | succ i => simp at z
  have sub : ∀ b, Av A (startE Ng.length [.v (.th r xx)]) (L2.start Ng [.ref f]) b → A b := fun b z => z.elim id fun z => (noM b z).elim
  have nA : ¬ A c' := fun z => by
    obtain ⟨o, q1, q2⟩ := hA c' z
    rw [hco] at q1
    exact q2.1 _ _ (Option.some.inj q1)
  have s0 : StRel (g.thn (thk g f c' q tl)) A [] (startE Ng.length [.v (.th r xx)]) (L2.start Ng [.ref f]) H := by
    refine ⟨by unfold startE L2.start; simp, fun i d h => ?_, fun i ds h => ?_, fun i j b ds es h1 => ?_, hA, (fun p hp => by cases hp), hT⟩
    · have z := startE_get h
      cases i with
      | zero =>
        cases z
        refine ⟨.ref f, start_of rfl, _, rfl, rfl, ⟨fun z => nA (sub _ z), hco⟩, ?_⟩
        exact (thk g f c' q tl).stable A H _ H r xx (fun b o q n => ⟨q, fun z => n.1 (sub b z)⟩) hc
      | succ i => simp at z
    · exact (by
        have z := startE_get h
        cases i with
        | zero => cases z
        | succ i => simp at z)
    · exact (by
        have z := startE_get h1
        cases i with
        | zero => cases z
        | succ i => simp at z)
  refine tS_eq.mpr ⟨_, s0, ?_⟩
  have toK : ∀ {e' : Env} {σ' : L2.St} {H' : Hp}, Go (g.thn (thk g f c' q tl)) A [] (startE Ng.length [.v (.th r xx)]) (L2.start Ng [.ref f]) H e' σ' H' → Kp A H A H' := fun go b o q n => ⟨(go.kp b o q ⟨fun z => n.1 (sub b z), n.2⟩).1, fun z => (go.kp b o q ⟨fun z => n.1 (sub b z), n.2⟩).2 (.inl z)⟩
  revert hR
  cases fm (startE Ng.length [.v (.th r xx)]) with
  | nx e' => exact fun hR σ' H' go => hR.2 .non H' (toK go) go.pr go.st.tb rfl
  | bk e' => exact fun hR => hR.elim
  | ct e' => exact fun hR => hR.elim
  | bad => exact fun hR => hR.elim
  | exc y e' => exact fun hR cls d σ' H' go rx => hR.2 cls d H' (toK go) go.pr go.st.tb (XRep.swap GE.thn.symm hR.1 (XRep.kp (fun b o q n => ⟨q, fun z => n.1 (.inl z)⟩) rx))
  | rt z e' => cases z with
    | v d => exact fun hR v σ' H' go rv => hR.2 v H' (toK go) go.pr go.st.tb (Rep.swap GE.thn.symm _ _ hR.1 (Rep.mono (fun b z => .inl z) rv))
    | m ds => exact fun hR b σ' H' gm => hR.2 (.ref b) H' (toK gm.go) gm.go.pr gm.go.st.tb (Rep.swap GE.thn.symm _ _ (by simpa [plainD] using hR.1) (Rep.mono (fun b z => .inl z) gm.rep))
end
/-! ### where the lambda is made -/
def hideE (e : Env) : Env := e.map fun s => match s with
  | some (.v d) => some (.v d)
  | _ => none
theorem hideE_get {e : Env} {i : Nat} {s : Slot} (h : (hideE e)[i]? = some (some s)) : e[i]? = some (some s) ∧ ∃ d, s = .v d := by
  unfold hideE at h
  rw [List.getElem?_map] at h
  cases q : e[i]? with
  | none => rw [q] at h; cases h
  | some o =>
    rw [q] at h
    cases o with
    | none => cases h
    | some sl => cases sl with
      | v d => cases h; exact ⟨rfl, d, rfl⟩
      | m ds => cases h
def dLam (fm : Env → RS) (n : Nat) (fl : Env → R D) : Env → R D := fun e => match tellsO (fl (hideE e)) with
  | none => .bad
  | some (r, x) => match fin [] (fm (startE n [.v (.th r x)])) with
    | .ok (.v d) _ => if plainD d = true then .ok d e else .bad
    | .ok (.m ds) _ => if plainL ds = true then .ok (.lst ds) e else .bad
    | .exc x _ => if plainL (x.fs.map (·.2)) = true then .exc x e else .bad
    | .bad => .bad
theorem zip_parts : ∀ l : List (Str × D), (l.map (·.1)).zip (l.map (·.2)) = l
  | [] => rfl
  | (a, b) :: l => by
    show (a, b) :: (l.map (·.1)).zip (l.map (·.2)) = _
    rw [zip_parts l]
section
variable {g : G} {mp : List Nat} {X : Cx} {P : Addr → Prop} {ps : List (Nat × Addr)} {e : Env} {σ : L2.St} {H : Hp}
theorem contract_of {fl : Env → R D} {r : List D} {x : Option (Nat × List Str)} (s : StRel g P ps e σ H) (h : tellsO (fl (hideE e)) = some (r, x)) :
    contract g (fun E H' Q' => ∃ P', tD g P' [] (fun cls d _ H' => E cls d H') fl σ H' Q') (Av P e σ) H r x := by
  intro A1 H1 k hA hT Q E hQ hE
  have noM : ∀ b, ¬ isM (hideE e) σ b := fun b ⟨i, ds, h1, _⟩ => by
    obtain ⟨_, d, z⟩ := hideE_get h1
    cases z
  have sub : ∀ b, Av A1 (hideE e) σ b → A1 b := fun b z => z.elim id fun z => (noM b z).elim
  have s1 : StRel g A1 [] (hideE e) σ H1 := by
    refine ⟨by unfold hideE; rw [List.length_map]; exact s.len, fun i d q => ?_, fun i ds q => ?_, fun i j b ds es h1 => ?_, hA, (fun p hp => by cases hp), hT⟩
    · obtain ⟨v, h1, h2⟩ := s.vv i d (hideE_get q).1
      exact ⟨v, h1, Rep.mono sub (Rep.kp k _ _ h2)⟩
    · obtain ⟨_, d, z⟩ := hideE_get q
      cases z
    · obtain ⟨_, d, z⟩ := hideE_get h1
      cases z
  refine ⟨A1, tD_of s1 ?_⟩
  have toK : ∀ {e' : Env} {H' : Hp}, Go g A1 [] (hideE e) σ H1 e' σ H' → Kp A1 H1 A1 H' := fun go b o q n => ⟨(go.kp b o q ⟨fun z => n.1 (sub b z), n.2⟩).1, fun z => (go.kp b o q ⟨fun z => n.1 (sub b z), n.2⟩).2 (.inl z)⟩
  revert h
  cases fl (hideE e) with
  | bad => exact fun h => by cases h
  | ok d e' =>
    intro h H2 go v rv
    cases h
    exact hQ d rfl rfl v H2 (toK go) go.pr go.st.tb (Rep.mono (fun b z => .inl z) rv)
  | exc y e' =>
    intro h cls dd H2 go rx
    cases h
    refine hE _ _ rfl cls dd H2 (toK go) go.pr go.st.tb ?_
    rw [zip_parts]
    exact XRep.kp (fun b o q n => ⟨q, fun z => n.1 (.inl z)⟩) rx
theorem de_lam {x a : Str} {st : Stmt} {gA c Pt : Addr} {k : Nat} {Ng : List Str} {fm : Env → RS} {fl : Env → R D} {params : Arguments} {body : Expr} {scope : Scope} {p lpos pos : Pos} {fd : FuncData}
    (hg : Gl X x) (hm : X.mg x = some (.ref gA)) (F : Fun X.K x x st gA fd) (hbA : ∀ (kV doc pm : Value) (an : Option Addr) (cdv ct : Value) (us : List Value), us.length = [a].length → bindArgs (PySem.W.fnOf x x (defArgs st) (defBody st) (defScope st) .none kV doc pm an cdv ct) ⟨us, []⟩ = pure ([a].zip us))
    (Sg : FnScope Ng [a] (defScope st)) (hNg : Ng[0]? = some a) (hva : Vis (defScope st) a)
    (hG : ∀ cdg, GivesT X Ng x (defScope st) gA cdg (defBody st) a (X.env.qual ++ "<lambda>") (TTm g Ng.length fm))
    (TB : TabB X.base X.mg c Pt) (hcode : X.env.code = .ref c) (hmT : (Pt, X.env.qual ++ "<lambda>") ∈ g.T) (hu : ∀ p ∈ g.T, p.1 = Pt → p.2 = X.env.qual ++ "<lambda>") (hr : Room (k + 2) X.A) (L : LamS X.env.scope scope)
    (hbody : ∀ (A : Around) (outer : List PySem.Env) (s : Shared) (H : Hp) (E : XK) (f c' : Addr), Room k (A.deeper (lamEnv X scope s.heap.objs.size f c')) → DE g [] (lamCx X A outer s H E scope f c') body fl)
    (hbind : ∀ (q : Str) (cl : List (Str × Addr)) (pm cv ctv : Value), bindArgs (PySem.W.kla_fn "<lambda>" q params body scope cl pm cv ctv) ⟨[], []⟩ = pure [] := by intros; rfl) (hdef : defaultsOf params X.env = ([], []) := by rfl)
    (hdb : (x == ("__debug__" : Str)) = false := by decide) (hd : (a == ("__debug__" : Str)) = false := by decide) (hcd : (a == ("__classdict__" : Str)) = false := by decide) :
    DE g mp X (.Call (.Name x p) [.Lambda params body scope lpos] [] pos) (dLam fm Ng.length fl) := by
  have hkp := F.kp
  obtain ⟨oc, od, kV, doc, pm, an, cdv, ct, osl, rfl, lk, hcd'⟩ := F.ex
  refine ⟨fun P ps W hp tk => ?_⟩
  refine pe_imp (pe_lamS (W := W) (T := g.T) (TT := TTm g Ng.length fm) (t := fun E σ H Q => ∃ P', tD g P' [] (fun cls d _ H' => E cls d H') fl σ H Q) tk hg hm hkp lk hcd' (F.binds hbA) Sg hNg hva (hG cdv) TB hcode hmT hu hr L hdef hbind
    (fun A outer s H E f c' hr2 => ⟨fun pins s' σ' H' Q' I ⟨P', z⟩ => ((hbody A outer s H E f c' hr2).run P' [] _ rfl (takes_of rfl rfl rfl rfl)).run pins s' σ' H' Q' I z⟩) hdb hd hcd) fun σ H Q h => ?_
  obtain ⟨e, s, h⟩ := tD_eq.mp h
  refine ⟨s.tb, fun H1 eN T1 => ?_⟩
  unfold dLam at h
  cases ht : tellsO (fl (hideE e)) with
  | none => rw [ht] at h; exact h.elim
  | some rx =>
  obtain ⟨r, xx⟩ := rx
  rw [ht] at h
  have kN : Kp (Av P e σ) H (Av P e σ) H1 := fun b o q n => ⟨eN b o q n.2, n.1⟩
  have same : ∀ b, Av P e σ b → H1 b = H b := fun b hb => by
    obtain ⟨o, q1, q2⟩ := Av.nc s hb
    rw [q1, eN b o q1 q2.2]
  refine ⟨Av P e σ, r, xx, (thk g 0 0 "" _).stable _ _ _ _ _ _ kN (contract_of s ht), fun b hb => ?_, T1, ?_⟩
  · obtain ⟨o, q1, q2⟩ := Av.nc s hb
    exact ⟨o, by rw [same b hb]; exact q1, q2⟩
  have go : ∀ {H' : Hp}, Kp (Av P e σ) H1 (Av P e σ) H' → (∀ b, Av P e σ b → H' b = H1 b) → Tabs g.T H' → Go g P ps e σ H e σ H' := fun k pr t => Go.stay s (kN.trans k) (fun b hb => (pr b hb).trans (same b hb)) t
  dsimp only at h
  revert h
  cases fin [] (fm (startE Ng.length [.v (.th r xx)])) with
  | bad => exact fun h => h
  | exc y outs =>
    intro h
    by_cases hp : plainL (y.fs.map (·.2)) = true
    · simp only [hp, if_true] at h
      exact ⟨hp, fun cls d H' k pr t rx => h cls d H' (go k pr t) rx⟩
    · simp only [hp, if_false] at h
      exact h.elim
  | ok sl outs => cases sl with
    | v d =>
      intro h
      by_cases hp : plainD d = true
      · simp only [hp, if_true] at h
        exact ⟨hp, fun v H' k pr t rv => h H' (go k pr t) v rv⟩
      · simp only [hp, if_false] at h
        exact h.elim
    | m ds =>
      intro h
      by_cases hp : plainL ds = true
      · simp only [hp, if_true] at h
        exact ⟨hp, fun v H' k pr t rv => h H' (go k pr t) v rv⟩
      · simp only [hp, if_false] at h
        exact h.elim
end
end DL
end

section
set_option Elab.async false
set_option linter.all false
set_option maxRecDepth 100000
set_option maxHeartbeats 4000000
namespace DL
open PySem PySem.Spec PyProof.Rows L2 DX LamX
theorem hfn_of {g : G} {Pr : Program} {w : World} {mg : Str → Option Value} {base : Heap} {k n m : Nat} {x : Str} {st : Stmt} {mp : List Nat} {F : List Slot → RF} (h : DefAt g mg n x st) (hd : Dfn g Pr w g.K mg base k x m mp F) : Hfn g Pr w g.K mg base k n m mp F := by
  obtain ⟨fd, F1, hm⟩ := h.ex
  obtain ⟨f, fd', pn, N, h1, h2, h3, h4⟩ := hd.ex
  rw [hm] at h2
  cases h2
  exact ⟨fd', pn, N, h1, h3, h4⟩
theorem Hfn.mono {g : G} {Pr : Program} {w : World} {K : PySem.W.Frag} {mg : Str → Option Value} {base : Heap} {k k' n m : Nat} {mp : List Nat} {F : List Slot → RF} (h : Hfn g Pr w K mg base k n m mp F) (hk : k ≤ k') : Hfn g Pr w K mg base k' n m mp F := by
  obtain ⟨fd, pn, N, h1, h2⟩ := h.ex
  exact ⟨fd, pn, N, h1.mono hk, h2⟩
theorem Dfn.g {g : G} {Pr : Program} {w : World} {K : PySem.W.Frag} {mg : Str → Option Value} {base : Heap} {k m : Nat} {x : Str} {mp : List Nat} {F : List Slot → RF} (h : Dfn g Pr w K mg base k x m mp F) : DfnG g Pr w K mg base k x m mp F := by
  obtain ⟨f, fd, pn, N, h1, h2⟩ := h.ex
  exact ⟨f, fd, pn, N, fnG_of h1, h2⟩
/-- a def that makes lambdas: its code object -/
structure DefAtL (g : G) (mg : Str → Option Value) (n : Nat) (x : Str) (st : Stmt) (cc : Addr) : Prop where
  ex : ∃ (oc : Value) (od : Option Addr) (kV doc pm : Value) (an : Option Addr) (ct : Value) (osl : Array (Option Value)), g.K.lookup (g.fnA n) = some ⟨oc, od, .func (PySem.W.fnOf x x (defArgs st) (defBody st) (defScope st) .none kV doc pm an (.ref cc) ct), osl⟩ ∧ PySem.W.codeIn g.K (.ref cc) x = true
  kp : PySem.W.keepIn g.K (.ref (g.fnA n)) = true
  at_ : mg x = some (.ref (g.fnA n))
/-- the law's def: what it promises -/
theorem law_mk {n : Nat} {g : G} {Pr : Program} {w : World} {mg : Str → Option Value} {base : Heap} {x y : Str} {st : Stmt} {N : List Str} {k : Nat} {fb : Env → RS} {cc : Addr} (h : DefAtL g mg n x st cc) (S : FnScope N [y] (defScope st))
    (hb : ∀ (kV doc pm : Value) (an : Option Addr) (cdv ct : Value) (us : List Value), us.length = [y].length → bindArgs (PySem.W.fnOf x x (defArgs st) (defBody st) (defScope st) .none kV doc pm an cdv ct) ⟨us, []⟩ = pure ([y].zip us))
    (hbody : ∀ (f : Addr) (A : Around) (outer : List PySem.Env) (s : Shared) (H : Hp) (E : XK), Room k (A.deeper (envOfC x (defScope st) s.heap.objs.size f (.ref cc))) → (A.deeper (envOfC x (defScope st) s.heap.objs.size f (.ref cc))).guards = some [] →
      DSs g [] (cxOf (L2.CX Pr w) Pr w g.K mg base N x (defScope st) f (.ref cc) A outer s H E) (defBody st) fb) :
    ∀ (fd : FuncData) (oc2 : Value) (od2 : Option Addr) (osl2 : Array (Option Value)), g.K.lookup (g.fnA n) = some ⟨oc2, od2, .func fd, osl2⟩ → FnG Pr w g.K mg base (L2.CX Pr w) (k + 1) (g.fnA n) fd [y] (spD g N [] 1 fun ss => fin [] (fb (startE N.length ss))) ∧ (∀ (s : Shared) (u : Value), BindsTo s fd ⟨[u], []⟩ [(y, u)]) := by
  intro fd oc2 od2 osl2 lk2
  obtain ⟨oc, od, kV, doc, pm, an, ct, osl, lk, hcd⟩ := h.ex
  rw [lk] at lk2
  cases lk2
  refine ⟨⟨fun vs H Q E h => h.1, fun A outer s H args us vs Q E hr hgd e0 hbt r hsp => ?_⟩, fun s u => ?_⟩
  · refine LamX.run_ofS (N := N) (ps := [y]) lk hcd S hr e0 hbt r hsp.1 fun hr' => ?_
    obtain ⟨_, P, ps, ss, hm, hl, st', hA, hR⟩ := hsp
    refine ⟨_, (hbody _ A outer s H E hr' (gd_deeper hgd)).run P ps (fun cls d _ H' => E cls d H') hm (takes_of rfl rfl rfl rfl), ?_⟩
    refine tS_eq.mpr ⟨_, st', ?_⟩
    replace hR : ROK g P ps H (fin [] (fb (startE N.length ss))) Q E := hR
    revert hR
    cases fb (startE N.length ss) with
    | nx e' => exact fun hR σ' H' go => hR .non H' (go.after hm hA) rfl
    | rt z e' => cases z with
      | v d => exact fun hR v σ' H' go rv => hR v H' (go.after hm hA) (Rep.mono (fun a z => go.st.ap z) rv)
      | m ds => exact fun hR a σ' H' gm => hR a H' (gm.after hm hA)
    | bk e' => exact fun hR => hR.elim
    | ct e' => exact fun hR => hR.elim
    | exc y e' => exact fun hR cls d σ' H' go rx => hR cls d H' (go.after hm hA) (XRep.kp (fun b o q n => ⟨q, fun z => n.1 (go.st.ap z)⟩) rx)
    | bad => exact fun hR => hR.elim
  · exact .of_eq (hb kV doc pm an (.ref cc) ct [u] rfl)
end DL
namespace DX
open PySem PySem.Spec PyProof.Rows L2 LamX
/-- the law's call, from the caller under whom no repr is under way -/
theorem law_callG {P : Program} {w : World} {K : PySem.W.Frag} {mg mb : Str → Option Value} {CX : CXT} {k : Nat} {fa a : Addr} {cs : List (Addr × Addr)} {fd : FuncData} {x : Str} {sp : Sp} {s₁ : Shared} {vs : List Value} {ns : List Int}
    (KX : K.In s₁.heap) (hns : s₁.heap.Ns mainGlobals mg) (hb : s₁.heap.Ns builtinsNs mb) (hbb : ∀ x : Str, x ≠ "__name__" → mb x = bootBuiltins x) (hlim : s₁.heap.NoLimit) (hg : s₁.gens = #[])
    (hT : ∀ p ∈ cs, s₁.heap.get? p.2 = some { cls := .none, data := .fields #[] }) (nT : ∀ p ∈ cs, K.lookup p.2 = none) (C : ∀ p ∈ cs, PySem.W.CodeHd s₁.heap p.1 p.2)
    (hbm : ∃ (bm : Addr) (ob : Obj), mg "__builtins__" = some (.ref bm) ∧ bm ≠ builtinsNs ∧ s₁.heap.get? bm = some ob ∧ ob.cls = .type "module" ∧ ob.dict = some builtinsNs ∧ ob.data = .plain)
    (ha : s₁.heap.get? a = some { cls := .type "list", data := .seq vs.toArray }) (hi : IntsAre vs ns) (hl : ns.length ≤ sizeLine) (hr : Room k callerA)
    (F : ∀ base : Heap, K.In base → base.Ns mainGlobals mg → (∀ p ∈ cs, TabB base mg p.1 p.2) → FnG P w K mg base CX k fa fd [x] sp) (hbind : ∀ (s : Shared) (u : Value), BindsTo s fd ⟨[u], []⟩ [(x, u)])
    (hsp : ∀ H : Hp, (∀ p ∈ cs, H p.2 = some (.tbl #[])) → SqL K H a (ns.map V.int) → sp [.ref a] H (fun v _ => v = .bl true) fun _ _ _ => False)
    (hCX : ∀ H e s', CX [] H s₁ (fun _ _ _ => False) e s' → False) :
    codeAny (model P w) callerA (.call (.ref fa) ⟨[.ref a], []⟩) (fun r s' => r = .ok (.ret (.bool true)) ∧ OldK s₁.heap s'.heap ∧ s'.os = s₁.os ∧ AllBare s'.gens) s₁ := by
  have rv := vals_ints hi
  have lenV := hi.length
  have isT : ∀ b : Addr, b ∈ cs.map (·.2) → s₁.heap.get? b = some { cls := .none, data := .fields #[] } := fun b hb => by
    obtain ⟨p, hp, e⟩ := List.mem_map.mp hb
    rw [← e]
    exact hT p hp
  have aT : a ∉ cs.map (·.2) := fun z => by
    have q := isT a z
    rw [ha] at q
    have z' : Data.seq vs.toArray _ = Data.fields #[] := congrArg Obj.data (Option.some.inj q)
    cases z'
  have memT : ∀ p ∈ cs, p.2 ∈ cs.map (·.2) := fun p hp => List.mem_map.mpr ⟨p, hp, rfl⟩
  have core : ∀ H : Hp, (∀ p ∈ cs, H p.2 = some (.tbl #[])) → (∀ b, H b = none ∨ b ∈ cs.map (·.2) ∨ ∃ o xs, H b = some (.frz o (.lst xs))) → SqL K H a (ns.map V.int) → HOk P w H s₁.heap → (∀ b, H b ≠ none → b = a ∨ b ∈ cs.map (·.2)) → (H a ≠ none → K.lookup a = none) →
      codeAny (model P w) callerA (.call (.ref fa) ⟨[.ref a], []⟩) (fun r s' => r = .ok (.ret (.bool true)) ∧ OldK s₁.heap s'.heap ∧ s'.os = s₁.os ∧ AllBare s'.gens) s₁ := by
    intro H hH hO hS hok hA hK
    have base_of : ∀ {b : Addr} {o : Obj}, s₁.heap.get? b = some o → H b = none → (hidT s₁.heap H).get? b = some o := fun e n => hidT_get e n
    have noD : ∀ {b : Addr} {o : Obj}, s₁.heap.get? b = some o → (∀ vs n, o.data ≠ .seq vs n) → o.data ≠ .fields #[] → H b = none := fun {b o} e h1 h2 => by
      cases q : H b with
      | none => rfl
      | some u =>
        rcases hA b (by rw [q]; simp) with e' | e'
        · rw [e', ha] at e
          cases e
          exact (h1 _ _ rfl).elim
        · rw [isT b e'] at e
          cases e
          exact (h2 rfl).elim
    have noA : ∀ {b : Addr} {o : Obj} {es : Array DictEntry} {ep : Nat}, s₁.heap.get? b = some o → o.data = .dict es ep → H b = none := fun {b o es ep} e d => by
      refine noD e (fun vs n z => ?_) fun z => ?_
      · rw [d] at z
        cases z
      · rw [d] at z
        cases z
    have nsK : ∀ {b : Addr} {m : Str → Option Value}, s₁.heap.Ns b m → (hidT s₁.heap H).Ns b m := fun {b m} ⟨o, es, ep, e, d, r⟩ => ⟨o, es, ep, base_of e (noA e d), d, r⟩
    have hKb : K.In (hidT s₁.heap H) := fun b o e => base_of (KX b o e) (by
      cases q : H b with
      | none => rfl
      | some u =>
        rcases hA b (by rw [q]; simp) with e' | e'
        · rw [e'] at e q
          rw [hK (by rw [q]; simp)] at e
          cases e
        · obtain ⟨p, hp, ep⟩ := List.mem_map.mp e'
          rw [← ep, nT p hp] at e
          cases e)
    have hM : L2.Mod K mg (hidT s₁.heap H) := ⟨hKb, nsK hns, ⟨mb, nsK hb, hbb⟩, let ⟨mc, h1, h2⟩ := hlim; ⟨mc, nsK h1, h2⟩⟩
    have TB : ∀ p ∈ cs, TabB (hidT s₁.heap H) mg p.1 p.2 := fun p hp => by
      have hTp := hT p hp
      refine ⟨?_, ?_, fun z => ?_⟩
      · obtain ⟨o, us, file, tf, flags, tg, inF, text, tt, e1, r1, r2, r3, r4, r5, r6, r7, r8, hne⟩ := C p hp
        refine ⟨o, us, file, tf, flags, tg, inF, text, tt, base_of e1 (noD e1 (fun vs n z => ?_) fun z => ?_), r1, r2, r3, r4, r5, r6, r7, r8, hne⟩
        · rw [r2] at z
          cases z
        · rw [r2] at z
          cases z
          simp at r3
      · obtain ⟨bm, ob, b1, b2, b3, b4, b5, b6⟩ := hbm
        have nG : bm ≠ mainGlobals := fun q => by
          obtain ⟨o, es, ep, e, hd, _⟩ := hns
          rw [q, e] at b3
          cases b3
          rw [hd] at b6
          cases b6
        have nP : bm ≠ p.2 := fun q => by
          rw [q, hTp] at b3
          cases b3
          cases b6
        refine ⟨bm, ob, b1, b2, nG, nP, base_of b3 (noD b3 (fun vs n z => ?_) fun z => ?_), b4, b5, b6⟩
        · rw [b6] at z
          cases z
        · rw [b6] at z
          cases z
      · obtain ⟨o, es, ep, e, hd, _⟩ := hns
        rw [z, hTp] at e
        cases e
        cases hd
    have e0 : Env0 P w K mg (hidT s₁.heap H) callerA [] s₁ H := ⟨rfl, hM, fun b o e => of_hidT e, Nat.le_of_eq (hidT_size _ _), trivial, fun b hb => absurd (show b ∈ ([] : List Addr) from hb) (by simp), hok, .of_eq hg⟩
    refine codeAny_mono ((F _ hKb (nsK hns) TB).run callerA [] s₁ H ⟨[.ref a], []⟩ [.ref a] [.ref a] _ _ hr rfl e0 (hbind s₁ (.ref a)) (.cons rfl .nil) (hsp H hH hS)) fun r s' h => ?_
    cases r with
    | error e => exact (hCX H e s' h).elim
    | ok fl =>
      cases fl with
      | next => exact False.elim h
      | brk => exact False.elim h
      | cont => exact False.elim h
      | ret u =>
        obtain ⟨v, H', os, bare, un, hok', r', q⟩ := h
        have q' : v = .bl true := q
        subst q'
        obtain rfl : u = Value.bool true := r'
        have key : ∀ b o, b ∉ cs.map (·.2) → s₁.heap.get? b = some o → s'.heap.get? b = some o := fun b o nb e => by
          cases q : H b with
          | none => exact un.keep b o e q (by intro z; exact absurd (show b ∈ ([] : List Addr) from z) (by simp)) (by simp)
          | some u =>
            rcases hO b with z | z | ⟨ob, xs, z⟩
            · rw [q] at z; cases z
            · exact absurd z nb
            · have z2 := un.frzs b ob _ z
              obtain ⟨e1, _⟩ := hok b _ z
              obtain ⟨e2, _⟩ := hok' b _ z2
              rw [e] at e1; cases e1
              exact e2
        have grown : ∀ p ∈ cs, ∃ more : Array Value, s'.heap.get? p.2 = some { cls := .none, data := .fields more } := fun p hp => by
          obtain ⟨more, z⟩ := un.tbls p.2 #[] (hH p hp)
          exact ⟨_, hok' p.2 _ z⟩
        refine ⟨rfl, ⟨fun b o e => ?_, fun b o e => ?_⟩, os, bare⟩
        · by_cases hb : b ∈ cs.map (·.2)
          · obtain ⟨p, hp, ep⟩ := List.mem_map.mp hb
            obtain ⟨more, hm⟩ := grown p hp
            rw [← ep] at e ⊢
            rw [hT p hp] at e
            cases e
            exact .inr (.inl ⟨((C p hp).tab (hT p hp)).isCodeTable, rfl, #[], more, rfl, by rw [Array.empty_append]; exact hm⟩)
          · exact .inl (key b o hb e)
        · by_cases hb : b ∈ cs.map (·.2)
          · obtain ⟨p, hp, ep⟩ := List.mem_map.mp hb
            obtain ⟨more, hm⟩ := grown p hp
            rw [← ep]
            exact ⟨_, hm⟩
          · exact ⟨o, key b o hb e⟩
  cases hk : K.lookup a with
  | some o =>
    have e := KX a o hk
    rw [ha] at e
    cases e
    refine core (fun b => if b ∈ cs.map (·.2) then some (.tbl #[]) else none) (fun p hp => if_pos (memT p hp)) (fun b => ?_) (.inr ⟨_, vs.toArray, _, hk, rfl, rfl, rfl, by rw [List.size_toArray, lenV]; exact hl, by simpa using rv⟩) (fun b u z => ?_) (fun b z => ?_) fun z => absurd (show (if a ∈ cs.map (·.2) then some (HO.tbl #[]) else none) = none from if_neg aT) z
    · by_cases hb : b ∈ cs.map (·.2)
      · exact .inr (.inl hb)
      · exact .inl (if_neg hb)
    · by_cases hb : b ∈ cs.map (·.2)
      · have z' := (if_pos hb).symm.trans z
        cases z'
        exact isT b hb
      · have z' := (if_neg hb).symm.trans z
        cases z'
    · by_cases hb : b ∈ cs.map (·.2)
      · exact .inr hb
      · exact absurd (if_neg hb) z
  | none =>
    refine core (fun b => if b = a then some (.frz { cls := .type "list", data := .seq vs.toArray } (.lst (ns.map V.int))) else if b ∈ cs.map (·.2) then some (.tbl #[]) else none) (fun p hp => (if_neg (show ¬ p.2 = a from fun z => aT (by rw [← z]; exact memT p hp))).trans (if_pos (memT p hp))) (fun b => ?_)
      (.inl (.inr ⟨{ cls := .type "list", data := .seq vs.toArray }, if_pos rfl⟩)) (fun b u z => ?_) (fun b z => ?_) fun _ => hk
    · by_cases hb : b = a
      · exact .inr (.inr ⟨_, _, if_pos hb⟩)
      · by_cases hb2 : b ∈ cs.map (·.2)
        · exact .inr (.inl hb2)
        · exact .inl ((if_neg hb).trans (if_neg hb2))
    · by_cases hb : b = a
      · have z' := (if_pos hb).symm.trans z
        cases z'
        rw [hb]
        exact ⟨ha, by rw [List.length_map]; exact hl, vs, _, rv, ha⟩
      · have z1 := (if_neg hb).symm.trans z
        by_cases hb2 : b ∈ cs.map (·.2)
        · have z' := (if_pos hb2).symm.trans z1
          cases z'
          exact isT b hb2
        · have z' := (if_neg hb2).symm.trans z1
          cases z'
    · by_cases hb : b = a
      · exact .inl hb
      · by_cases hb2 : b ∈ cs.map (·.2)
        · exact .inr hb2
        · exact absurd ((if_neg hb).trans (if_neg hb2)) z
/-- what is known of the law's promise at the head's heap -/
def LawAtG (l : PySem.W.OpenLaw) (w : World) (K : PySem.W.Frag) (k n : Nat) (x : Str) (mg : Str → Option Value) (fa : Addr) (h : Heap) : Prop :=
  ∃ (fd : FuncData) (cs : List (Addr × Addr)) (sp : Sp), (∀ p ∈ cs, h.get? p.2 = some { cls := .none, data := .fields #[] }) ∧ (∀ p ∈ cs, K.lookup p.2 = none) ∧ (∀ p ∈ cs, PySem.W.CodeHd h p.1 p.2) ∧ (∀ (s : Shared) (u : Value), BindsTo s fd ⟨[u], []⟩ [(x, u)]) ∧
    (∀ (H : Hp) (a : Addr) (ns : List Int), ns.length ≤ n → (∀ z ∈ ns, Builtin.Int.intBits z ≤ 1048576) → (∀ p ∈ cs, H p.2 = some (.tbl #[])) → SqL K H a (ns.map V.int) → sp [.ref a] H (fun v _ => v = .bl true) fun _ _ _ => False) ∧
    ∀ base : Heap, K.In base → base.Ns mainGlobals mg → (∀ p ∈ cs, TabB base mg p.1 p.2) → FnG l.prog w K mg base (L2.CX l.prog w) k fa fd [x] sp
theorem walk_ofG {l : PySem.W.OpenLaw} {n k : Nat} {q : Program} {loose : List Str} {XP : (Str → Option Value) → Heap → Prop} {YP : World → Heap → Prop} {d : DefRec} {x : Str}
    (hn : l.most = some n) (hn2 : n ≤ sizeLine) (hdf : d.params.defaults = []) (hr : Room k callerA)
    (F : ∀ (w : World) (mg : Str → Option Value) (fa : Addr) (h : Heap), YP w h → h.Ns mainGlobals mg → mg d.name = some (.ref fa) → ∃ K : PySem.W.Frag, K.In h ∧ LawAtG l w K k n x mg fa h) :
    PySem.W.WalkO q loose XP YP l.row.toRowW d [] (fun f vs => PySem.call f vs) := by
  refine Att.attach_callB hn hdf fun w s₀ s₁ mg mb fa o pm cd doc a vs ns G Y ho hd hcd hmg hobj hints hlen hbits hg => ?_
  obtain ⟨K, KX, fd, cs, sp, hT, nT, C, hb, hsp, hF⟩ := F w mg fa _ Y G.T.g hmg
  refine law_callG KX G.T.g G.T.b G.T.builtins G.T.nolimit hg hT nT C G.T.bmain hobj hints (Nat.le_trans hlen hn2) hr hF hb (fun H hH hS => hsp H a ns hlen hbits hH hS) fun H e s' z => ?_
  obtain ⟨_, _, _, _, _, _, _, _, _, _, _, _, z⟩ := z
  exact z.elim
end DX
end

section
set_option Elab.async false
set_option linter.all false
set_option maxRecDepth 100000
set_option maxHeartbeats 4000000
/-! from the head's looks to the facts of the data layer -/
namespace DL
open PySem PySem.Spec PyProof.Rows L2 DX LamX
theorem ktab_no {K : PySem.W.Frag} {a : Addr} {P : Params} {ks : List Str} {z : Str} (h : He.dicW K a = some (He.keysIn P ks)) (hz : z ∉ ks) : PySem.W.nsIn K a z = some none := by
  unfold He.dicW at h
  cases q : K.lookup a with
  | none => rw [q] at h; cases h
  | some o =>
    obtain ⟨oc, od, dt, osl⟩ := o
    rw [q] at h
    cases oc with
    | type c =>
      cases od with
      | none =>
        cases dt with
        | dict es n =>
          have h1 : (match decide (c = "dict") && (osl.isEmpty && !(a == sysModules)) with
            | true => some (es.toList.map He.keyOf)
            | false => none) = some (He.keysIn P ks) := h
          cases y : decide (c = "dict") && (osl.isEmpty && !(a == sysModules)) with
          | false => rw [y] at h1; cases h1
          | true =>
            rw [y] at h1
            have h2 := Option.some.inj h1
            have key : ∀ e ∈ es.toList, ∃ k t, k ∈ ks ∧ e.key = .str k t := fun e he => by
              have m : He.keyOf e ∈ He.keysIn P ks := by rw [← h2]; exact List.mem_map_of_mem he
              obtain ⟨k, hk, e2⟩ := List.mem_map.mp m
              unfold He.keyOf at e2
              split at e2
              · rename_i x t ek
                have e3 : k = x := congrArg Prod.fst (Option.some.inj e2)
                exact ⟨k, t, hk, by rw [ek, e3]⟩
              · cases e2
            have nf : es.toList.find? (·.key.isStr z) = none := List.find?_eq_none.mpr fun e he w => by
              obtain ⟨k, t, hk, ek⟩ := key e he
              rw [ek] at w
              have : k = z := by
                have w : (k == z) = true := w
                exact eq_of_beq w
              exact hz (by rw [← this]; exact hk)
            have nr : es.toList.any (·.refKey) = false := by
              rw [List.any_eq_false]
              intro e he w
              obtain ⟨k, t, hk, ek⟩ := key e he
              unfold DictEntry.refKey at w
              rw [ek] at w
              cases w
            unfold PySem.W.nsIn
            rw [q]
            dsimp only
            rw [nf]
            dsimp only
            rw [nr]
            rfl
        | _ => cases h
      | some b => cases dt <;> cases h
    | _ => cases od <;> cases dt <;> cases h
theorem lookup_in {α : Type} {k : Nat} {v : α} : ∀ {l : List (Nat × α)}, l.lookup k = some v → (k, v) ∈ l
  | [], h => by cases h
  | (a, b) :: r, h => by
    rw [List.lookup_cons] at h
    cases e : (k == a) with
    | true =>
      rw [e] at h
      cases h
      rw [beq_iff_eq.mp e]
      exact List.mem_cons_self ..
    | false =>
      rw [e] at h
      exact List.mem_cons_of_mem _ (lookup_in h)
theorem lookup_inS {α : Type} {k : Str} {v : α} : ∀ {l : List (Str × α)}, l.lookup k = some v → (k, v) ∈ l
  | [], h => by cases h
  | (a, b) :: r, h => by
    rw [List.lookup_cons] at h
    cases e : (k == a) with
    | true =>
      rw [e] at h
      cases h
      rw [beq_iff_eq.mp e]
      exact List.mem_cons_self ..
    | false =>
      rw [e] at h
      exact List.mem_cons_of_mem _ (lookup_inS h)
theorem lookup_noS {α : Type} {k : Str} : ∀ {l : List (Str × α)}, l.lookup k = none → k ∉ l.map (·.1)
  | [], _ => by simp
  | (a, b) :: r, h => by
    rw [List.lookup_cons] at h
    cases e : (k == a) with
    | true => rw [e] at h; cases h
    | false =>
      rw [e] at h
      intro z
      rcases List.mem_cons.mp z with z | z
      · rw [show k = a from z] at e
        simp at e
      · exact lookup_noS h z
/-- the table of the top: keys in order, what they stand for -/
theorem ktab_of {g : G} {w : World} {d : Addr} {tab : List (Str × Nat)} (h : He.dicW g.K d = some (He.keysIn w.params (tab.map (·.1)))) (hv : (tab.all fun p => decide (PySem.W.nsIn g.K d p.1 = some (some (.ref (g.fnA p.2))))) = true) : KTab g w d tab :=
  ⟨He.dicW_ok h, fun z hz => ktab_no h (lookup_noS hz), fun z n hz => of_decide_eq_true (List.all_eq_true.mp hv _ (lookup_inS hz))⟩
theorem fun_ofD {K : PySem.W.Frag} {x q : Str} {st : Stmt} {f : Addr} {fd : FuncData} (F : FunD K x q (defArgs st) (defBody st) (defScope st) [] [] f fd) : Fun K x q st f fd := by
  obtain ⟨oc, od, dV, kV, doc, pm, an, cdv, ct, osl, e, lk, hcd, hd, _⟩ := F.ex
  have : dV = .none := by
    rcases hd with ⟨_, h⟩ | ⟨h, _⟩
    · exact h
    · exact (h rfl).elim
  subst this
  exact ⟨⟨oc, od, kV, doc, pm, an, cdv, ct, osl, e, lk, hcd⟩, F.kp⟩
theorem defAtL_of {g : G} {mg : Str → Option Value} {n : Nat} {x : Str} {st : Stmt} {fd : FuncData} (F : FunD g.K x x (defArgs st) (defBody st) (defScope st) [] [] (g.fnA n) fd) (hm : mg x = some (.ref (g.fnA n))) (hf : g.fnA n = He.fAd g.K (x, none)) : DefAtL g mg n x st (He.codeOf g.K (x, none)) := by
  obtain ⟨oc, od, dV, kV, doc, pm, an, cdv, ct, osl, e, lk, hcd, hd, _⟩ := F.ex
  have : dV = .none := by
    rcases hd with ⟨_, h⟩ | ⟨h, _⟩
    · exact h
    · exact (h rfl).elim
  subst this
  obtain ⟨c, rfl⟩ := He.codeIn_ref hcd
  rw [e] at lk
  have hc : He.codeOf g.K (x, none) = c := He.codeOf_eq (p := (x, none)) (by rw [← hf]; exact lk) rfl
  rw [hc]
  exact ⟨⟨oc, od, kV, doc, pm, an, ct, osl, lk, hcd⟩, F.kp, hm⟩
/-! ### Bool looks -/
def excCB (K : PySem.W.Frag) (D : Addr) : Bool := decide (PySem.W.findIn K (.ref D) "__getattribute__" = some (some (.builtin "BaseException.__getattribute__"))) && (decide (PySem.W.findIn K (.ref D) "__getattr__" = some none) && (decide (PySem.W.subIn K (.ref D) (.type "BaseException") = some true) && (PySem.W.hasDictIn K D &&
  (decide (PySem.W.findIn K (.ref D) "__class__" = some (some (.builtin "object.__class__"))) && (decide (PySem.W.specialIn K (.builtin "object.__class__") "__get__" = some (some (.builtin "getset_descriptor.__get__"))) && (decide (PySem.W.takesIn K (.builtin "object.__class__") = some true) && decide (PySem.W.mroIn K D (.type "object") = some true)))))))
theorem excCB_ok {K : PySem.W.Frag} {D : Addr} (h : excCB K D = true) : L2.ExcC K D := by
  unfold excCB at h
  simp only [Bool.and_eq_true, decide_eq_true_eq] at h
  obtain ⟨h1, h2, h3, h4, h5, h6, h7, h8⟩ := h
  exact ⟨h1, h2, h3, h4, h5, h6, h7, h8⟩
def oexTB (K : PySem.W.Frag) (C : Addr) (newId : String) (tl : List Value) : Bool := (match K.lookup C with
  | some ⟨.type c, _, .cls cd, sl⟩ => (match cd.mro, sl.toList with
    | .ref C' :: bm, [_, _, _, _, some (.builtin n), _] => decide (c = "type") && (C' == C && (decide (n = newId) && (!cd.hasDel && (cd.hasDict && refsT tl bm))))
    | _, _ => false)
  | _ => false) && (decide (PySem.W.findIn K (.ref C) "__setattr__" = some (some (.builtin "object.__setattr__"))) && (decide (PySem.W.subIn K (.ref C) (.type "BaseException") = some true) && (decide (PySem.W.typeIn K (.ref C) = some (.type "type")) && PySem.W.keepIn K (.ref C))))
theorem oexTB_ok {K : PySem.W.Frag} {C : Addr} {newId : String} {tl : List Value} (h : oexTB K C newId tl = true) : OexT K C newId tl := by
  unfold oexTB at h
  simp only [Bool.and_eq_true, decide_eq_true_eq] at h
  obtain ⟨h1, h2, h3, h4, h5⟩ := h
  refine ⟨?_, h2, h3, h4, h5⟩
  split at h1
  · rename_i c dd cd sl ho
    split at h1
    · rename_i C' bm k0 k1 k2 k3 n k5 hm hs
      simp only [Bool.and_eq_true, decide_eq_true_eq, beq_iff_eq, Bool.not_eq_true'] at h1
      obtain ⟨rfl, rfl, rfl, h6, h7, h8⟩ := h1
      obtain ⟨nm, bs, mro, ns, qn, hd, sn, sub, ab, col, del⟩ := cd
      dsimp only at hm h6 h7
      subst hm h6 h7
      have hsl : sl = #[k0, k1, k2, k3, some (.builtin n), k5] := by
        obtain ⟨l⟩ := sl
        simp only at hs
        rw [hs]
      subst hsl
      exact ⟨nm, qn, ns, bs, bm, sn, sub, ab, col, dd, k0, k1, k2, k3, k5, ho, h8⟩
    · cases h1
  · cases h1
theorem excV_of {g : G} {n : Nat} {x : Str} (h : (He.Fa.exc x).ok g.K = true) (e : g.clA n = He.ga g.K x) : ExcV g n := by
  obtain ⟨h1, h⟩ := He.ba (show (PySem.W.excIn g.K (He.ga g.K x) He.veBase "ValueError.__new__" && (PySem.W.keepIn g.K (.ref (He.ga g.K x)) && (decide (PySem.W.subIn g.K (.ref (He.ga g.K x)) (.type "BaseException") = some true) && decide (PySem.W.typeIn g.K (.ref (He.ga g.K x)) = some (.type "type"))))) = true from h)
  obtain ⟨h2, h⟩ := He.ba h
  obtain ⟨h3, h4⟩ := He.ba h
  rw [← e] at h1 h2 h3 h4
  exact ⟨h1, h2, of_decide_eq_true h3, of_decide_eq_true h4⟩
end DL
namespace DL
open PySem PySem.Spec PyProof.Rows L2 DX LamX
theorem vV_le (K : PySem.W.Frag) : PySem.W.findCls K (.type "LookupError") (.type "type") "__init__" = some (.val (.builtin "LookupError.__init__")) := by kernel_rfl
theorem ty_le : typeOf (.type "LookupError") = pure (.type "type") := by kernel_rfl
theorem vV_ve (K : PySem.W.Frag) : PySem.W.findCls K (.type "ValueError") (.type "type") "__init__" = some (.val (.builtin "ValueError.__init__")) := by kernel_rfl
theorem ty_ve : typeOf (.type "ValueError") = pure (.type "type") := by kernel_rfl
/-- C(LookupError) with __init__(self, y): LookupError.__init__(self, 'text'); self.f = y -/
theorem excF_le {g : G} {Pr : Program} {w : World} {mg : Str → Option Value} {base : Heap} {n : Nat} {fI : Addr} {qual f y : Str} {st : Stmt} {fd : FuncData} {txt : Str} {j : Nat} {p1 p2 p3 p4 p5 p6 p7 p8 p9 p10 : Pos}
    (h1 : oexTB g.K (g.clA n) "LookupError.__new__" leTail = true) (h2 : PySem.W.findIn g.K (.ref (g.clA n)) "__init__" = some (some (.ref fI))) (h3 : PySem.W.typeIn g.K (.ref fI) = some (.type "function")) (h4 : PySem.W.findIn g.K (.ref (g.clA n)) f = some none)
    (Fd : FunD g.K "__init__" qual (defArgs st) (defBody st) (defScope st) [] [] fI fd) (hm : mg "LookupError" = none) (S : FnScope [("self" : Str), y] [("self" : Str), y] (defScope st))
    (hst : defBody st = [.Expr (.Call (.Attribute (.Name "LookupError" p1) "__init__" p2) [.Name "self" p3, .Constant (.str txt) j p4] [] p5) p6, .Assign [.Attribute (.Name "self" p7) f p8] (.Name y p9) p10])
    (hb : ∀ (kV doc pm : Value) (an : Option Addr) (cdv ct : Value) (us : List Value), us.length = [("self" : Str), y].length → bindArgs (PySem.W.fnOf "__init__" qual (defArgs st) (defBody st) (defScope st) .none kV doc pm an cdv ct) ⟨us, []⟩ = pure ([("self" : Str), y].zip us))
    (hg : (defScope st).names.lookup ("LookupError" : Str) = some .globalImplicit) (h0 : Vis (defScope st) "self") (hy1 : Vis (defScope st) y) (hy : (y == ("__debug__" : Str)) = false) (hy2 : (y == ("__classdict__" : Str)) = false)
    (hline : ∀ env : PySem.Env, swapsWith (.Call (.Attribute (.Name "LookupError" p1) "__init__" p2) [.Name "self" p3, .Constant (.str txt) j p4] [] p5) none p6.line env = pure false)
    (hline2 : ∀ env : PySem.Env, env.kindOf y = (defScope st).names.lookup y → swapsWith (.Name y p9) (some (.Attribute (.Name "self" p7) f p8)) p10.line env = pure false)
    (hc : ∀ env : PySem.Env, ∃ pl : Sem Bool, eval (.Call (.Attribute (.Name "LookupError" p1) "__init__" p2) [.Name "self" p3, .Constant (.str txt) j p4] [] p5) env = (do
      let ov ← eval (.Name "LookupError" p1) env
      standAt p2.atName
      let (f, first) ← holding [ov] (getMethod ov "__init__" pl)
      callWith p5 f first (backTo p5 (starEach [.Name "self" p3, .Constant (.str txt) j p4] env)) (backToKw p5 (keywordEach [] env)))) : ExcF g Pr w mg base n f := by
  have Fn := fun_ofD Fd
  have OT := oexTB_ok h1
  exact ⟨"LookupError.__new__", leTail, "LookupError", "LookupError.__init__", fI, fd, ["self", y], OT, F.excBase_LookupError, h2, h3,
    init_ok Fn S hst OT tail_le F.excBase_LookupError hm (by decide +kernel) ty_le (vV_le _) (by decide) (by decide) (by decide +kernel) (by decide +kernel) h4 hg h0 hy1 hy hy2 hline hline2 hc, Fn.binds hb⟩
theorem ql_of {g : G} {H : Hp} {a : Addr} {vs : List V} (h : SqL g.K H a vs) : QL g H (fun _ => False) a vs := by
  rcases h with h | h
  · exact .inl ⟨fun z => z, h⟩
  · exact .inr h
/-- the law's promise at the script -/
theorem spec_of {g : G} {N : List Str} {F : List Slot → RF} {H : Hp} {a : Addr} {ns : List Int} (h : SqL g.K H a (ns.map V.int)) (hT : Tabs g.T H) (hF : F [.v (.lst (ns.map .int))] = .ok (.v (.bl true)) []) : spD g N [] 1 F [.ref a] H (fun v _ => v = .bl true) fun _ _ _ => False := by
  have noM : ∀ b, ¬ isM (startE N.length [.v (.lst (ns.map D.int))]) (L2.start N [.ref a]) b := fun b ⟨i, ds, h1, _⟩ => by
    have z := startE_get h1
    cases i with
    | zero => cases z
    | succ i => simp at z
  have sub : ∀ b, Av (fun _ => False) (startE N.length [.v (.lst (ns.map D.int))]) (L2.start N [.ref a]) b → (fun _ => False) b := fun b z => z.elim id fun z => (noM b z).elim
  refine ⟨rfl, fun _ => False, [], [.v (.lst (ns.map .int))], rfl, rfl, ⟨by unfold startE L2.start; simp, fun i d q => ?_, fun i ds q => ?_, fun i j b ds es q => ?_, fun b q => q.elim, (fun p hp => by cases hp), hT⟩, fun b z => (sub b z).elim, ?_⟩
  · have z := startE_get q
    cases i with
    | zero =>
      cases z
      exact ⟨.ref a, start_of rfl, a, _, rfl, (ql_of h).kp (fun b o q n => ⟨q, fun z => (sub b z).elim⟩), RepL.ints ns⟩
    | succ i => simp at z
  · have z := startE_get q
    cases i with
    | zero => cases z
    | succ i => simp at z
  · have z := startE_get q
    cases i with
    | zero => cases z
    | succ i => simp at z
  · rw [hF]
    exact fun v H' _ rv => rv
end DL
end

section
set_option Elab.async false
set_option linter.all false
set_option maxRecDepth 100000
set_option maxHeartbeats 4000000
namespace DL
open PySem PySem.Spec PyProof.Rows L2
def top (i : Nat) : Stmt := PySem.Challenge.pw_whocame_k01_notes_known.main.body.getD i (.Pass ⟨0, 0, 0, 0⟩)
abbrev st_is_between : Stmt := top 15
abbrev st_is_who : Stmt := top 16
abbrev st_fits_came : Stmt := top 17
abbrev st_fits_round : Stmt := top 18
abbrev st_fits_since : Stmt := top 19
abbrev st_is_note_of : Stmt := top 21
abbrev st_need_walkers : Stmt := top 22
abbrev st_need_note : Stmt := top 23
abbrev st_most_in : Stmt := top 24
abbrev st_is_note : Stmt := top 25
abbrev st_most_of : Stmt := top 26
abbrev st__law_pot : Stmt := top 28
abbrev st__law_take : Stmt := top 29
abbrev st__law_folded : Stmt := top 30
abbrev st__law_note : Stmt := top 31
abbrev st__law_most : Stmt := top 32
abbrev st__law_within : Stmt := top 33
abbrev st__law_note_due : Stmt := top 34
abbrev st__law_near : Stmt := top 35
abbrev st__law_bent : Stmt := top 36
abbrev st__law_odd : Stmt := top 37
abbrev st__law_met : Stmt := top 38
abbrev st_law : Stmt := top 39
def tab_PAIRS : List (Str × Nat) := [("came", 17), ("round", 18), ("since", 19)]
def exr_LackError_t : List (Nat × Bool) := [(1, false), (2, false), (3, false), (4, false), (5, false), (6, false), (7, true), (8, true), (9, true), (10, true)]
def exr_LackError : Nat → Option Bool := fun n => exr_LackError_t.lookup n
def exr_RoomError_t : List (Nat × Bool) := [(1, true), (2, true), (3, true), (4, true), (5, true), (6, true), (7, false), (8, false), (9, false), (10, false)]
def exr_RoomError : Nat → Option Bool := fun n => exr_RoomError_t.lookup n
def isr_0_t : List (Nat × Bool) := [(1, false), (2, false), (3, false), (4, false), (5, false), (6, false), (7, true), (8, true), (9, true), (10, true)]
def isr_0 : Nat → Option Bool := fun n => isr_0_t.lookup n
def isr_1_t : List (Nat × Bool) := [(1, true), (2, true), (3, true), (4, true), (5, true), (6, true), (7, false), (8, true), (9, true), (10, false)]
def isr_1 : Nat → Option Bool := fun n => isr_1_t.lookup n
def isr_2_t : List (Nat × Bool) := [(1, false), (2, false), (3, false), (4, false), (5, false), (6, false), (7, false), (8, false), (9, false), (10, true)]
def isr_2 : Nat → Option Bool := fun n => isr_2_t.lookup n
def isr_3_t : List (Nat × Bool) := [(1, true), (2, true), (3, true), (4, true), (5, true), (6, true), (7, false), (8, false), (9, false), (10, false)]
def isr_3 : Nat → Option Bool := fun n => isr_3_t.lookup n
def isr_4_t : List (Nat × Bool) := [(1, false), (2, true), (3, false), (4, true), (5, true), (6, true), (7, false), (8, false), (9, false), (10, false)]
def isr_4 : Nat → Option Bool := fun n => isr_4_t.lookup n
def isr_5_t : List (Nat × Bool) := [(1, false), (2, false), (3, true), (4, false), (5, false), (6, false), (7, false), (8, false), (9, false), (10, false)]
def isr_5 : Nat → Option Bool := fun n => isr_5_t.lookup n
def xfr_number_t : List Nat := [7, 8, 9, 10]
def xfr_number : Nat → Bool := fun n => xfr_number_t.contains n
def q_law : Str := (envOfC "law" (defScope st_law) 0 0 .none).qual ++ "<lambda>"
structure Facts (g : G) (Pr : Program) (w : World) (mg : Str → Option Value) (base : Heap) (cc Pt : Addr) : Prop where
  b_LookupError : mg "LookupError" = none
  b_ValueError : mg "ValueError" = none
  b_abs : mg "abs" = none
  b_bool : mg "bool" = none
  b_int : mg "int" = none
  b_isinstance : mg "isinstance" = none
  b_len : mg "len" = none
  b_list : mg "list" = none
  b_max : mg "max" = none
  b_min : mg "min" = none
  b_range : mg "range" = none
  b_repr : mg "repr" = none
  b_str : mg "str" = none
  b_tuple : mg "tuple" = none
  c_LEAST_BY : ∃ t, mg "LEAST_BY" = some (.int 2 t)
  c_MOST_TOP : ∃ t, mg "MOST_TOP" = some (.int 4 t)
  c_MOST_WALKERS : ∃ t, mg "MOST_WALKERS" = some (.int 3 t)
  t_PAIRS : ∃ d, mg "PAIRS" = some (.ref d) ∧ KTab g w d tab_PAIRS
  e_LackError : mg "LackError" = some (.ref (g.clA 7))
  e_NoDoor : mg "NoDoor" = some (.ref (g.clA 9))
  e_NoHouse : mg "NoHouse" = some (.ref (g.clA 2))
  e_NoMemory : mg "NoMemory" = some (.ref (g.clA 5))
  e_NoNote : mg "NoNote" = some (.ref (g.clA 3))
  e_NoNumber : mg "NoNumber" = some (.ref (g.clA 10))
  e_NoRoom : mg "NoRoom" = some (.ref (g.clA 8))
  e_NoRule : mg "NoRule" = some (.ref (g.clA 4))
  e_NoWalker : mg "NoWalker" = some (.ref (g.clA 6))
  e_RoomError : mg "RoomError" = some (.ref (g.clA 1))
  ev_NoNote : ExcV g 3
  ef_NoNumber : ExcF g Pr w mg base 10 "number"
  exm_LackError : ∀ n b, exr_LackError n = some b → PySem.W.exmOne g.K (.ref (g.clA n)) (.ref (g.clA 7)) = some b
  exm_RoomError : ∀ n b, exr_RoomError n = some b → PySem.W.exmOne g.K (.ref (g.clA n)) (.ref (g.clA 1)) = some b
  is_0 : ∀ n b, isr_0 n = some b → L2.ExcC g.K (g.clA n) ∧ PySem.W.kitOne g.K (.ref (g.clA n)) (.type "LookupError") = some b
  is_1 : ∀ n b, isr_1 n = some b → L2.ExcC g.K (g.clA n) ∧ PySem.W.kitAny g.K (.ref (g.clA n)) ([.ref (g.clA 8), .ref (g.clA 9), .type "ValueError"]) = some b
  is_2 : ∀ n b, isr_2 n = some b → L2.ExcC g.K (g.clA n) ∧ PySem.W.kitOne g.K (.ref (g.clA n)) (.ref (g.clA 10)) = some b
  is_3 : ∀ n b, isr_3 n = some b → L2.ExcC g.K (g.clA n) ∧ PySem.W.kitOne g.K (.ref (g.clA n)) (.type "ValueError") = some b
  is_4 : ∀ n b, isr_4 n = some b → L2.ExcC g.K (g.clA n) ∧ PySem.W.kitAny g.K (.ref (g.clA n)) ([.ref (g.clA 2), .ref (g.clA 4), .ref (g.clA 5), .ref (g.clA 6)]) = some b
  is_5 : ∀ n b, isr_5 n = some b → L2.ExcC g.K (g.clA n) ∧ PySem.W.kitOne g.K (.ref (g.clA n)) (.ref (g.clA 3)) = some b
  xf_number : ∀ n, xfr_number n = true → XfC g.K (g.clA n) ∧ PySem.W.findIn g.K (.ref (g.clA n)) "number" = some none
  d_is_between : DefAt g mg 15 "is_between" (top 15)
  d_is_who : DefAt g mg 16 "is_who" (top 16)
  d_fits_came : DefAt g mg 17 "fits_came" (top 17)
  d_fits_round : DefAt g mg 18 "fits_round" (top 18)
  d_fits_since : DefAt g mg 19 "fits_since" (top 19)
  d_is_note_of : DefAt g mg 21 "is_note_of" (top 21)
  d_need_walkers : DefAt g mg 22 "need_walkers" (top 22)
  d_need_note : DefAt g mg 23 "need_note" (top 23)
  d_most_in : DefAt g mg 24 "most_in" (top 24)
  d_is_note : DefAt g mg 25 "is_note" (top 25)
  d_most_of : DefAt g mg 26 "most_of" (top 26)
  d__law_pot : DefAt g mg 28 "_law_pot" (top 28)
  d__law_take : DefAt g mg 29 "_law_take" (top 29)
  d__law_folded : DefAt g mg 30 "_law_folded" (top 30)
  d__law_note : DefAt g mg 31 "_law_note" (top 31)
  d__law_most : DefAt g mg 32 "_law_most" (top 32)
  d__law_within : DefAt g mg 33 "_law_within" (top 33)
  d__law_note_due : DefAt g mg 34 "_law_note_due" (top 34)
  d__law_near : DefAt g mg 35 "_law_near" (top 35)
  d__law_bent : DefAt g mg 36 "_law_bent" (top 36)
  d__law_odd : DefAt g mg 37 "_law_odd" (top 37)
  d__law_met : DefAt g mg 38 "_law_met" (top 38)
  d_law : DefAtL g mg 39 "law" (top 39) cc
  tabB : LamX.TabB base mg cc Pt
  hmT : (Pt, q_law) ∈ g.T
  huT : ∀ p ∈ g.T, p.1 = Pt → p.2 = q_law
/-! is_between -/
def f_is_between : Env → RS := (sRet (dAnd (dCal isiD (dCons (dVar 0) (dCons (dC (.ty "int")) dNil))) (dAnd (dNot (dCal isiD (dCons (dVar 0) (dCons (dC (.ty "bool")) dNil)))) (dChain leD leD (dVar 1) (dVar 0) (dVar 2)))))
def F_is_between : List Slot → RF := fun ss => fin [] (f_is_between (startE 3 ss))
theorem dfn_is_between {g : G} {Pr : Program} {w : World} {mg : Str → Option Value} {base : Heap} {cc Pt : Addr} (c : Facts g Pr w mg base cc Pt) : Dfn g Pr w g.K mg base 1 "is_between" 3 [] F_is_between := by
  have ndN : (["thing", "low", "high"] : List Str).Nodup := by decide +kernel
  exact dfn_mk (st := st_is_between) (N := ["thing", "low", "high"]) (pn := ["thing", "low", "high"]) (mp := []) (fb := f_is_between) c.d_is_between ⟨rfl, rfl, rfl, ndN, rfl, by decide +kernel, by decide +kernel⟩ (fun _ _ _ _ _ _ us hl => match us, hl with | [_, _, _], _ => rfl) fun f cdv A outer s H E hr => (dss_one (ds_ret (de_and (de_callB call_isi (oc_isi rfl) rfl c.b_isinstance boot_isinstance (da_cons (de_var 0) (da_cons (de_ty rfl c.b_int boot_int) da_nil))) (de_and (de_not (de_callB call_isi (oc_isi rfl) rfl c.b_isinstance boot_isinstance (da_cons (de_var 0) (da_cons (de_ty rfl c.b_bool boot_bool) da_nil)))) (de_one (de_chain op_le op_le o2_rB0 o2_rB0 (de_var 1) (de_var 0) (de_var 2)))))))
/-! is_who -/
def f_is_who : Env → RS := (sRet (dOr (dBin isND (dVar 1) (dC .non)) (dCall F_is_between [none, none, none] (dCons (dVar 1) (dCons (dC (.int 0)) (dCons (dBin subD (dVar 0) (dC (.int 1))) dNil))))))
def F_is_who : List Slot → RF := fun ss => fin [] (f_is_who (startE 2 ss))
theorem dfn_is_who {g : G} {Pr : Program} {w : World} {mg : Str → Option Value} {base : Heap} {cc Pt : Addr} (c : Facts g Pr w mg base cc Pt) : Dfn g Pr w g.K mg base 2 "is_who" 2 [] F_is_who := by
  have ndN : (["walkers", "thing"] : List Str).Nodup := by decide +kernel
  exact dfn_mk (st := st_is_who) (N := ["walkers", "thing"]) (pn := ["walkers", "thing"]) (mp := []) (fb := f_is_who) c.d_is_who ⟨rfl, rfl, rfl, ndN, rfl, by decide +kernel, by decide +kernel⟩ (fun _ _ _ _ _ _ us hl => match us, hl with | [_, _], _ => rfl) fun f cdv A outer s H E hr => (dss_one (ds_ret (de_or (de_cmp op_isN o2_isN (de_var 1) de_non (nomark _)) (de_one (de_call ((dfn_is_between c).mono (by decide)) hr rfl (das_v (de_var 1) (das_v de_int (das_v (de_bin op_sub o2_sub (de_var 0) de_int) das_nil))))))))
/-! fits_came -/
def f_fits_came : Env → RS := (sRet (dAnd (dCall F_is_who [none, none] (dCons (dVar 0) (dCons (dVar 1) dNil))) (dCall F_is_between [none, none, none] (dCons (dVar 2) (dCons (dC (.int 1)) (dCons (dC (.int 4)) dNil))))))
def F_fits_came : List Slot → RF := fun ss => fin [] (f_fits_came (startE 3 ss))
theorem dfn_fits_came {g : G} {Pr : Program} {w : World} {mg : Str → Option Value} {base : Heap} {cc Pt : Addr} (c : Facts g Pr w mg base cc Pt) : Dfn g Pr w g.K mg base 3 "fits_came" 3 [] F_fits_came := by
  have ndN : (["walkers", "who", "top"] : List Str).Nodup := by decide +kernel
  exact dfn_mk (st := st_fits_came) (N := ["walkers", "who", "top"]) (pn := ["walkers", "who", "top"]) (mp := []) (fb := f_fits_came) c.d_fits_came ⟨rfl, rfl, rfl, ndN, rfl, by decide +kernel, by decide +kernel⟩ (fun _ _ _ _ _ _ us hl => match us, hl with | [_, _, _], _ => rfl) fun f cdv A outer s H E hr => (dss_one (ds_ret (de_and (de_call ((dfn_is_who c).mono (by decide)) hr rfl (das_v (de_var 0) (das_v (de_var 1) das_nil))) (de_one (de_call ((dfn_is_between c).mono (by decide)) hr rfl (das_v (de_var 2) (das_v de_int (das_v (de_gint rfl c.c_MOST_TOP) das_nil))))))))
/-! fits_round -/
def f_fits_round : Env → RS := (sRet (dAnd (dCall F_is_who [none, none] (dCons (dVar 0) (dCons (dVar 1) dNil))) (dCall F_is_between [none, none, none] (dCons (dVar 2) (dCons (dC (.int 2)) (dCons (dC (.int 4)) dNil))))))
def F_fits_round : List Slot → RF := fun ss => fin [] (f_fits_round (startE 3 ss))
theorem dfn_fits_round {g : G} {Pr : Program} {w : World} {mg : Str → Option Value} {base : Heap} {cc Pt : Addr} (c : Facts g Pr w mg base cc Pt) : Dfn g Pr w g.K mg base 3 "fits_round" 3 [] F_fits_round := by
  have ndN : (["walkers", "who", "by"] : List Str).Nodup := by decide +kernel
  exact dfn_mk (st := st_fits_round) (N := ["walkers", "who", "by"]) (pn := ["walkers", "who", "by"]) (mp := []) (fb := f_fits_round) c.d_fits_round ⟨rfl, rfl, rfl, ndN, rfl, by decide +kernel, by decide +kernel⟩ (fun _ _ _ _ _ _ us hl => match us, hl with | [_, _, _], _ => rfl) fun f cdv A outer s H E hr => (dss_one (ds_ret (de_and (de_call ((dfn_is_who c).mono (by decide)) hr rfl (das_v (de_var 0) (das_v (de_var 1) das_nil))) (de_one (de_call ((dfn_is_between c).mono (by decide)) hr rfl (das_v (de_var 2) (das_v (de_gint rfl c.c_LEAST_BY) (das_v (de_gint rfl c.c_MOST_TOP) das_nil))))))))
/-! fits_since -/
def f_fits_since : Env → RS := (sRet (dAnd (dCall F_is_between [none, none, none] (dCons (dVar 1) (dCons (dC (.int 0)) (dCons (dBin subD (dVar 0) (dC (.int 1))) dNil)))) (dAnd (dCall F_is_between [none, none, none] (dCons (dVar 2) (dCons (dC (.int 0)) (dCons (dBin subD (dVar 0) (dC (.int 1))) dNil)))) (dBin neS (dVar 1) (dVar 2)))))
def F_fits_since : List Slot → RF := fun ss => fin [] (f_fits_since (startE 3 ss))
theorem dfn_fits_since {g : G} {Pr : Program} {w : World} {mg : Str → Option Value} {base : Heap} {cc Pt : Addr} (c : Facts g Pr w mg base cc Pt) : Dfn g Pr w g.K mg base 2 "fits_since" 3 [] F_fits_since := by
  have ndN : (["walkers", "one", "other"] : List Str).Nodup := by decide +kernel
  exact dfn_mk (st := st_fits_since) (N := ["walkers", "one", "other"]) (pn := ["walkers", "one", "other"]) (mp := []) (fb := f_fits_since) c.d_fits_since ⟨rfl, rfl, rfl, ndN, rfl, by decide +kernel, by decide +kernel⟩ (fun _ _ _ _ _ _ us hl => match us, hl with | [_, _, _], _ => rfl) fun f cdv A outer s H E hr => (dss_one (ds_ret (de_and (de_call ((dfn_is_between c).mono (by decide)) hr rfl (das_v (de_var 1) (das_v de_int (das_v (de_bin op_sub o2_sub (de_var 0) de_int) das_nil)))) (de_and (de_call ((dfn_is_between c).mono (by decide)) hr rfl (das_v (de_var 2) (das_v de_int (das_v (de_bin op_sub o2_sub (de_var 0) de_int) das_nil)))) (de_one (de_cmp (op_neS (u64 hr)) (o2_neS rfl) (de_var 1) (de_var 2) (nomark _)))))))
def held_PAIRS : Nat → Option (List Slot → RF) := fun n => if n = 17 then some F_fits_came else if n = 18 then some F_fits_round else if n = 19 then some F_fits_since else none
theorem held_PAIRS_ok {g : G} {Pr : Program} {w : World} {mg : Str → Option Value} {base : Heap} {cc Pt : Addr} (c : Facts g Pr w mg base cc Pt) (n : Nat) (F : List Slot → RF) (h : held_PAIRS n = some F) : Hfn g Pr w g.K mg base 3 n 3 [] F := by
  unfold held_PAIRS at h
  split at h
  · rename_i e; cases h; subst e; exact hfn_of c.d_fits_came ((dfn_fits_came c).mono (by decide))
  split at h
  · rename_i e; cases h; subst e; exact hfn_of c.d_fits_round ((dfn_fits_round c).mono (by decide))
  split at h
  · rename_i e; cases h; subst e; exact hfn_of c.d_fits_since ((dfn_fits_since c).mono (by decide))
  cases h
/-! is_note_of -/
def f_is_note_of : Env → RS := (sSeq (sIf (bOr (bNot (dTruth (dCal isiD (dCons (dVar 1) (dCons (dC (.ty "tuple")) dNil))))) (bOr (dTest (dBin eqS (dVar 1) (dTup dNil))) (bNot (dTruth (dCal isiD (dCons (dBin ixD (dVar 1) (dC (.int 0))) (dCons (dC (.ty "str")) dNil))))))) (sRet (dC (.bl false))) sNx) (sSeq (sAsg (dVar 1) (gtStar 1 (gtCons (gtN 3) (gtCons (gtN 4) gtNil)))) (sSeq (sIf (dTest (dBin yesD (dVar 3) (dTup (dCons (dC (.str "last")) (dCons (dC (.str "first")) dNil))))) (sRet (dBin eqS (dVar 4) (dM (mLst dNil)))) sNx) (sSeq (sIf (dTest (dBin eqS (dVar 3) (dC (.str "here")))) (sRet (dAnd (dBin eqS (dCal (on1 lenD) (dCons (dVar 4) dNil)) (dC (.int 1))) (dCall F_is_who [none, none] (dCons (dVar 0) (dCons (dBin ixD (dVar 4) (dC (.int 0))) dNil))))) sNx) (sSeq (sIf (bOr (dTest (dUn (inT tab_PAIRS true) (dVar 3))) (dTest (dBin neS (dCal (on1 lenD) (dCons (dVar 4) dNil)) (dC (.int 2))))) (sRet (dC (.bl false))) sNx) (sSeq (sAsg (dUn (ixT tab_PAIRS) (dVar 3)) (gtN 2)) (sRet (dCallH 2 held_PAIRS [none, none, none] (dCons (dVar 0) (dCons (dBin ixD (dVar 4) (dC (.int 0))) (dCons (dBin ixD (dVar 4) (dC (.int 1))) dNil)))))))))))
def F_is_note_of : List Slot → RF := fun ss => fin [] (f_is_note_of (startE 5 ss))
theorem dfn_is_note_of {g : G} {Pr : Program} {w : World} {mg : Str → Option Value} {base : Heap} {cc Pt : Addr} (c : Facts g Pr w mg base cc Pt) : Dfn g Pr w g.K mg base 4 "is_note_of" 2 [] F_is_note_of := by
  have ndN : (["walkers", "thing", "fits", "word", "parts"] : List Str).Nodup := by decide +kernel
  obtain ⟨d_PAIRS, m_PAIRS, t_PAIRS⟩ := c.t_PAIRS
  exact dfn_mk (st := st_is_note_of) (N := ["walkers", "thing", "fits", "word", "parts"]) (pn := ["walkers", "thing"]) (mp := []) (fb := f_is_note_of) c.d_is_note_of ⟨rfl, rfl, rfl, ndN, rfl, by decide +kernel, by decide +kernel⟩ (fun _ _ _ _ _ _ us hl => match us, hl with | [_, _], _ => rfl) fun f cdv A outer s H E hr => (dss_cons (ds_if (db_w (dbw_or (db_not (db_truth rfl (fun _ => rfl) (de_callB call_isi (oc_isi rfl) rfl c.b_isinstance boot_isinstance (da_cons (de_var 1) (da_cons (de_ty rfl c.b_tuple boot_tuple) da_nil))))) (dbw_or (db_cmp (op_eqS (u64 hr)) (o2_eqS rfl) (de_var 1) (de_tup da_nil) (nomark _)) (dbw_or1 (db_not (db_truth rfl (fun _ => rfl) (de_callB call_isi (oc_isi rfl) rfl c.b_isinstance boot_isinstance (da_cons (de_ix rfl (u1 hr) (de_var 1) de_int) (da_cons (de_ty rfl c.b_str boot_str) da_nil))))))))) (dss_one (ds_ret de_bl)) dss_nil) (dss_cons (ds_asg (de_var 1) (dg_star rfl rfl (dgs_cons (dg_name 3 ndN) (dgs_star (dg_name 4 ndN) dgs_nil)))) (dss_cons (ds_if (db_cmp (op_inA (u1 hr)) (o2_in rfl) (de_var 3) (de_tup (da_cons de_str (da_cons de_str da_nil))) (by rfl)) (dss_one (ds_ret (de_cmp (op_eqS (u64 hr)) (o2_eqS rfl) (de_var 4) (de_m (dm_lst da_nil)) (nomark _)))) dss_nil) (dss_cons (ds_if (db_cmp (op_eqS (u64 hr)) (o2_eqS rfl) (de_var 3) de_str (nomark _)) (dss_one (ds_ret (de_and (de_cmp (op_eqS (u64 hr)) (o2_eqS rfl) (de_callB call_len (oc_len rfl) rfl c.b_len PySem.boot_len (da_cons (de_var 4) da_nil)) de_int (nomark _)) (de_one (de_call ((dfn_is_who c).mono (by decide)) hr rfl (das_v (de_var 0) (das_v (de_ix rfl (u1 hr) (de_var 4) de_int) das_nil))))))) dss_nil) (dss_cons (ds_if (db_w (dbw_or (db_notInT t_PAIRS rfl rfl m_PAIRS (de_var 3)) (dbw_or1 (db_cmp (op_neS (u64 hr)) (o2_neS rfl) (de_callB call_len (oc_len rfl) rfl c.b_len PySem.boot_len (da_cons (de_var 4) da_nil)) de_int (nomark _))))) (dss_one (ds_ret de_bl)) dss_nil) (dss_cons (ds_asg (de_ixT t_PAIRS rfl rfl m_PAIRS (de_var 3)) (dg_name 2 ndN)) (dss_one (ds_ret (de_callH 2 (fun n F h => (held_PAIRS_ok c n F h).mono (by decide)) hr (das_v (de_var 0) (das_v (de_ix rfl (u1 hr) (de_var 4) de_int) (das_v (de_ix rfl (u1 hr) (de_var 4) de_int) das_nil))))))))))))
/-! need_walkers -/
def f_need_walkers : Env → RS := (sIf (bNot (dTruth (dCall F_is_between [none, none, none] (dCons (dVar 0) (dCons (dC (.int 1)) (dCons (dC (.int 3)) dNil)))))) (sRaise1 10 "number" (dVar 0)) sNx)
def F_need_walkers : List Slot → RF := fun ss => fin [] (f_need_walkers (startE 1 ss))
theorem dfn_need_walkers {g : G} {Pr : Program} {w : World} {mg : Str → Option Value} {base : Heap} {cc Pt : Addr} (c : Facts g Pr w mg base cc Pt) : Dfn g Pr w g.K mg base 3 "need_walkers" 1 [] F_need_walkers := by
  have ndN : (["walkers"] : List Str).Nodup := by decide +kernel
  obtain ⟨d_PAIRS, m_PAIRS, t_PAIRS⟩ := c.t_PAIRS
  exact dfn_mk (st := st_need_walkers) (N := ["walkers"]) (pn := ["walkers"]) (mp := []) (fb := f_need_walkers) c.d_need_walkers ⟨rfl, rfl, rfl, ndN, rfl, by decide +kernel, by decide +kernel⟩ (fun _ _ _ _ _ _ us hl => match us, hl with | [_], _ => rfl) fun f cdv A outer s H E hr => (dss_one (ds_if (db_not (db_truth rfl (fun _ => rfl) (de_call ((dfn_is_between c).mono (by decide)) hr rfl (das_v (de_var 0) (das_v de_int (das_v (de_gint rfl c.c_MOST_WALKERS) das_nil)))))) (dss_one (ds_raise1 c.ef_NoNumber rfl rfl hr rfl c.e_NoNumber (de_var 0))) dss_nil))
/-! need_note -/
def f_need_note : Env → RS := (sSeq (sEx (dCall F_need_walkers [none] (dCons (dVar 0) dNil))) (sIf (bNot (dTruth (dCall F_is_note_of [none, none] (dCons (dVar 0) (dCons (dVar 1) dNil))))) (sRaise0 3) sNx))
def F_need_note : List Slot → RF := fun ss => fin [] (f_need_note (startE 2 ss))
theorem dfn_need_note {g : G} {Pr : Program} {w : World} {mg : Str → Option Value} {base : Heap} {cc Pt : Addr} (c : Facts g Pr w mg base cc Pt) : Dfn g Pr w g.K mg base 5 "need_note" 2 [] F_need_note := by
  have ndN : (["walkers", "note"] : List Str).Nodup := by decide +kernel
  obtain ⟨d_PAIRS, m_PAIRS, t_PAIRS⟩ := c.t_PAIRS
  exact dfn_mk (st := st_need_note) (N := ["walkers", "note"]) (pn := ["walkers", "note"]) (mp := []) (fb := f_need_note) c.d_need_note ⟨rfl, rfl, rfl, ndN, rfl, by decide +kernel, by decide +kernel⟩ (fun _ _ _ _ _ _ us hl => match us, hl with | [_, _], _ => rfl) fun f cdv A outer s H E hr => (dss_cons (ds_ex (de_call ((dfn_need_walkers c).mono (by decide)) hr rfl (das_v (de_var 0) das_nil))) (dss_one (ds_if (db_not (db_truth rfl (fun _ => rfl) (de_call ((dfn_is_note_of c).mono (by decide)) hr rfl (das_v (de_var 0) (das_v (de_var 1) das_nil))))) (dss_one (ds_raise0 c.ev_NoNote rfl rfl rfl c.e_NoNote)) dss_nil)))
/-! most_in -/
def f_most_in : Env → RS := (sSeq (sIf (dTest (dBin eqS (dBin ixD (dVar 1) (dC (.int 0))) (dC (.str "came")))) (sRet (dBin ixD (dVar 1) (dC (.int 2)))) sNx) (sSeq (sIf (dTest (dBin eqS (dBin ixD (dVar 1) (dC (.int 0))) (dC (.str "round")))) (sRet (dBin subD (dBin ixD (dVar 1) (dC (.int 2))) (dC (.int 1)))) sNx) (sSeq (sIf (bOr (dTest (dBin eqS (dBin ixD (dVar 1) (dC (.int 0))) (dC (.str "since")))) (bAnd (dTest (dBin eqS (dBin ixD (dVar 1) (dC (.int 0))) (dC (.str "here")))) (dTest (dBin notND (dBin ixD (dVar 1) (dC (.int 1))) (dC .non))))) (sRet (dC (.int 1))) sNx) (sRet (dVar 0)))))
def F_most_in : List Slot → RF := fun ss => fin [] (f_most_in (startE 2 ss))
theorem dfn_most_in {g : G} {Pr : Program} {w : World} {mg : Str → Option Value} {base : Heap} {cc Pt : Addr} (c : Facts g Pr w mg base cc Pt) : Dfn g Pr w g.K mg base 1 "most_in" 2 [] F_most_in := by
  have ndN : (["walkers", "note"] : List Str).Nodup := by decide +kernel
  obtain ⟨d_PAIRS, m_PAIRS, t_PAIRS⟩ := c.t_PAIRS
  exact dfn_mk (st := st_most_in) (N := ["walkers", "note"]) (pn := ["walkers", "note"]) (mp := []) (fb := f_most_in) c.d_most_in ⟨rfl, rfl, rfl, ndN, rfl, by decide +kernel, by decide +kernel⟩ (fun _ _ _ _ _ _ us hl => match us, hl with | [_, _], _ => rfl) fun f cdv A outer s H E hr => (dss_cons (ds_if (db_cmp (op_eqS (u64 hr)) (o2_eqS rfl) (de_ix rfl (u1 hr) (de_var 1) de_int) de_str (nomark _)) (dss_one (ds_ret (de_ix rfl (u1 hr) (de_var 1) de_int))) dss_nil) (dss_cons (ds_if (db_cmp (op_eqS (u64 hr)) (o2_eqS rfl) (de_ix rfl (u1 hr) (de_var 1) de_int) de_str (nomark _)) (dss_one (ds_ret (de_bin op_sub o2_sub (de_ix rfl (u1 hr) (de_var 1) de_int) de_int))) dss_nil) (dss_cons (ds_if (db_w (dbw_or (db_cmp (op_eqS (u64 hr)) (o2_eqS rfl) (de_ix rfl (u1 hr) (de_var 1) de_int) de_str (nomark _)) (dbw_or1 (db_w (dbw_and (db_cmp (op_eqS (u64 hr)) (o2_eqS rfl) (de_ix rfl (u1 hr) (de_var 1) de_int) de_str (nomark _)) (dbw_and1 (db_cmp op_notN o2_notN (de_ix rfl (u1 hr) (de_var 1) de_int) de_non (nomark _)))))))) (dss_one (ds_ret de_int)) dss_nil) (dss_one (ds_ret (de_var 0))))))
/-! is_note -/
def f_is_note : Env → RS := (sSeq (sEx (dCall F_need_walkers [none] (dCons (dVar 0) dNil))) (sRet (dCall F_is_note_of [none, none] (dCons (dVar 0) (dCons (dVar 1) dNil)))))
def F_is_note : List Slot → RF := fun ss => fin [] (f_is_note (startE 2 ss))
theorem dfn_is_note {g : G} {Pr : Program} {w : World} {mg : Str → Option Value} {base : Heap} {cc Pt : Addr} (c : Facts g Pr w mg base cc Pt) : Dfn g Pr w g.K mg base 5 "is_note" 2 [] F_is_note := by
  have ndN : (["walkers", "thing"] : List Str).Nodup := by decide +kernel
  obtain ⟨d_PAIRS, m_PAIRS, t_PAIRS⟩ := c.t_PAIRS
  exact dfn_mk (st := st_is_note) (N := ["walkers", "thing"]) (pn := ["walkers", "thing"]) (mp := []) (fb := f_is_note) c.d_is_note ⟨rfl, rfl, rfl, ndN, rfl, by decide +kernel, by decide +kernel⟩ (fun _ _ _ _ _ _ us hl => match us, hl with | [_, _], _ => rfl) fun f cdv A outer s H E hr => (dss_cons (ds_ex (de_call ((dfn_need_walkers c).mono (by decide)) hr rfl (das_v (de_var 0) das_nil))) (dss_one (ds_ret (de_call ((dfn_is_note_of c).mono (by decide)) hr rfl (das_v (de_var 0) (das_v (de_var 1) das_nil))))))
/-! most_of -/
def f_most_of : Env → RS := (sSeq (sEx (dCall F_need_note [none, none] (dCons (dVar 0) (dCons (dVar 1) dNil)))) (sRet (dCall F_most_in [none, none] (dCons (dVar 0) (dCons (dVar 1) dNil)))))
def F_most_of : List Slot → RF := fun ss => fin [] (f_most_of (startE 2 ss))
theorem dfn_most_of {g : G} {Pr : Program} {w : World} {mg : Str → Option Value} {base : Heap} {cc Pt : Addr} (c : Facts g Pr w mg base cc Pt) : Dfn g Pr w g.K mg base 6 "most_of" 2 [] F_most_of := by
  have ndN : (["walkers", "note"] : List Str).Nodup := by decide +kernel
  obtain ⟨d_PAIRS, m_PAIRS, t_PAIRS⟩ := c.t_PAIRS
  exact dfn_mk (st := st_most_of) (N := ["walkers", "note"]) (pn := ["walkers", "note"]) (mp := []) (fb := f_most_of) c.d_most_of ⟨rfl, rfl, rfl, ndN, rfl, by decide +kernel, by decide +kernel⟩ (fun _ _ _ _ _ _ us hl => match us, hl with | [_, _], _ => rfl) fun f cdv A outer s H E hr => (dss_cons (ds_ex (de_call ((dfn_need_note c).mono (by decide)) hr rfl (das_v (de_var 0) (das_v (de_var 1) das_nil)))) (dss_one (ds_ret (de_call ((dfn_most_in c).mono (by decide)) hr rfl (das_v (de_var 0) (das_v (de_var 1) das_nil))))))
/-! _law_pot -/
def f__law_pot : Env → RS := (sSeq (sAsg (dC (.int 0)) (gtN 2)) (sSeq (sIf (dTest (dBin ltD (dVar 1) (dCal (on1 lenD) (dCons (dVar 0) dNil)))) (sAsg (dBin modD (dCal (on1 absD) (dCons (dBin ixD (dVar 0) (dVar 1)) dNil)) (dBin powD (dBin powD (dC (.int 10)) (dC (.int 60))) (dC (.int 14)))) (gtN 2)) sNx) (sSeq (sAsg (dBin modD (dBin powD (dBin addD (dBin addD (dBin modD (dVar 2) (dC (.int 2147483629))) (dBin mulD (dC (.int 7919)) (dVar 1))) (dC (.int 1))) (dC (.int 5))) (dC (.int 2305843009213693951))) (gtN 3)) (sRetM (mLst (dCons (dBin mulD (dVar 2) (dCal (on1 intD) (dCons (dBin geD (dVar 2) (dBin powD (dC (.int 10)) (dC (.int 18)))) dNil))) (dCons (dVar 3) (dCons (dC (.int 0)) dNil))))))))
def F__law_pot : List Slot → RF := fun ss => fin [] (f__law_pot (startE 4 ss))
theorem dfn__law_pot {g : G} {Pr : Program} {w : World} {mg : Str → Option Value} {base : Heap} {cc Pt : Addr} (c : Facts g Pr w mg base cc Pt) : Dfn g Pr w g.K mg base 1 "_law_pot" 2 [] F__law_pot := by
  have ndN : (["_law_script", "_law_k", "_law_cell", "_law_mixed"] : List Str).Nodup := by decide +kernel
  obtain ⟨d_PAIRS, m_PAIRS, t_PAIRS⟩ := c.t_PAIRS
  exact dfn_mk (st := st__law_pot) (N := ["_law_script", "_law_k", "_law_cell", "_law_mixed"]) (pn := ["_law_script", "_law_k"]) (mp := []) (fb := f__law_pot) c.d__law_pot ⟨rfl, rfl, rfl, ndN, rfl, by decide +kernel, by decide +kernel⟩ (fun _ _ _ _ _ _ us hl => match us, hl with | [_, _], _ => rfl) fun f cdv A outer s H E hr => (dss_cons (ds_asg de_int (dg_name 2 ndN)) (dss_cons (ds_if (db_cmp op_lt o2_rB0 (de_var 1) (de_callB call_len (oc_len rfl) rfl c.b_len PySem.boot_len (da_cons (de_var 0) da_nil)) (nomark _)) (dss_one (ds_asg (de_bin op_mod o2_mod (de_callB call_abs oc_abs rfl c.b_abs boot_abs (da_cons (de_ix rfl (u1 hr) (de_var 0) (de_var 1)) da_nil)) (de_bin op_powX o2_pow (de_bin op_powX o2_pow de_int de_int) de_int)) (dg_name 2 ndN))) dss_nil) (dss_cons (ds_asg (de_bin op_mod o2_mod (de_bin op_powX o2_pow (de_bin op_addX (o2_add rfl) (de_bin op_addX (o2_add rfl) (de_bin op_mod o2_mod (de_var 2) de_int) (de_bin op_mulX o2_mul de_int (de_var 1))) de_int) de_int) de_int) (dg_name 3 ndN)) (dss_one (ds_retM (dm_lst (da_cons (de_bin op_mulX o2_mul (de_var 2) (de_callTy call_int1 oc_int rfl c.b_int boot_int (da_cons (de_cmp op_ge o2_rB0 (de_var 2) (de_bin op_powX o2_pow de_int de_int) (nomark _)) da_nil))) (da_cons (de_var 3) (da_cons de_int da_nil)))))))))
/-! _law_take -/
def f__law_take : Env → RS := (sSeq (sIf (dTest (dBin gtD (dIxM 0 (dC (.int 0))) (dC (.int 0)))) (sSeq (sAsg (dBin modD (dIxM 0 (dC (.int 0))) (dVar 1)) (gtN 4)) (sSeq (sSetM 0 (dC (.int 0)) (dBin fdivD (dIxM 0 (dC (.int 0))) (dVar 1))) (sRet (dVar 4)))) sNx) (sSeq (sSetM 0 (dC (.int 2)) (dBin addD (dIxM 0 (dC (.int 2))) (dC (.int 1)))) (sSeq (sAsg (dBin modD (dBin powD (dBin addD (dIxM 0 (dC (.int 1))) (dBin mulD (dC (.int 104729)) (dIxM 0 (dC (.int 2))))) (dC (.int 3))) (dC (.int 2305843009213693921))) (gtN 2)) (sSeq (sAsg (dBin modD (dBin powD (dBin addD (dBin addD (dVar 2) (dBin modD (dIxM 0 (dC (.int 1))) (dC (.int 65537)))) (dBin mulD (dC (.int 31)) (dIxM 0 (dC (.int 2))))) (dC (.int 5))) (dC (.int 2305843009213693907))) (gtN 3)) (sRet (dBin modD (dBin fdivD (dVar 3) (dC (.int 1024))) (dVar 1)))))))
def F__law_take : List Slot → RF := fun ss => fin [0] (f__law_take (startE 5 ss))
theorem dfn__law_take {g : G} {Pr : Program} {w : World} {mg : Str → Option Value} {base : Heap} {cc Pt : Addr} (c : Facts g Pr w mg base cc Pt) : Dfn g Pr w g.K mg base 1 "_law_take" 2 [0] F__law_take := by
  have ndN : (["_law_pot_here", "_law_many", "_law_one", "_law_other", "_law_found"] : List Str).Nodup := by decide +kernel
  obtain ⟨d_PAIRS, m_PAIRS, t_PAIRS⟩ := c.t_PAIRS
  exact dfn_mk (st := st__law_take) (N := ["_law_pot_here", "_law_many", "_law_one", "_law_other", "_law_found"]) (pn := ["_law_pot_here", "_law_many"]) (mp := [0]) (fb := f__law_take) c.d__law_take ⟨rfl, rfl, rfl, ndN, rfl, by decide +kernel, by decide +kernel⟩ (fun _ _ _ _ _ _ us hl => match us, hl with | [_, _], _ => rfl) fun f cdv A outer s H E hr => (dss_cons (ds_if (db_cmp op_gt o2_rB0 (de_ixM 0 de_int) de_int (nomark _)) (dss_cons (ds_asg (de_bin op_mod o2_mod (de_ixM 0 de_int) (de_var 1)) (dg_name 4 ndN)) (dss_cons (ds_setM 0 de_int (de_bin op_fdivW o2_fdiv (de_ixM 0 de_int) (de_var 1))) (dss_one (ds_ret (de_var 4))))) dss_nil) (dss_cons (ds_setM 0 de_int (de_bin op_addX (o2_add rfl) (de_ixM 0 de_int) de_int)) (dss_cons (ds_asg (de_bin op_mod o2_mod (de_bin op_powX o2_pow (de_bin op_addX (o2_add rfl) (de_ixM 0 de_int) (de_bin op_mulX o2_mul de_int (de_ixM 0 de_int))) de_int) de_int) (dg_name 2 ndN)) (dss_cons (ds_asg (de_bin op_mod o2_mod (de_bin op_powX o2_pow (de_bin op_addX (o2_add rfl) (de_bin op_addX (o2_add rfl) (de_var 2) (de_bin op_mod o2_mod (de_ixM 0 de_int) de_int)) (de_bin op_mulX o2_mul de_int (de_ixM 0 de_int))) de_int) de_int) (dg_name 3 ndN)) (dss_one (ds_ret (de_bin op_mod o2_mod (de_bin op_fdivW o2_fdiv (de_var 3) de_int) (de_var 1))))))))
/-! _law_folded -/
def f__law_folded : Env → RS := (sSeq (sAsgM 2 (mList (dSl (dVar 0) pNo (pSome (dVar 1))))) (sSeq (sFor (iRange2 (dVar 1) (dCal (on2 min2D) (dCons (dC (.int 63)) (dCons (dCal (on1 lenD) (dCons (dVar 0) dNil)) dNil)))) (gtN 3) (sSetM 2 (dBin modD (dVar 3) (dVar 1)) (dBin addD (dBin mulD (dIxM 2 (dBin modD (dVar 3) (dVar 1))) (dC (.int 31))) (dBin ixD (dVar 0) (dVar 3))))) (sRet (dFrz 2))))
def F__law_folded : List Slot → RF := fun ss => fin [] (f__law_folded (startE 4 ss))
theorem dfn__law_folded {g : G} {Pr : Program} {w : World} {mg : Str → Option Value} {base : Heap} {cc Pt : Addr} (c : Facts g Pr w mg base cc Pt) : Dfn g Pr w g.K mg base 1 "_law_folded" 2 [] F__law_folded := by
  have ndN : (["_law_script", "_law_most_here", "_law_found", "_law_k"] : List Str).Nodup := by decide +kernel
  obtain ⟨d_PAIRS, m_PAIRS, t_PAIRS⟩ := c.t_PAIRS
  exact dfn_mk (st := st__law_folded) (N := ["_law_script", "_law_most_here", "_law_found", "_law_k"]) (pn := ["_law_script", "_law_most_here"]) (mp := []) (fb := f__law_folded) c.d__law_folded ⟨rfl, rfl, rfl, ndN, rfl, by decide +kernel, by decide +kernel⟩ (fun _ _ _ _ _ _ us hl => match us, hl with | [_, _], _ => rfl) fun f cdv A outer s H E hr => (dss_cons (ds_asgM 2 ndN (dm_list rfl (by rfl) c.b_list (de_sl rfl (de_var 0) do_none (do_some (de_var 1))))) (dss_cons (ds_for po_cx rfl (di_range2 rfl c.b_range (de_var 1) (de_callB (call_min2 rfl) oc_min2 rfl c.b_min boot_min (da_cons de_int (da_cons (de_callB call_len (oc_len rfl) rfl c.b_len PySem.boot_len (da_cons (de_var 0) da_nil)) da_nil)))) (dg_name 3 ndN) (dss_one (ds_setM 2 (de_bin op_mod o2_mod (de_var 3) (de_var 1)) (de_bin op_addX (o2_add rfl) (de_bin op_mulX o2_mul (de_ixM 2 (de_bin op_mod o2_mod (de_var 3) (de_var 1))) de_int) (de_ix rfl (u1 hr) (de_var 0) (de_var 3)))))) (dss_one (ds_ret (de_frz 2)))))
/-! _law_note -/
def f__law_note : Env → RS := (sSeq (sAsg (dBin ixD (dM (mLst (dCons (dC .non) (dCons (dCall F__law_take [some 0, none] (dMk 0 (dCons (dVar 1) dNil))) (dCons (dCall F__law_take [some 0, none] (dMk 0 (dCons (dVar 1) dNil))) dNil))))) (dCall F__law_take [some 0, none] (dMk 0 (dCons (dC (.int 3)) dNil)))) (gtN 2)) (sSeq (sAsg (dCall F__law_take [some 0, none] (dMk 0 (dCons (dC (.int 9)) dNil))) (gtN 3)) (sSeq (sIf (bAnd (dTest (dBin gtD (dVar 3) (dC (.int 6)))) (dTest (dBin gtD (dVar 1) (dC (.int 1))))) (sSeq (sAsg (dCall F__law_take [some 0, none] (dMk 0 (dCons (dVar 1) dNil))) (gtN 4)) (sRet (dTup (dCons (dC (.str "since")) (dCons (dVar 4) (dCons (dBin modD (dBin addD (dBin addD (dVar 4) (dC (.int 1))) (dCall F__law_take [some 0, none] (dMk 0 (dCons (dBin subD (dVar 1) (dC (.int 1))) dNil)))) (dVar 1)) dNil)))))) sNx) (sSeq (sIf (dTest (dBin yesD (dVar 3) (dTup (dCons (dC (.int 3)) (dCons (dC (.int 4)) dNil))))) (sRet (dTup (dCons (dC (.str "round")) (dCons (dVar 2) (dCons (dBin addD (dC (.int 2)) (dCall F__law_take [some 0, none] (dMk 0 (dCons (dC (.int 3)) dNil)))) dNil))))) sNx) (sSeq (sIf (dTest (dBin eqS (dVar 3) (dC (.int 5)))) (sRet (dTup (dCons (dC (.str "here")) (dCons (dVar 2) dNil)))) sNx) (sRet (dIf (dTest (dBin yesD (dVar 3) (dTup (dCons (dC (.int 1)) (dCons (dC (.int 2)) dNil))))) (dBin ixD (dM (mLst (dCons (dTup (dCons (dC (.str "last")) dNil)) (dCons (dTup (dCons (dC (.str "first")) dNil)) dNil)))) (dBin subD (dVar 3) (dC (.int 1)))) (dTup (dCons (dC (.str "came")) (dCons (dVar 2) (dCons (dBin addD (dC (.int 1)) (dCall F__law_take [some 0, none] (dMk 0 (dCons (dC (.int 4)) dNil)))) dNil)))))))))))
def F__law_note : List Slot → RF := fun ss => fin [0] (f__law_note (startE 5 ss))
theorem dfn__law_note {g : G} {Pr : Program} {w : World} {mg : Str → Option Value} {base : Heap} {cc Pt : Addr} (c : Facts g Pr w mg base cc Pt) : Dfn g Pr w g.K mg base 2 "_law_note" 2 [0] F__law_note := by
  have ndN : (["_law_pot_here", "_law_walkers", "_law_who", "_law_way", "_law_one"] : List Str).Nodup := by decide +kernel
  obtain ⟨d_PAIRS, m_PAIRS, t_PAIRS⟩ := c.t_PAIRS
  exact dfn_mk (st := st__law_note) (N := ["_law_pot_here", "_law_walkers", "_law_who", "_law_way", "_law_one"]) (pn := ["_law_pot_here", "_law_walkers"]) (mp := [0]) (fb := f__law_note) c.d__law_note ⟨rfl, rfl, rfl, ndN, rfl, by decide +kernel, by decide +kernel⟩ (fun _ _ _ _ _ _ us hl => match us, hl with | [_, _], _ => rfl) fun f cdv A outer s H E hr => (dss_cons (ds_asg (de_ix rfl (u1 hr) (de_m (dm_lst (da_cons de_non (da_cons (de_call ((dfn__law_take c).mono (by decide)) hr rfl (das_m 0 (das_v (de_var 1) das_nil))) (da_cons (de_call ((dfn__law_take c).mono (by decide)) hr rfl (das_m 0 (das_v (de_var 1) das_nil))) da_nil))))) (de_call ((dfn__law_take c).mono (by decide)) hr rfl (das_m 0 (das_v de_int das_nil)))) (dg_name 2 ndN)) (dss_cons (ds_asg (de_call ((dfn__law_take c).mono (by decide)) hr rfl (das_m 0 (das_v de_int das_nil))) (dg_name 3 ndN)) (dss_cons (ds_if (db_w (dbw_and (db_cmp op_gt o2_rB0 (de_var 3) de_int (nomark _)) (dbw_and1 (db_cmp op_gt o2_rB0 (de_var 1) de_int (nomark _))))) (dss_cons (ds_asg (de_call ((dfn__law_take c).mono (by decide)) hr rfl (das_m 0 (das_v (de_var 1) das_nil))) (dg_name 4 ndN)) (dss_one (ds_ret (de_tup (da_cons de_str (da_cons (de_var 4) (da_cons (de_bin op_mod o2_mod (de_bin op_addX (o2_add rfl) (de_bin op_addX (o2_add rfl) (de_var 4) de_int) (de_call ((dfn__law_take c).mono (by decide)) hr rfl (das_m 0 (das_v (de_bin op_sub o2_sub (de_var 1) de_int) das_nil)))) (de_var 1)) da_nil))))))) dss_nil) (dss_cons (ds_if (db_cmp (op_inA (u1 hr)) (o2_in rfl) (de_var 3) (de_tup (da_cons de_int (da_cons de_int da_nil))) (by rfl)) (dss_one (ds_ret (de_tup (da_cons de_str (da_cons (de_var 2) (da_cons (de_bin op_addX (o2_add rfl) de_int (de_call ((dfn__law_take c).mono (by decide)) hr rfl (das_m 0 (das_v de_int das_nil)))) da_nil)))))) dss_nil) (dss_cons (ds_if (db_cmp (op_eqS (u64 hr)) (o2_eqS rfl) (de_var 3) de_int (nomark _)) (dss_one (ds_ret (de_tup (da_cons de_str (da_cons (de_var 2) da_nil))))) dss_nil) (dss_one (ds_ret (de_ifExp (db_cmp (op_inA (u1 hr)) (o2_in rfl) (de_var 3) (de_tup (da_cons de_int (da_cons de_int da_nil))) (by rfl)) (de_ix rfl (u1 hr) (de_m (dm_lst (da_cons (de_tup (da_cons de_str da_nil)) (da_cons (de_tup (da_cons de_str da_nil)) da_nil)))) (de_bin op_sub o2_sub (de_var 3) de_int)) (de_tup (da_cons de_str (da_cons (de_var 2) (da_cons (de_bin op_addX (o2_add rfl) de_int (de_call ((dfn__law_take c).mono (by decide)) hr rfl (das_m 0 (das_v de_int das_nil)))) da_nil))))))))))))
/-! _law_most -/
def f__law_most : Env → RS := (sSeq (sIf (dTest (dBin yesD (dBin ixD (dVar 1) (dC (.int 0))) (dTup (dCons (dC (.str "came")) (dCons (dC (.str "round")) dNil))))) (sRet (dBin subD (dBin ixD (dVar 1) (dC (.int 2))) (dCal (on1 intD) (dCons (dBin eqS (dBin ixD (dVar 1) (dC (.int 0))) (dC (.str "round"))) dNil)))) sNx) (sSeq (sIf (bOr (dTest (dBin eqS (dBin ixD (dVar 1) (dC (.int 0))) (dC (.str "since")))) (bAnd (dTest (dBin eqS (dBin ixD (dVar 1) (dC (.int 0))) (dC (.str "here")))) (dTest (dBin notND (dBin ixD (dVar 1) (dC (.int 1))) (dC .non))))) (sRet (dC (.int 1))) sNx) (sRet (dVar 0))))
def F__law_most : List Slot → RF := fun ss => fin [] (f__law_most (startE 2 ss))
theorem dfn__law_most {g : G} {Pr : Program} {w : World} {mg : Str → Option Value} {base : Heap} {cc Pt : Addr} (c : Facts g Pr w mg base cc Pt) : Dfn g Pr w g.K mg base 1 "_law_most" 2 [] F__law_most := by
  have ndN : (["_law_walkers", "_law_note_here"] : List Str).Nodup := by decide +kernel
  obtain ⟨d_PAIRS, m_PAIRS, t_PAIRS⟩ := c.t_PAIRS
  exact dfn_mk (st := st__law_most) (N := ["_law_walkers", "_law_note_here"]) (pn := ["_law_walkers", "_law_note_here"]) (mp := []) (fb := f__law_most) c.d__law_most ⟨rfl, rfl, rfl, ndN, rfl, by decide +kernel, by decide +kernel⟩ (fun _ _ _ _ _ _ us hl => match us, hl with | [_, _], _ => rfl) fun f cdv A outer s H E hr => (dss_cons (ds_if (db_cmp (op_inA (u1 hr)) (o2_in rfl) (de_ix rfl (u1 hr) (de_var 1) de_int) (de_tup (da_cons de_str (da_cons de_str da_nil))) (by rfl)) (dss_one (ds_ret (de_bin op_sub o2_sub (de_ix rfl (u1 hr) (de_var 1) de_int) (de_callTy call_int1 oc_int rfl c.b_int boot_int (da_cons (de_cmp (op_eqS (u64 hr)) (o2_eqS rfl) (de_ix rfl (u1 hr) (de_var 1) de_int) de_str (nomark _)) da_nil))))) dss_nil) (dss_cons (ds_if (db_w (dbw_or (db_cmp (op_eqS (u64 hr)) (o2_eqS rfl) (de_ix rfl (u1 hr) (de_var 1) de_int) de_str (nomark _)) (dbw_or1 (db_w (dbw_and (db_cmp (op_eqS (u64 hr)) (o2_eqS rfl) (de_ix rfl (u1 hr) (de_var 1) de_int) de_str (nomark _)) (dbw_and1 (db_cmp op_notN o2_notN (de_ix rfl (u1 hr) (de_var 1) de_int) de_non (nomark _)))))))) (dss_one (ds_ret de_int)) dss_nil) (dss_one (ds_ret (de_var 0)))))
/-! _law_within -/
def f__law_within : Env → RS := (sRet (dAnd (dCal isiD (dCons (dVar 0) (dCons (dC (.ty "int")) dNil))) (dAnd (dNot (dCal isiD (dCons (dVar 0) (dCons (dC (.ty "bool")) dNil)))) (dChain leD leD (dVar 1) (dVar 0) (dVar 2)))))
def F__law_within : List Slot → RF := fun ss => fin [] (f__law_within (startE 3 ss))
theorem dfn__law_within {g : G} {Pr : Program} {w : World} {mg : Str → Option Value} {base : Heap} {cc Pt : Addr} (c : Facts g Pr w mg base cc Pt) : Dfn g Pr w g.K mg base 1 "_law_within" 3 [] F__law_within := by
  have ndN : (["_law_thing", "_law_low", "_law_high"] : List Str).Nodup := by decide +kernel
  obtain ⟨d_PAIRS, m_PAIRS, t_PAIRS⟩ := c.t_PAIRS
  exact dfn_mk (st := st__law_within) (N := ["_law_thing", "_law_low", "_law_high"]) (pn := ["_law_thing", "_law_low", "_law_high"]) (mp := []) (fb := f__law_within) c.d__law_within ⟨rfl, rfl, rfl, ndN, rfl, by decide +kernel, by decide +kernel⟩ (fun _ _ _ _ _ _ us hl => match us, hl with | [_, _, _], _ => rfl) fun f cdv A outer s H E hr => (dss_one (ds_ret (de_and (de_callB call_isi (oc_isi rfl) rfl c.b_isinstance boot_isinstance (da_cons (de_var 0) (da_cons (de_ty rfl c.b_int boot_int) da_nil))) (de_and (de_not (de_callB call_isi (oc_isi rfl) rfl c.b_isinstance boot_isinstance (da_cons (de_var 0) (da_cons (de_ty rfl c.b_bool boot_bool) da_nil)))) (de_one (de_chain op_le op_le o2_rB0 o2_rB0 (de_var 1) (de_var 0) (de_var 2)))))))
/-! _law_note_due -/
def f__law_note_due : Env → RS := (sSeq (sIf (bOr (bNot (dTruth (dCal isiD (dCons (dVar 1) (dCons (dC (.ty "tuple")) dNil))))) (bOr (dTest (dBin eqS (dVar 1) (dTup dNil))) (bNot (dTruth (dCal isiD (dCons (dBin ixD (dVar 1) (dC (.int 0))) (dCons (dC (.ty "str")) dNil))))))) (sRet (dC (.bl false))) sNx) (sSeq (sAsg (dDisp [.inr "came", .inr "round", .inr "last", .inr "first", .inr "since", .inr "here"] (dCons (dC (.int 3)) (dCons (dC (.int 3)) (dCons (dC (.int 1)) (dCons (dC (.int 1)) (dCons (dC (.int 3)) (dCons (dC (.int 2)) dNil))))))) (gtN 2)) (sSeq (sAsg (dBin ixD (dVar 1) (dC (.int 0))) (gtN 3)) (sSeq (sIf (bOr (dTest (dBin noD (dVar 3) (dVar 2))) (dTest (dBin neS (dCal (on1 lenD) (dCons (dVar 1) dNil)) (dBin ixD (dVar 2) (dVar 3))))) (sRet (dC (.bl false))) sNx) (sSeq (sIf (dTest (dBin eqS (dCal (on1 lenD) (dCons (dVar 1) dNil)) (dC (.int 1)))) (sRet (dC (.bl true))) sNx) (sSeq (sAsg (dCall F__law_within [none, none, none] (dCons (dBin ixD (dVar 1) (dC (.int 1))) (dCons (dC (.int 0)) (dCons (dBin subD (dVar 0) (dC (.int 1))) dNil)))) (gtN 4)) (sSeq (sIf (dTest (dBin eqS (dVar 3) (dC (.str "since")))) (sRet (dAnd (dVar 4) (dAnd (dCall F__law_within [none, none, none] (dCons (dBin ixD (dVar 1) (dC (.int 2))) (dCons (dC (.int 0)) (dCons (dBin subD (dVar 0) (dC (.int 1))) dNil)))) (dBin neS (dBin ixD (dVar 1) (dC (.int 1))) (dBin ixD (dVar 1) (dC (.int 2))))))) sNx) (sSeq (sIf (bAnd (bNot (dTruth (dVar 4))) (dTest (dBin notND (dBin ixD (dVar 1) (dC (.int 1))) (dC .non)))) (sRet (dC (.bl false))) sNx) (sRet (dOr (dBin eqS (dVar 3) (dC (.str "here"))) (dCall F__law_within [none, none, none] (dCons (dBin ixD (dVar 1) (dC (.int 2))) (dCons (dBin addD (dC (.int 1)) (dCal (on1 intD) (dCons (dBin eqS (dVar 3) (dC (.str "round"))) dNil))) (dCons (dC (.int 4)) dNil))))))))))))))
def F__law_note_due : List Slot → RF := fun ss => fin [] (f__law_note_due (startE 5 ss))
theorem dfn__law_note_due {g : G} {Pr : Program} {w : World} {mg : Str → Option Value} {base : Heap} {cc Pt : Addr} (c : Facts g Pr w mg base cc Pt) : Dfn g Pr w g.K mg base 2 "_law_note_due" 2 [] F__law_note_due := by
  have ndN : (["_law_walkers", "_law_thing", "_law_sizes", "_law_word", "_law_walker"] : List Str).Nodup := by decide +kernel
  obtain ⟨d_PAIRS, m_PAIRS, t_PAIRS⟩ := c.t_PAIRS
  exact dfn_mk (st := st__law_note_due) (N := ["_law_walkers", "_law_thing", "_law_sizes", "_law_word", "_law_walker"]) (pn := ["_law_walkers", "_law_thing"]) (mp := []) (fb := f__law_note_due) c.d__law_note_due ⟨rfl, rfl, rfl, ndN, rfl, by decide +kernel, by decide +kernel⟩ (fun _ _ _ _ _ _ us hl => match us, hl with | [_, _], _ => rfl) fun f cdv A outer s H E hr => (dss_cons (ds_if (db_w (dbw_or (db_not (db_truth rfl (fun _ => rfl) (de_callB call_isi (oc_isi rfl) rfl c.b_isinstance boot_isinstance (da_cons (de_var 1) (da_cons (de_ty rfl c.b_tuple boot_tuple) da_nil))))) (dbw_or (db_cmp (op_eqS (u64 hr)) (o2_eqS rfl) (de_var 1) (de_tup da_nil) (nomark _)) (dbw_or1 (db_not (db_truth rfl (fun _ => rfl) (de_callB call_isi (oc_isi rfl) rfl c.b_isinstance boot_isinstance (da_cons (de_ix rfl (u1 hr) (de_var 1) de_int) (da_cons (de_ty rfl c.b_str boot_str) da_nil))))))))) (dss_one (ds_ret de_bl)) dss_nil) (dss_cons (ds_asg (de_disp (dps_str de_int (dps_str de_int (dps_str de_int (dps_str de_int (dps_str de_int (dps_str de_int dps_nil))))))) (dg_name 2 ndN)) (dss_cons (ds_asg (de_ix rfl (u1 hr) (de_var 1) de_int) (dg_name 3 ndN)) (dss_cons (ds_if (db_w (dbw_or (db_cmp (op_notInA (u1 hr)) (o2_notIn rfl) (de_var 3) (de_var 2) (by rfl)) (dbw_or1 (db_cmp (op_neS (u64 hr)) (o2_neS rfl) (de_callB call_len (oc_len rfl) rfl c.b_len PySem.boot_len (da_cons (de_var 1) da_nil)) (de_ix rfl (u1 hr) (de_var 2) (de_var 3)) (nomark _))))) (dss_one (ds_ret de_bl)) dss_nil) (dss_cons (ds_if (db_cmp (op_eqS (u64 hr)) (o2_eqS rfl) (de_callB call_len (oc_len rfl) rfl c.b_len PySem.boot_len (da_cons (de_var 1) da_nil)) de_int (nomark _)) (dss_one (ds_ret de_bl)) dss_nil) (dss_cons (ds_asg (de_call ((dfn__law_within c).mono (by decide)) hr rfl (das_v (de_ix rfl (u1 hr) (de_var 1) de_int) (das_v de_int (das_v (de_bin op_sub o2_sub (de_var 0) de_int) das_nil)))) (dg_name 4 ndN)) (dss_cons (ds_if (db_cmp (op_eqS (u64 hr)) (o2_eqS rfl) (de_var 3) de_str (nomark _)) (dss_one (ds_ret (de_and (de_var 4) (de_and (de_call ((dfn__law_within c).mono (by decide)) hr rfl (das_v (de_ix rfl (u1 hr) (de_var 1) de_int) (das_v de_int (das_v (de_bin op_sub o2_sub (de_var 0) de_int) das_nil)))) (de_one (de_cmp (op_neS (u64 hr)) (o2_neS rfl) (de_ix rfl (u1 hr) (de_var 1) de_int) (de_ix rfl (u1 hr) (de_var 1) de_int) (nomark _))))))) dss_nil) (dss_cons (ds_if (db_w (dbw_and (db_not (db_truth rfl (fun _ => rfl) (de_var 4))) (dbw_and1 (db_cmp op_notN o2_notN (de_ix rfl (u1 hr) (de_var 1) de_int) de_non (nomark _))))) (dss_one (ds_ret de_bl)) dss_nil) (dss_one (ds_ret (de_or (de_cmp (op_eqS (u64 hr)) (o2_eqS rfl) (de_var 3) de_str (nomark _)) (de_one (de_call ((dfn__law_within c).mono (by decide)) hr rfl (das_v (de_ix rfl (u1 hr) (de_var 1) de_int) (das_v (de_bin op_addX (o2_add rfl) de_int (de_callTy call_int1 oc_int rfl c.b_int boot_int (da_cons (de_cmp (op_eqS (u64 hr)) (o2_eqS rfl) (de_var 3) de_str (nomark _)) da_nil))) (das_v de_int das_nil))))))))))))))))
/-! _law_near -/
def f__law_near : Env → RS := (sSeq (sAsg (dBin ixD (dM (mLst (dCons (dC (.str "came")) (dCons (dC (.str "round")) (dCons (dC (.str "since")) (dCons (dC (.str "here")) (dCons (dC (.str "last")) (dCons (dC (.str "first")) (dCons (dC (.str "came")) (dCons (dC (.str "Came")) (dCons (dC (.str "")) dNil))))))))))) (dCall F__law_take [some 0, none] (dMk 0 (dCons (dC (.int 9)) dNil)))) (gtN 1)) (sSeq (sAsg (dM (mLst (dCons (dC .non) (dCons (dUn negD (dC (.int 1))) (dCons (dC (.int 0)) (dCons (dC (.int 1)) (dCons (dC (.int 2)) (dCons (dC (.int 3)) (dCons (dC (.int 4)) (dCons (dC (.int 5)) (dCons (dC (.bl true)) (dCons (dC (.bl false)) (dCons (dC (.str "1")) (dCons (dTup (dCons (dC (.int 0)) dNil)) dNil)))))))))))))) (gtN 2)) (sSeq (sAsg (dDisp [.inr "came", .inr "round", .inr "since", .inr "here", .inr "last", .inr "first"] (dCons (dC (.int 2)) (dCons (dC (.int 2)) (dCons (dC (.int 2)) (dCons (dC (.int 1)) (dCons (dC (.int 0)) (dCons (dC (.int 0)) dNil))))))) (gtN 3)) (sSeq (sAsg (dBin ixD (dM (mLst (dCons (dGet2 (dVar 3) (dVar 1) (dC (.int 2))) (dCons (dGet2 (dVar 3) (dVar 1) (dC (.int 2))) (dCons (dGet2 (dVar 3) (dVar 1) (dC (.int 2))) (dCons (dCall F__law_take [some 0, none] (dMk 0 (dCons (dC (.int 5)) dNil))) dNil)))))) (dCall F__law_take [some 0, none] (dMk 0 (dCons (dC (.int 4)) dNil)))) (gtN 4)) (sRet (dBin addD (dTup (dCons (dVar 1) dNil)) (dCal (on1 tupD) (dCons (dM (mComp [5] (iRange1 (dVar 4)) (gtN 5) bTrue (dBin ixD (dVar 2) (dCall F__law_take [some 0, none] (dMk 0 (dCons (dC (.int 12)) dNil)))))) dNil))))))))
def F__law_near : List Slot → RF := fun ss => fin [0] (f__law_near (startE 6 ss))
theorem dfn__law_near {g : G} {Pr : Program} {w : World} {mg : Str → Option Value} {base : Heap} {cc Pt : Addr} (c : Facts g Pr w mg base cc Pt) : Dfn g Pr w g.K mg base 2 "_law_near" 1 [0] F__law_near := by
  have ndN : (["_law_pot_here", "_law_word", "_law_some", "_law_sizes", "_law_many", "_law_turn"] : List Str).Nodup := by decide +kernel
  obtain ⟨d_PAIRS, m_PAIRS, t_PAIRS⟩ := c.t_PAIRS
  exact dfn_mk (st := st__law_near) (N := ["_law_pot_here", "_law_word", "_law_some", "_law_sizes", "_law_many", "_law_turn"]) (pn := ["_law_pot_here"]) (mp := [0]) (fb := f__law_near) c.d__law_near ⟨rfl, rfl, rfl, ndN, rfl, by decide +kernel, by decide +kernel⟩ (fun _ _ _ _ _ _ us hl => match us, hl with | [_], _ => rfl) fun f cdv A outer s H E hr => (dss_cons (ds_asg (de_ix rfl (u1 hr) (de_m (dm_lst (da_cons de_str (da_cons de_str (da_cons de_str (da_cons de_str (da_cons de_str (da_cons de_str (da_cons de_str (da_cons de_str (da_cons de_str da_nil))))))))))) (de_call ((dfn__law_take c).mono (by decide)) hr rfl (das_m 0 (das_v de_int das_nil)))) (dg_name 1 ndN)) (dss_cons (ds_asg (de_m (dm_lst (da_cons de_non (da_cons (de_un un_neg o1_neg de_int) (da_cons de_int (da_cons de_int (da_cons de_int (da_cons de_int (da_cons de_int (da_cons de_int (da_cons de_bl (da_cons de_bl (da_cons de_str (da_cons (de_tup (da_cons de_int da_nil)) da_nil)))))))))))))) (dg_name 2 ndN)) (dss_cons (ds_asg (de_disp (dps_str de_int (dps_str de_int (dps_str de_int (dps_str de_int (dps_str de_int (dps_str de_int dps_nil))))))) (dg_name 3 ndN)) (dss_cons (ds_asg (de_ix rfl (u1 hr) (de_m (dm_lst (da_cons (de_get2 (u1 hr) (de_var 3) (de_var 1) de_int) (da_cons (de_get2 (u1 hr) (de_var 3) (de_var 1) de_int) (da_cons (de_get2 (u1 hr) (de_var 3) (de_var 1) de_int) (da_cons (de_call ((dfn__law_take c).mono (by decide)) hr rfl (das_m 0 (das_v de_int das_nil))) da_nil)))))) (de_call ((dfn__law_take c).mono (by decide)) hr rfl (das_m 0 (das_v de_int das_nil)))) (dg_name 4 ndN)) (dss_one (ds_ret (de_bin op_addX (o2_add rfl) (de_tup (da_cons (de_var 1) da_nil)) (de_callTy call_tuple_of (oc_tup rfl) rfl c.b_tuple boot_tuple (da_cons (de_m (dm_comp (own := [("_law_turn", 5)]) ndN rfl (di_range1 rfl c.b_range (de_var 4)) (blkOk_by (by rfl)) (fun _ _ _ _ _ => (dg_name 5 ndN)) (fun _ _ _ _ _ => dts_nil) (fun _ _ _ _ _ => (de_ix rfl (u1 hr) (de_var 2) (de_call ((dfn__law_take c).mono (by decide)) hr rfl (das_m 0 (das_v de_int das_nil))))))) da_nil)))))))))
/-! _law_bent -/
def f__law_bent : Env → RS := (sSeq (sAsg (dCall F__law_take [some 0, none] (dMk 0 (dCons (dCal (on1 lenD) (dCons (dVar 1) dNil)) dNil))) (gtN 2)) (sSeq (sAsg (dBin ixD (dM (mLst (dCons (dC .non) (dCons (dC (.bl true)) (dCons (dUn negD (dC (.int 1))) (dCons (dC (.int 4)) (dCons (dC (.str "last")) (dCons (dTup dNil) (dCons (dM (mLst dNil)) (dCons (dBin powD (dC (.int 10)) (dC (.int 39))) dNil)))))))))) (dCall F__law_take [some 0, none] (dMk 0 (dCons (dC (.int 8)) dNil)))) (gtN 3)) (sSeq (sAsg (dM (mLst (dCons (dBin addD (dSl (dVar 1) pNo (pSome (dVar 2))) (dSl (dVar 1) (pSome (dBin addD (dVar 2) (dC (.int 1)))) pNo)) (dCons (dBin addD (dSl (dVar 1) pNo (pSome (dBin addD (dVar 2) (dC (.int 1))))) (dSl (dVar 1) (pSome (dVar 2)) pNo)) (dCons (dBin addD (dBin addD (dSl (dVar 1) pNo (pSome (dVar 2))) (dTup (dCons (dVar 3) dNil))) (dSl (dVar 1) (pSome (dBin addD (dVar 2) (dC (.int 1)))) pNo)) (dCons (dM (mList (dVar 1))) dNil)))))) (gtN 4)) (sRet (dBin ixD (dVar 4) (dCall F__law_take [some 0, none] (dMk 0 (dCons (dC (.int 4)) dNil))))))))
def F__law_bent : List Slot → RF := fun ss => fin [0] (f__law_bent (startE 5 ss))
theorem dfn__law_bent {g : G} {Pr : Program} {w : World} {mg : Str → Option Value} {base : Heap} {cc Pt : Addr} (c : Facts g Pr w mg base cc Pt) : Dfn g Pr w g.K mg base 2 "_law_bent" 2 [0] F__law_bent := by
  have ndN : (["_law_pot_here", "_law_note_here", "_law_at", "_law_odd_here", "_law_some"] : List Str).Nodup := by decide +kernel
  obtain ⟨d_PAIRS, m_PAIRS, t_PAIRS⟩ := c.t_PAIRS
  exact dfn_mk (st := st__law_bent) (N := ["_law_pot_here", "_law_note_here", "_law_at", "_law_odd_here", "_law_some"]) (pn := ["_law_pot_here", "_law_note_here"]) (mp := [0]) (fb := f__law_bent) c.d__law_bent ⟨rfl, rfl, rfl, ndN, rfl, by decide +kernel, by decide +kernel⟩ (fun _ _ _ _ _ _ us hl => match us, hl with | [_, _], _ => rfl) fun f cdv A outer s H E hr => (dss_cons (ds_asg (de_call ((dfn__law_take c).mono (by decide)) hr rfl (das_m 0 (das_v (de_callB call_len (oc_len rfl) rfl c.b_len PySem.boot_len (da_cons (de_var 1) da_nil)) das_nil))) (dg_name 2 ndN)) (dss_cons (ds_asg (de_ix rfl (u1 hr) (de_m (dm_lst (da_cons de_non (da_cons de_bl (da_cons (de_un un_neg o1_neg de_int) (da_cons de_int (da_cons de_str (da_cons (de_tup da_nil) (da_cons (de_m (dm_lst da_nil)) (da_cons (de_bin op_powX o2_pow de_int de_int) da_nil)))))))))) (de_call ((dfn__law_take c).mono (by decide)) hr rfl (das_m 0 (das_v de_int das_nil)))) (dg_name 3 ndN)) (dss_cons (ds_asg (de_m (dm_lst (da_cons (de_bin op_addX (o2_add rfl) (de_sl rfl (de_var 1) do_none (do_some (de_var 2))) (de_sl rfl (de_var 1) (do_some (de_bin op_addX (o2_add rfl) (de_var 2) de_int)) do_none)) (da_cons (de_bin op_addX (o2_add rfl) (de_sl rfl (de_var 1) do_none (do_some (de_bin op_addX (o2_add rfl) (de_var 2) de_int))) (de_sl rfl (de_var 1) (do_some (de_var 2)) do_none)) (da_cons (de_bin op_addX (o2_add rfl) (de_bin op_addX (o2_add rfl) (de_sl rfl (de_var 1) do_none (do_some (de_var 2))) (de_tup (da_cons (de_var 3) da_nil))) (de_sl rfl (de_var 1) (do_some (de_bin op_addX (o2_add rfl) (de_var 2) de_int)) do_none)) (da_cons (de_m (dm_list rfl (by rfl) c.b_list (de_var 1))) da_nil)))))) (dg_name 4 ndN)) (dss_one (ds_ret (de_ix rfl (u1 hr) (de_var 4) (de_call ((dfn__law_take c).mono (by decide)) hr rfl (das_m 0 (das_v de_int das_nil)))))))))
/-! _law_odd -/
def f__law_odd : Env → RS := (sSeq (sAsg (dM (mLst (dCons (dC .non) (dCons (dC (.bl true)) (dCons (dC (.int 0)) (dCons (dC (.str "last")) (dCons (dC (.str "")) (dCons (dM (mLst dNil)) (dCons dEmp (dCons (dTup dNil) (dCons (dTup (dCons (dTup dNil) dNil)) (dCons (dTup (dCons (dTup (dCons (dC (.str "last")) dNil)) dNil)) (dCons (dTup (dCons (dC .non) dNil)) (dCons (dTup (dCons (dC (.int 1)) (dCons (dC (.int 0)) (dCons (dC (.int 2)) dNil)))) (dCons (dM (mLst (dCons (dC (.str "last")) dNil))) (dCons (dBin powD (dC (.int 10)) (dC (.int 39))) dNil)))))))))))))))) (gtN 1)) (sRet (dBin ixD (dVar 1) (dCall F__law_take [some 0, none] (dMk 0 (dCons (dC (.int 14)) dNil))))))
def F__law_odd : List Slot → RF := fun ss => fin [0] (f__law_odd (startE 2 ss))
theorem dfn__law_odd {g : G} {Pr : Program} {w : World} {mg : Str → Option Value} {base : Heap} {cc Pt : Addr} (c : Facts g Pr w mg base cc Pt) : Dfn g Pr w g.K mg base 2 "_law_odd" 1 [0] F__law_odd := by
  have ndN : (["_law_pot_here", "_law_some"] : List Str).Nodup := by decide +kernel
  obtain ⟨d_PAIRS, m_PAIRS, t_PAIRS⟩ := c.t_PAIRS
  exact dfn_mk (st := st__law_odd) (N := ["_law_pot_here", "_law_some"]) (pn := ["_law_pot_here"]) (mp := [0]) (fb := f__law_odd) c.d__law_odd ⟨rfl, rfl, rfl, ndN, rfl, by decide +kernel, by decide +kernel⟩ (fun _ _ _ _ _ _ us hl => match us, hl with | [_], _ => rfl) fun f cdv A outer s H E hr => (dss_cons (ds_asg (de_m (dm_lst (da_cons de_non (da_cons de_bl (da_cons de_int (da_cons de_str (da_cons de_str (da_cons (de_m (dm_lst da_nil)) (da_cons de_emp (da_cons (de_tup da_nil) (da_cons (de_tup (da_cons (de_tup da_nil) da_nil)) (da_cons (de_tup (da_cons (de_tup (da_cons de_str da_nil)) da_nil)) (da_cons (de_tup (da_cons de_non da_nil)) (da_cons (de_tup (da_cons de_int (da_cons de_int (da_cons de_int da_nil)))) (da_cons (de_m (dm_lst (da_cons de_str da_nil))) (da_cons (de_bin op_powX o2_pow de_int de_int) da_nil)))))))))))))))) (dg_name 1 ndN)) (dss_one (ds_ret (de_ix rfl (u1 hr) (de_var 1) (de_call ((dfn__law_take c).mono (by decide)) hr rfl (das_m 0 (das_v de_int das_nil)))))))
/-! _law_met -/
def f__law_met : Env → RS := (sTry (sRetM (mLst (dCons (dC (.str "told")) (dCons (dAct 0) dNil)))) ((exr_RoomError, some 1, (sSeq (sAsg (dOr (dIsX 1 isr_4) (dNot (dIsX 1 isr_3))) (gtN 2)) (sRetM (mLst (dCons (dIf (bAnd (dTruth (dIsX 1 isr_5)) (bNot (dTruth (dVar 2)))) (dC (.str "note")) (dC (.str "odd"))) (dCons (dC .non) dNil)))))) :: ((exr_LackError, some 1, (sSeq (sAsg (dOr (dIsX 1 isr_1) (dNot (dIsX 1 isr_0))) (gtN 2)) (sRetM (mLst (dCons (dIf (bAnd (dTruth (dIsX 1 isr_2)) (bNot (dTruth (dVar 2)))) (dC (.str "number")) (dC (.str "odd"))) (dCons (dXf 1 "number" xfr_number) dNil)))))) :: [])))
theorem gives__law_met {g : G} {Pr : Program} {w : World} {mg : Str → Option Value} {base : Heap} {cc Pt : Addr} (c : Facts g Pr w mg base cc Pt) {N : List Str} {qual : Str} {scope : Scope} {f0 : Addr} {cd : Value} {A0 : Around} {outer0 : List PySem.Env} {s0 : Shared} {H0 : Hp} {E0 : XK} {gA : Addr} {cdg : Value} {j : Nat} {qq : Str} (hrX : Room (j + 1) (A0.deeper (envOfC qual scope s0.heap.objs.size f0 cd))) :
    DX.GivesT (cxOf (L2.CX Pr w) Pr w g.K mg base N qual scope f0 cd A0 outer0 s0 H0 E0) ["_law_call", "e", "_law_others"] "_law_met" (defScope st__law_met) gA cdg (defBody st__law_met) "_law_call" qq (TTm g 3 f__law_met) := by
  have ndN : (["_law_call", "e", "_law_others"] : List Str).Nodup := by decide +kernel
  refine gives_of (Ng := ["_law_call", "e", "_law_others"]) (fm := f__law_met) fun f c2 s H E tl act => ?_
  have hr := hrX.deeper (envOfC "_law_met" (defScope st__law_met) s.heap.objs.size gA cdg)
  obtain ⟨d_PAIRS, m_PAIRS, t_PAIRS⟩ := c.t_PAIRS
  exact (dss_one (ds_try rfl rfl rfl ndN (fun pn xe po => (dss_one (ds_retM (dm_lst (da_cons de_str (da_cons (de_act fun W tk => act W pn xe _ _ tk) da_nil)))))) (.consA rfl rfl (by decide) ⟨rfl, by decide, .inl c.e_RoomError⟩ c.exm_RoomError (fun a oe cls d pn hz hf => (dss_cons (ds_asg (de_or (de_isT 1 rfl hz hf rfl c.b_isinstance (cl_own rfl c.e_NoHouse (cl_own rfl c.e_NoRule (cl_own rfl c.e_NoMemory (cl_own rfl c.e_NoWalker cl_nil)))) (Nat.le_of_ble_eq_true rfl) c.is_4) (de_one (de_not (de_is1 1 rfl hz hf rfl c.b_isinstance (cl_ty rfl c.b_ValueError (by decide +kernel) cl_nil) c.is_3)))) (dg_name 2 ndN)) (dss_one (ds_retM (dm_lst (da_cons (de_ifExp (db_w (dbw_and (db_truth rfl (fun _ => rfl) (de_is1 1 rfl hz hf rfl c.b_isinstance (cl_own rfl c.e_NoNote cl_nil) c.is_5)) (dbw_and1 (db_not (db_truth rfl (fun _ => rfl) (de_var 2)))))) de_str de_str) (da_cons de_non da_nil))))))) (.consA rfl rfl (by decide) ⟨rfl, by decide, .inl c.e_LackError⟩ c.exm_LackError (fun a oe cls d pn hz hf => (dss_cons (ds_asg (de_or (de_isT 1 rfl hz hf rfl c.b_isinstance (cl_own rfl c.e_NoRoom (cl_own rfl c.e_NoDoor (cl_ty rfl c.b_ValueError (by decide +kernel) cl_nil))) (Nat.le_of_ble_eq_true rfl) c.is_1) (de_one (de_not (de_is1 1 rfl hz hf rfl c.b_isinstance (cl_ty rfl c.b_LookupError (by decide +kernel) cl_nil) c.is_0)))) (dg_name 2 ndN)) (dss_one (ds_retM (dm_lst (da_cons (de_ifExp (db_w (dbw_and (db_truth rfl (fun _ => rfl) (de_is1 1 rfl hz hf rfl c.b_isinstance (cl_own rfl c.e_NoNumber cl_nil) c.is_2)) (dbw_and1 (db_not (db_truth rfl (fun _ => rfl) (de_var 2)))))) de_str de_str) (da_cons (de_xf 1 rfl hz hf c.xf_number) da_nil))))))) .nil))))
/-! law -/
def f_law : Env → RS := (sSeq (sAsg (dCall F__law_folded [none, none] (dCons (dVar 0) (dCons (dC (.int 16)) dNil))) (gtN 1)) (sSeq (sFor (iRange1 (dCal (on2 max2D) (dCons (dC (.int 1)) (dCons (dCal (on1 lenD) (dCons (dVar 1) dNil)) dNil)))) (gtN 2) (sSeq (sAsgM 3 (mCall F__law_pot [none, none] (dCons (dVar 1) (dCons (dVar 2) dNil)))) (sSeq (sAsg (dBin addD (dC (.int 1)) (dCall F__law_take [some 3, none] (dMk 3 (dCons (dC (.int 3)) dNil)))) (gtN 4)) (sSeq (sAsg (dCall F__law_note [some 3, none] (dMk 3 (dCons (dVar 4) dNil))) (gtN 5)) (sSeq (sAsg (dM (mCat (dM (mLst (dCons (dVar 5) (dCons (dCall F__law_bent [some 3, none] (dMk 3 (dCons (dVar 5) dNil))) (dCons (dCall F__law_odd [some 3] (dMk 3 dNil)) dNil))))) (dM (mComp [12] (iRange1 (dC (.int 6))) (gtN 12) bTrue (dCall F__law_near [some 3] (dMk 3 dNil)))))) (gtN 6)) (sFor (iItems1 (dVar 6)) (gtN 7) (sSeq (sAsg (dCall F__law_note_due [none, none] (dCons (dVar 4) (dCons (dVar 7) dNil))) (gtN 8)) (sSeq (sAsg (dCall F_is_note [none, none] (dCons (dVar 4) (dCons (dVar 7) dNil))) (gtN 9)) (sSeq (sIf (bOr (bNot (dTruth (dCal isiD (dCons (dVar 9) (dCons (dC (.ty "bool")) dNil))))) (dTest (dBin neS (dVar 9) (dVar 8)))) (sRet (dC (.bl false))) sNx) (sSeq (sAsg (dIf (dTruth (dVar 8)) (dM (mLst (dCons (dC (.str "told")) (dCons (dCall F__law_most [none, none] (dCons (dVar 4) (dCons (dVar 7) dNil))) dNil)))) (dM (mLst (dCons (dC (.str "note")) (dCons (dC .non) dNil))))) (gtN 10)) (sSeq (sIf (dTest (dBin neS (dCal (on1 reprD) (dCons (dLam f__law_met 3 (dCall F_most_of [none, none] (dCons (dVar 4) (dCons (dVar 7) dNil)))) dNil)) (dCal (on1 reprD) (dCons (dVar 10) dNil)))) (sRet (dC (.bl false))) sNx) (sSeq (sAsg (dBin ixD (dM (mLst (dCons (dC (.int 0)) (dCons (dC (.int 4)) (dCons (dUn negD (dC (.int 1))) (dCons (dC (.bl true)) (dCons (dC .non) (dCons (dC (.str "2")) (dCons (dTup dNil) (dCons (dM (mLst (dCons (dC (.int 1)) dNil))) (dCons (dBin powD (dC (.int 10)) (dC (.int 39))) dNil))))))))))) (dCall F__law_take [some 3, none] (dMk 3 (dCons (dC (.int 9)) dNil)))) (gtN 11)) (sSeq (sIf (dTest (dBin neS (dCal (on1 reprD) (dCons (dLam f__law_met 3 (dCall F_is_note [none, none] (dCons (dVar 11) (dCons (dVar 7) dNil)))) dNil)) (dCal (on1 reprD) (dCons (dM (mLst (dCons (dC (.str "number")) (dCons (dVar 11) dNil)))) dNil)))) (sRet (dC (.bl false))) sNx) (sIf (dTest (dBin neS (dCal (on1 reprD) (dCons (dLam f__law_met 3 (dCall F_most_of [none, none] (dCons (dVar 11) (dCons (dVar 7) dNil)))) dNil)) (dCal (on1 reprD) (dCons (dM (mLst (dCons (dC (.str "number")) (dCons (dVar 11) dNil)))) dNil)))) (sRet (dC (.bl false))) sNx)))))))))))))) (sRet (dC (.bl true)))))
def F_law : List Slot → RF := fun ss => fin [] (f_law (startE 13 ss))
theorem law_ok {g : G} {Pr : Program} {w : World} {mg : Str → Option Value} {base : Heap} {cc Pt : Addr} (c : Facts g Pr w mg base cc Pt) : ∀ (fd : FuncData) (oc2 : Value) (od2 : Option Addr) (osl2 : Array (Option Value)), g.K.lookup (g.fnA 39) = some ⟨oc2, od2, .func fd, osl2⟩ → DX.FnG Pr w g.K mg base (L2.CX Pr w) 9 (g.fnA 39) fd ["_law_script"] (spD g ["_law_script", "_law_cells", "_law_k", "_law_pot_here", "_law_walkers", "_law_note_here", "_law_things", "_law_thing", "_law_due", "_law_told", "_law_most_here", "_law_odd_here", "_law_turn"] [] 1 F_law) ∧ (∀ (s : Shared) (u : Value), BindsTo s fd ⟨[u], []⟩ [("_law_script", u)]) := by
  have ndN : (["_law_script", "_law_cells", "_law_k", "_law_pot_here", "_law_walkers", "_law_note_here", "_law_things", "_law_thing", "_law_due", "_law_told", "_law_most_here", "_law_odd_here", "_law_turn"] : List Str).Nodup := by decide +kernel
  obtain ⟨d_PAIRS, m_PAIRS, t_PAIRS⟩ := c.t_PAIRS
  obtain ⟨fd__law_met, F_at__law_met, hm__law_met⟩ := c.d__law_met.ex
  exact law_mk (st := st_law) (N := ["_law_script", "_law_cells", "_law_k", "_law_pot_here", "_law_walkers", "_law_note_here", "_law_things", "_law_thing", "_law_due", "_law_told", "_law_most_here", "_law_odd_here", "_law_turn"]) (fb := f_law) c.d_law ⟨rfl, rfl, rfl, ndN, rfl, by decide +kernel, by decide +kernel⟩ (fun _ _ _ _ _ _ us hl => match us, hl with | [_], _ => rfl) fun f A outer s H E hr hgd => (dss_cons (ds_asg (de_call ((dfn__law_folded c).mono (by decide)) hr rfl (das_v (de_var 0) (das_v de_int das_nil))) (dg_name 1 ndN)) (dss_cons (ds_for po_cx rfl (di_range1 rfl c.b_range (de_callB (call_max2 rfl) oc_max2 rfl c.b_max boot_max (da_cons de_int (da_cons (de_callB call_len (oc_len rfl) rfl c.b_len PySem.boot_len (da_cons (de_var 1) da_nil)) da_nil)))) (dg_name 2 ndN) (dss_cons (ds_asgM 3 ndN (dm_call ((dfn__law_pot c).mono (by decide)) hr rfl (das_v (de_var 1) (das_v (de_var 2) das_nil)))) (dss_cons (ds_asg (de_bin op_addX (o2_add rfl) de_int (de_call ((dfn__law_take c).mono (by decide)) hr rfl (das_m 3 (das_v de_int das_nil)))) (dg_name 4 ndN)) (dss_cons (ds_asg (de_call ((dfn__law_note c).mono (by decide)) hr rfl (das_m 3 (das_v (de_var 4) das_nil))) (dg_name 5 ndN)) (dss_cons (ds_asg (de_m (dm_cat rfl (de_m (dm_lst (da_cons (de_var 5) (da_cons (de_call ((dfn__law_bent c).mono (by decide)) hr rfl (das_m 3 (das_v (de_var 5) das_nil))) (da_cons (de_call ((dfn__law_odd c).mono (by decide)) hr rfl (das_m 3 das_nil)) da_nil))))) (de_m (dm_comp (own := [("_law_turn", 12)]) ndN rfl (di_range1 rfl c.b_range de_int) (blkOk_by (by rfl)) (fun _ _ _ _ _ => (dg_name 12 ndN)) (fun _ _ _ _ _ => dts_nil) (fun _ _ _ _ _ => (de_call ((dfn__law_near c).mono (by decide)) hr rfl (das_m 3 das_nil))))))) (dg_name 6 ndN)) (dss_one (ds_for po_cx rfl (di_seq rfl (de_var 6)) (dg_name 7 ndN) (dss_cons (ds_asg (de_call ((dfn__law_note_due c).mono (by decide)) hr rfl (das_v (de_var 4) (das_v (de_var 7) das_nil))) (dg_name 8 ndN)) (dss_cons (ds_asg (de_call ((dfn_is_note c).mono (by decide)) hr rfl (das_v (de_var 4) (das_v (de_var 7) das_nil))) (dg_name 9 ndN)) (dss_cons (ds_if (db_w (dbw_or (db_not (db_truth rfl (fun _ => rfl) (de_callB call_isi (oc_isi rfl) rfl c.b_isinstance boot_isinstance (da_cons (de_var 9) (da_cons (de_ty rfl c.b_bool boot_bool) da_nil))))) (dbw_or1 (db_cmp (op_neS (u64 hr)) (o2_neS rfl) (de_var 9) (de_var 8) (nomark _))))) (dss_one (ds_ret de_bl)) dss_nil) (dss_cons (ds_asg (de_ifExp (db_truth rfl (fun _ => rfl) (de_var 8)) (de_m (dm_lst (da_cons de_str (da_cons (de_call ((dfn__law_most c).mono (by decide)) hr rfl (das_v (de_var 4) (das_v (de_var 7) das_nil))) da_nil)))) (de_m (dm_lst (da_cons de_str (da_cons de_non da_nil))))) (dg_name 10 ndN)) (dss_cons (ds_if (db_cmp (op_neS (u64 hr)) (o2_neS rfl) (de_callB (DX.call_repr (u64 hr) hgd) (oc_repr rfl) rfl c.b_repr boot_repr (da_cons (de_lam (k := 6) (Ng := ["_law_call", "e", "_law_others"]) rfl hm__law_met F_at__law_met (fun _ _ _ _ _ _ us hl => match us, hl with | [_], _ => rfl) ⟨rfl, rfl, rfl, by decide +kernel, rfl, by decide +kernel, by decide +kernel⟩ rfl (by first | exact Or.inl rfl | exact Or.inr (Or.inl rfl)) (fun cdg => gives__law_met c hr) c.tabB rfl c.hmT c.huT hr (LamX.lamS_by (by rfl)) (fun A outer s H E f c2 hr => (de_call ((dfn_most_of c).mono (by decide)) hr rfl (das_v (de_var 4) (das_v (de_var 7) das_nil))))) da_nil)) (de_callB (DX.call_repr (u64 hr) hgd) (oc_repr rfl) rfl c.b_repr boot_repr (da_cons (de_var 10) da_nil)) (nomark _)) (dss_one (ds_ret de_bl)) dss_nil) (dss_cons (ds_asg (de_ix rfl (u1 hr) (de_m (dm_lst (da_cons de_int (da_cons de_int (da_cons (de_un un_neg o1_neg de_int) (da_cons de_bl (da_cons de_non (da_cons de_str (da_cons (de_tup da_nil) (da_cons (de_m (dm_lst (da_cons de_int da_nil))) (da_cons (de_bin op_powX o2_pow de_int de_int) da_nil))))))))))) (de_call ((dfn__law_take c).mono (by decide)) hr rfl (das_m 3 (das_v de_int das_nil)))) (dg_name 11 ndN)) (dss_cons (ds_if (db_cmp (op_neS (u64 hr)) (o2_neS rfl) (de_callB (DX.call_repr (u64 hr) hgd) (oc_repr rfl) rfl c.b_repr boot_repr (da_cons (de_lam (k := 6) (Ng := ["_law_call", "e", "_law_others"]) rfl hm__law_met F_at__law_met (fun _ _ _ _ _ _ us hl => match us, hl with | [_], _ => rfl) ⟨rfl, rfl, rfl, by decide +kernel, rfl, by decide +kernel, by decide +kernel⟩ rfl (by first | exact Or.inl rfl | exact Or.inr (Or.inl rfl)) (fun cdg => gives__law_met c hr) c.tabB rfl c.hmT c.huT hr (LamX.lamS_by (by rfl)) (fun A outer s H E f c2 hr => (de_call ((dfn_is_note c).mono (by decide)) hr rfl (das_v (de_var 11) (das_v (de_var 7) das_nil))))) da_nil)) (de_callB (DX.call_repr (u64 hr) hgd) (oc_repr rfl) rfl c.b_repr boot_repr (da_cons (de_m (dm_lst (da_cons de_str (da_cons (de_var 11) da_nil)))) da_nil)) (nomark _)) (dss_one (ds_ret de_bl)) dss_nil) (dss_one (ds_if (db_cmp (op_neS (u64 hr)) (o2_neS rfl) (de_callB (DX.call_repr (u64 hr) hgd) (oc_repr rfl) rfl c.b_repr boot_repr (da_cons (de_lam (k := 6) (Ng := ["_law_call", "e", "_law_others"]) rfl hm__law_met F_at__law_met (fun _ _ _ _ _ _ us hl => match us, hl with | [_], _ => rfl) ⟨rfl, rfl, rfl, by decide +kernel, rfl, by decide +kernel, by decide +kernel⟩ rfl (by first | exact Or.inl rfl | exact Or.inr (Or.inl rfl)) (fun cdg => gives__law_met c hr) c.tabB rfl c.hmT c.huT hr (LamX.lamS_by (by rfl)) (fun A outer s H E f c2 hr => (de_call ((dfn_most_of c).mono (by decide)) hr rfl (das_v (de_var 11) (das_v (de_var 7) das_nil))))) da_nil)) (de_callB (DX.call_repr (u64 hr) hgd) (oc_repr rfl) rfl c.b_repr boot_repr (da_cons (de_m (dm_lst (da_cons de_str (da_cons (de_var 11) da_nil)))) da_nil)) (nomark _)) (dss_one (ds_ret de_bl)) dss_nil)))))))))))))))) (dss_one (ds_ret de_bl))))
end DL
end

section
set_option Elab.async false
set_option linter.all false
set_option maxRecDepth 100000
set_option maxHeartbeats 0
namespace DL
open PySem PySem.Spec PyProof.Rows L2 DX LamX
def nmF : List (Nat × Str) := [(15, "is_between"), (16, "is_who"), (17, "fits_came"), (18, "fits_round"), (19, "fits_since"), (21, "is_note_of"), (22, "need_walkers"), (23, "need_note"), (24, "most_in"), (25, "is_note"), (26, "most_of"), (28, "_law_pot"), (29, "_law_take"), (30, "_law_folded"), (31, "_law_note"), (32, "_law_most"), (33, "_law_within"), (34, "_law_note_due"), (35, "_law_near"), (36, "_law_bent"), (37, "_law_odd"), (38, "_law_met"), (39, "law")]
def nmC : List (Nat × Str) := [(1, "RoomError"), (2, "NoHouse"), (3, "NoNote"), (4, "NoRule"), (5, "NoMemory"), (6, "NoWalker"), (7, "LackError"), (8, "NoRoom"), (9, "NoDoor"), (10, "NoNumber")]
abbrev gOf (K : PySem.W.Frag) : G := ⟨K, fun n => He.ga K ((nmF.lookup n).getD ""), fun n => He.ga K ((nmC.lookup n).getD ""), [(He.tabOf K (He.codeOf K ("law", none)), q_law)], none, none⟩
def fa : List He.Fa := [.glo "is_between", .glo "is_who", .glo "fits_came", .glo "fits_round", .glo "fits_since", .glo "is_note_of", .glo "need_walkers", .glo "need_note", .glo "most_in", .glo "is_note", .glo "most_of", .glo "_law_pot", .glo "_law_take", .glo "_law_folded", .glo "_law_note", .glo "_law_most", .glo "_law_within", .glo "_law_note_due", .glo "_law_near", .glo "_law_bent", .glo "_law_odd", .glo "_law_met", .glo "law", .glo "LackError", .glo "NoDoor", .glo "NoHouse", .glo "NoMemory", .glo "NoNote", .glo "NoNumber", .glo "NoRoom", .glo "NoRule", .glo "NoWalker", .glo "RoomError", .free "LookupError", .free "ValueError", .free "abs", .free "bool", .free "int", .free "isinstance", .free "len", .free "list", .free "max", .free "min", .free "range", .free "repr", .free "str", .free "tuple", .int "LEAST_BY" 2, .int "MOST_TOP" 4, .int "MOST_WALKERS" 3, .glo "PAIRS", .exc "NoNote"]
abbrev st_init_LackError : Stmt := inClass (top 7) 0
def fn : List He.DefD := [⟨("is_between", none), "is_between", "is_between", defArgs st_is_between, defBody st_is_between, defScope st_is_between, [], []⟩,
  ⟨("is_who", none), "is_who", "is_who", defArgs st_is_who, defBody st_is_who, defScope st_is_who, [], []⟩,
  ⟨("fits_came", none), "fits_came", "fits_came", defArgs st_fits_came, defBody st_fits_came, defScope st_fits_came, [], []⟩,
  ⟨("fits_round", none), "fits_round", "fits_round", defArgs st_fits_round, defBody st_fits_round, defScope st_fits_round, [], []⟩,
  ⟨("fits_since", none), "fits_since", "fits_since", defArgs st_fits_since, defBody st_fits_since, defScope st_fits_since, [], []⟩,
  ⟨("is_note_of", none), "is_note_of", "is_note_of", defArgs st_is_note_of, defBody st_is_note_of, defScope st_is_note_of, [], []⟩,
  ⟨("need_walkers", none), "need_walkers", "need_walkers", defArgs st_need_walkers, defBody st_need_walkers, defScope st_need_walkers, [], []⟩,
  ⟨("need_note", none), "need_note", "need_note", defArgs st_need_note, defBody st_need_note, defScope st_need_note, [], []⟩,
  ⟨("most_in", none), "most_in", "most_in", defArgs st_most_in, defBody st_most_in, defScope st_most_in, [], []⟩,
  ⟨("is_note", none), "is_note", "is_note", defArgs st_is_note, defBody st_is_note, defScope st_is_note, [], []⟩,
  ⟨("most_of", none), "most_of", "most_of", defArgs st_most_of, defBody st_most_of, defScope st_most_of, [], []⟩,
  ⟨("_law_pot", none), "_law_pot", "_law_pot", defArgs st__law_pot, defBody st__law_pot, defScope st__law_pot, [], []⟩,
  ⟨("_law_take", none), "_law_take", "_law_take", defArgs st__law_take, defBody st__law_take, defScope st__law_take, [], []⟩,
  ⟨("_law_folded", none), "_law_folded", "_law_folded", defArgs st__law_folded, defBody st__law_folded, defScope st__law_folded, [], []⟩,
  ⟨("_law_note", none), "_law_note", "_law_note", defArgs st__law_note, defBody st__law_note, defScope st__law_note, [], []⟩,
  ⟨("_law_most", none), "_law_most", "_law_most", defArgs st__law_most, defBody st__law_most, defScope st__law_most, [], []⟩,
  ⟨("_law_within", none), "_law_within", "_law_within", defArgs st__law_within, defBody st__law_within, defScope st__law_within, [], []⟩,
  ⟨("_law_note_due", none), "_law_note_due", "_law_note_due", defArgs st__law_note_due, defBody st__law_note_due, defScope st__law_note_due, [], []⟩,
  ⟨("_law_near", none), "_law_near", "_law_near", defArgs st__law_near, defBody st__law_near, defScope st__law_near, [], []⟩,
  ⟨("_law_bent", none), "_law_bent", "_law_bent", defArgs st__law_bent, defBody st__law_bent, defScope st__law_bent, [], []⟩,
  ⟨("_law_odd", none), "_law_odd", "_law_odd", defArgs st__law_odd, defBody st__law_odd, defScope st__law_odd, [], []⟩,
  ⟨("_law_met", none), "_law_met", "_law_met", defArgs st__law_met, defBody st__law_met, defScope st__law_met, [], []⟩,
  ⟨("law", none), "law", "law", defArgs st_law, defBody st_law, defScope st_law, [], []⟩,
  ⟨("LackError", some "__init__"), "__init__", "LackError.__init__", defArgs st_init_LackError, defBody st_init_LackError, defScope st_init_LackError, [], []⟩]
def ts : List He.Tab := [(fun K => He.ga K "PAIRS", tab_PAIRS.map (·.1))]
def exl (K : PySem.W.Frag) : List Bool := [(tab_PAIRS.all fun p => decide (PySem.W.nsIn (gOf K).K (He.ga K "PAIRS") p.1 = some (some (.ref ((gOf K).fnA p.2))))),
  (exr_LackError_t.all fun p => decide (PySem.W.exmOne (gOf K).K (.ref ((gOf K).clA p.1)) (.ref ((gOf K).clA 7)) = some p.2)),
  (exr_RoomError_t.all fun p => decide (PySem.W.exmOne (gOf K).K (.ref ((gOf K).clA p.1)) (.ref ((gOf K).clA 1)) = some p.2)),
  (isr_0_t.all fun p => excCB (gOf K).K ((gOf K).clA p.1) && decide (PySem.W.kitOne (gOf K).K (.ref ((gOf K).clA p.1)) (.type "LookupError") = some p.2)),
  (isr_1_t.all fun p => excCB (gOf K).K ((gOf K).clA p.1) && decide (PySem.W.kitAny (gOf K).K (.ref ((gOf K).clA p.1)) ([.ref ((gOf K).clA 8), .ref ((gOf K).clA 9), .type "ValueError"]) = some p.2)),
  (isr_2_t.all fun p => excCB (gOf K).K ((gOf K).clA p.1) && decide (PySem.W.kitOne (gOf K).K (.ref ((gOf K).clA p.1)) (.ref ((gOf K).clA 10)) = some p.2)),
  (isr_3_t.all fun p => excCB (gOf K).K ((gOf K).clA p.1) && decide (PySem.W.kitOne (gOf K).K (.ref ((gOf K).clA p.1)) (.type "ValueError") = some p.2)),
  (isr_4_t.all fun p => excCB (gOf K).K ((gOf K).clA p.1) && decide (PySem.W.kitAny (gOf K).K (.ref ((gOf K).clA p.1)) ([.ref ((gOf K).clA 2), .ref ((gOf K).clA 4), .ref ((gOf K).clA 5), .ref ((gOf K).clA 6)]) = some p.2)),
  (isr_5_t.all fun p => excCB (gOf K).K ((gOf K).clA p.1) && decide (PySem.W.kitOne (gOf K).K (.ref ((gOf K).clA p.1)) (.ref ((gOf K).clA 3)) = some p.2)),
  (xfr_number_t.all fun n => xfB (gOf K).K ((gOf K).clA n) && decide (PySem.W.findIn (gOf K).K (.ref ((gOf K).clA n)) "number" = some none)),
  oexTB (gOf K).K ((gOf K).clA 10) "LookupError.__new__" leTail,
  decide (PySem.W.findIn (gOf K).K (.ref ((gOf K).clA 10)) "__init__" = some (some (.ref (He.fAd K ("LackError", some "__init__"))))),
  decide (PySem.W.typeIn (gOf K).K (.ref (He.fAd K ("LackError", some "__init__"))) = some (.type "function")),
  decide (PySem.W.findIn (gOf K).K (.ref ((gOf K).clA 10)) "number" = some none)]
def exb (K : PySem.W.Frag) : Bool := (exl K).all id
theorem exb_at {K : PySem.W.Frag} (h : exb K = true) (i : Nat) {b : Bool} (e : (exl K)[i]? = some b) : b = true := List.all_eq_true.mp h b (List.mem_of_getElem? e)
def tf : List He.Defn := [("law", none)]
abbrev rowR : PySem.W.OpenRow := PySem.W.OpenLaw.row PySem.Challenge.rw_whocame_k01_notes_known
abbrev hk : PySem.W.Hook := He.hookX 6 fa fn ts tf exb
def ob (s : PySem.W.SharedT) : He.AlX := He.obsX 6 fa fn ts tf exb (HandSHeadRun.getT s)
theorem ob_eq (s : PySem.W.SharedT) : ob s = hk.obs s.abs := He.obsX_eq (HandSHeadRun.getT_eq s)
def loose0 : List Str := ["RoomError", "NoHouse", "NoNote", "NoRule", "NoMemory", "NoWalker", "LackError", "NoRoom", "NoDoor", "NoNumber", "MOST_WALKERS", "MOST_TOP", "LEAST_BY", "is_between", "is_who", "fits_came", "fits_round", "fits_since", "PAIRS", "is_note_of", "need_walkers", "need_note", "most_in", "is_note", "most_of", "_law_pot", "_law_take", "_law_folded", "_law_note", "_law_most"]
def loose1 : List Str := ["_law_within", "_law_note_due", "_law_near", "_law_bent", "_law_odd", "_law_met"]
abbrev loose : List Str := loose0 ++ loose1
end DL
end

section
set_option Elab.async false
set_option linter.all false
set_option maxRecDepth 100000
set_option maxHeartbeats 0
namespace DL
open PySem PySem.Spec PyProof.Rows L2 DX LamX
theorem run (w : World) : HandSHeadRun.RunEq rowR (PySem.W.view rowR.prog [39]) hk ob 40000 loose w := PySem.W.byRow2 "special-get-raises" (P := fun w => HandSHeadRun.RunEq rowR (PySem.W.view rowR.prog [39]) hk ob 40000 loose w) (fun w os => by kernel_rfl) (fun w os => by kernel_rfl) w
end DL
end

section
set_option Elab.async false
set_option linter.all false
set_option maxRecDepth 100000
set_option maxHeartbeats 0
namespace DL
open PySem PySem.Spec PyProof.Rows L2 DX LamX
section
variable {Pr : Program} {w : World} {K : PySem.W.Frag} {h base : Heap} {mg : Str → Option Value}
theorem tab_raw {fa : List He.Fa} {fn : List He.DefD} {ts : List He.Tab} (c : He.SaysT fa fn ts w K) (i : Nat) {t : He.Tab} (h : ts[i]? = some t) : He.dicW K (t.1 K) = some (He.keysIn w.params t.2) := by
  have e : ts.map (fun t => He.dicW K (t.1 K)) = ts.map fun t => some (He.keysIn w.params t.2) := congrArg (fun z : He.AlT => z.2) c
  have e2 : (ts.map fun t => He.dicW K (t.1 K))[i]? = (ts.map fun t => some (He.keysIn w.params t.2))[i]? := by rw [e]
  rw [List.getElem?_map, List.getElem?_map, h] at e2
  exact Option.some.inj e2
theorem facts_of (KX : K.In h) (G : h.Ns mainGlobals mg) (c : He.SaysX fa fn ts tf exb w h K) (hTB : LamX.TabB base mg ((He.cT K ("law", none)).1) ((He.cT K ("law", none)).2)) : Facts (gOf K) Pr w mg base ((He.cT K ("law", none)).1) ((He.cT K ("law", none)).2) where
  b_LookupError := He.free_ok KX G (c.t.d.fact 33 (f := .free "LookupError") rfl)
  b_ValueError := He.free_ok KX G (c.t.d.fact 34 (f := .free "ValueError") rfl)
  b_abs := He.free_ok KX G (c.t.d.fact 35 (f := .free "abs") rfl)
  b_bool := He.free_ok KX G (c.t.d.fact 36 (f := .free "bool") rfl)
  b_int := He.free_ok KX G (c.t.d.fact 37 (f := .free "int") rfl)
  b_isinstance := He.free_ok KX G (c.t.d.fact 38 (f := .free "isinstance") rfl)
  b_len := He.free_ok KX G (c.t.d.fact 39 (f := .free "len") rfl)
  b_list := He.free_ok KX G (c.t.d.fact 40 (f := .free "list") rfl)
  b_max := He.free_ok KX G (c.t.d.fact 41 (f := .free "max") rfl)
  b_min := He.free_ok KX G (c.t.d.fact 42 (f := .free "min") rfl)
  b_range := He.free_ok KX G (c.t.d.fact 43 (f := .free "range") rfl)
  b_repr := He.free_ok KX G (c.t.d.fact 44 (f := .free "repr") rfl)
  b_str := He.free_ok KX G (c.t.d.fact 45 (f := .free "str") rfl)
  b_tuple := He.free_ok KX G (c.t.d.fact 46 (f := .free "tuple") rfl)
  c_LEAST_BY := He.int_ok KX G (c.t.d.fact 47 (f := .int "LEAST_BY" 2) rfl)
  c_MOST_TOP := He.int_ok KX G (c.t.d.fact 48 (f := .int "MOST_TOP" 4) rfl)
  c_MOST_WALKERS := He.int_ok KX G (c.t.d.fact 49 (f := .int "MOST_WALKERS" 3) rfl)
  t_PAIRS := ⟨He.ga K "PAIRS", He.glo_ok KX G (c.t.d.fact 50 (f := .glo "PAIRS") rfl), ktab_of (g := gOf K) (tab_raw c.t 0 rfl) (exb_at c.more 0 rfl)⟩
  e_LackError := He.glo_ok KX G (c.t.d.fact 23 (f := .glo "LackError") rfl)
  e_NoDoor := He.glo_ok KX G (c.t.d.fact 24 (f := .glo "NoDoor") rfl)
  e_NoHouse := He.glo_ok KX G (c.t.d.fact 25 (f := .glo "NoHouse") rfl)
  e_NoMemory := He.glo_ok KX G (c.t.d.fact 26 (f := .glo "NoMemory") rfl)
  e_NoNote := He.glo_ok KX G (c.t.d.fact 27 (f := .glo "NoNote") rfl)
  e_NoNumber := He.glo_ok KX G (c.t.d.fact 28 (f := .glo "NoNumber") rfl)
  e_NoRoom := He.glo_ok KX G (c.t.d.fact 29 (f := .glo "NoRoom") rfl)
  e_NoRule := He.glo_ok KX G (c.t.d.fact 30 (f := .glo "NoRule") rfl)
  e_NoWalker := He.glo_ok KX G (c.t.d.fact 31 (f := .glo "NoWalker") rfl)
  e_RoomError := He.glo_ok KX G (c.t.d.fact 32 (f := .glo "RoomError") rfl)
  ev_NoNote := excV_of (g := gOf K) (n := 3) (c.t.d.fact 51 (f := .exc "NoNote") rfl) rfl
  ef_NoNumber := by
    obtain ⟨fd, Fd⟩ := c.t.d.def_ 23 rfl
    exact excF_le (g := gOf K) (n := 10) (y := "number") (f := "number") (st := st_init_LackError) (exb_at c.more 10 rfl) (of_decide_eq_true (exb_at c.more 11 rfl)) (of_decide_eq_true (exb_at c.more 12 rfl)) (of_decide_eq_true (exb_at c.more 13 rfl)) Fd (He.free_ok KX G (c.t.d.fact 33 (f := .free "LookupError") rfl)) ⟨rfl, rfl, rfl, by decide +kernel, rfl, by decide +kernel, by decide +kernel⟩ rfl (fun _ _ _ _ _ _ us hl => match us, hl with | [_, _], _ => rfl) rfl (Or.inl rfl) (Or.inl rfl) (by decide) (by decide) (fun _ => rfl) (fun _ _ => rfl) (fun _ => ⟨_, rfl⟩)
  exm_LackError := fun n b hb => of_decide_eq_true (List.all_eq_true.mp (exb_at c.more 1 rfl) (n, b) (lookup_in hb))
  exm_RoomError := fun n b hb => of_decide_eq_true (List.all_eq_true.mp (exb_at c.more 2 rfl) (n, b) (lookup_in hb))
  is_0 := fun n b hb => by
    obtain ⟨h1, h2⟩ := Bool.and_eq_true_iff.mp (List.all_eq_true.mp (exb_at c.more 3 rfl) (n, b) (lookup_in hb))
    exact ⟨excCB_ok h1, of_decide_eq_true h2⟩
  is_1 := fun n b hb => by
    obtain ⟨h1, h2⟩ := Bool.and_eq_true_iff.mp (List.all_eq_true.mp (exb_at c.more 4 rfl) (n, b) (lookup_in hb))
    exact ⟨excCB_ok h1, of_decide_eq_true h2⟩
  is_2 := fun n b hb => by
    obtain ⟨h1, h2⟩ := Bool.and_eq_true_iff.mp (List.all_eq_true.mp (exb_at c.more 5 rfl) (n, b) (lookup_in hb))
    exact ⟨excCB_ok h1, of_decide_eq_true h2⟩
  is_3 := fun n b hb => by
    obtain ⟨h1, h2⟩ := Bool.and_eq_true_iff.mp (List.all_eq_true.mp (exb_at c.more 6 rfl) (n, b) (lookup_in hb))
    exact ⟨excCB_ok h1, of_decide_eq_true h2⟩
  is_4 := fun n b hb => by
    obtain ⟨h1, h2⟩ := Bool.and_eq_true_iff.mp (List.all_eq_true.mp (exb_at c.more 7 rfl) (n, b) (lookup_in hb))
    exact ⟨excCB_ok h1, of_decide_eq_true h2⟩
  is_5 := fun n b hb => by
    obtain ⟨h1, h2⟩ := Bool.and_eq_true_iff.mp (List.all_eq_true.mp (exb_at c.more 8 rfl) (n, b) (lookup_in hb))
    exact ⟨excCB_ok h1, of_decide_eq_true h2⟩
  xf_number := fun n hn => by
    obtain ⟨h1, h2⟩ := Bool.and_eq_true_iff.mp (List.all_eq_true.mp (exb_at c.more 9 rfl) n (List.contains_iff_mem.mp hn))
    exact ⟨xfB_ok h1, of_decide_eq_true h2⟩
  d_is_between := by
    obtain ⟨fd, Fd⟩ := c.t.d.def_ 0 rfl
    exact ⟨fd, fun_ofD (st := st_is_between) Fd, He.glo_ok KX G (c.t.d.fact 0 (f := .glo "is_between") rfl)⟩
  d_is_who := by
    obtain ⟨fd, Fd⟩ := c.t.d.def_ 1 rfl
    exact ⟨fd, fun_ofD (st := st_is_who) Fd, He.glo_ok KX G (c.t.d.fact 1 (f := .glo "is_who") rfl)⟩
  d_fits_came := by
    obtain ⟨fd, Fd⟩ := c.t.d.def_ 2 rfl
    exact ⟨fd, fun_ofD (st := st_fits_came) Fd, He.glo_ok KX G (c.t.d.fact 2 (f := .glo "fits_came") rfl)⟩
  d_fits_round := by
    obtain ⟨fd, Fd⟩ := c.t.d.def_ 3 rfl
    exact ⟨fd, fun_ofD (st := st_fits_round) Fd, He.glo_ok KX G (c.t.d.fact 3 (f := .glo "fits_round") rfl)⟩
  d_fits_since := by
    obtain ⟨fd, Fd⟩ := c.t.d.def_ 4 rfl
    exact ⟨fd, fun_ofD (st := st_fits_since) Fd, He.glo_ok KX G (c.t.d.fact 4 (f := .glo "fits_since") rfl)⟩
  d_is_note_of := by
    obtain ⟨fd, Fd⟩ := c.t.d.def_ 5 rfl
    exact ⟨fd, fun_ofD (st := st_is_note_of) Fd, He.glo_ok KX G (c.t.d.fact 5 (f := .glo "is_note_of") rfl)⟩
  d_need_walkers := by
    obtain ⟨fd, Fd⟩ := c.t.d.def_ 6 rfl
    exact ⟨fd, fun_ofD (st := st_need_walkers) Fd, He.glo_ok KX G (c.t.d.fact 6 (f := .glo "need_walkers") rfl)⟩
  d_need_note := by
    obtain ⟨fd, Fd⟩ := c.t.d.def_ 7 rfl
    exact ⟨fd, fun_ofD (st := st_need_note) Fd, He.glo_ok KX G (c.t.d.fact 7 (f := .glo "need_note") rfl)⟩
  d_most_in := by
    obtain ⟨fd, Fd⟩ := c.t.d.def_ 8 rfl
    exact ⟨fd, fun_ofD (st := st_most_in) Fd, He.glo_ok KX G (c.t.d.fact 8 (f := .glo "most_in") rfl)⟩
  d_is_note := by
    obtain ⟨fd, Fd⟩ := c.t.d.def_ 9 rfl
    exact ⟨fd, fun_ofD (st := st_is_note) Fd, He.glo_ok KX G (c.t.d.fact 9 (f := .glo "is_note") rfl)⟩
  d_most_of := by
    obtain ⟨fd, Fd⟩ := c.t.d.def_ 10 rfl
    exact ⟨fd, fun_ofD (st := st_most_of) Fd, He.glo_ok KX G (c.t.d.fact 10 (f := .glo "most_of") rfl)⟩
  d__law_pot := by
    obtain ⟨fd, Fd⟩ := c.t.d.def_ 11 rfl
    exact ⟨fd, fun_ofD (st := st__law_pot) Fd, He.glo_ok KX G (c.t.d.fact 11 (f := .glo "_law_pot") rfl)⟩
  d__law_take := by
    obtain ⟨fd, Fd⟩ := c.t.d.def_ 12 rfl
    exact ⟨fd, fun_ofD (st := st__law_take) Fd, He.glo_ok KX G (c.t.d.fact 12 (f := .glo "_law_take") rfl)⟩
  d__law_folded := by
    obtain ⟨fd, Fd⟩ := c.t.d.def_ 13 rfl
    exact ⟨fd, fun_ofD (st := st__law_folded) Fd, He.glo_ok KX G (c.t.d.fact 13 (f := .glo "_law_folded") rfl)⟩
  d__law_note := by
    obtain ⟨fd, Fd⟩ := c.t.d.def_ 14 rfl
    exact ⟨fd, fun_ofD (st := st__law_note) Fd, He.glo_ok KX G (c.t.d.fact 14 (f := .glo "_law_note") rfl)⟩
  d__law_most := by
    obtain ⟨fd, Fd⟩ := c.t.d.def_ 15 rfl
    exact ⟨fd, fun_ofD (st := st__law_most) Fd, He.glo_ok KX G (c.t.d.fact 15 (f := .glo "_law_most") rfl)⟩
  d__law_within := by
    obtain ⟨fd, Fd⟩ := c.t.d.def_ 16 rfl
    exact ⟨fd, fun_ofD (st := st__law_within) Fd, He.glo_ok KX G (c.t.d.fact 16 (f := .glo "_law_within") rfl)⟩
  d__law_note_due := by
    obtain ⟨fd, Fd⟩ := c.t.d.def_ 17 rfl
    exact ⟨fd, fun_ofD (st := st__law_note_due) Fd, He.glo_ok KX G (c.t.d.fact 17 (f := .glo "_law_note_due") rfl)⟩
  d__law_near := by
    obtain ⟨fd, Fd⟩ := c.t.d.def_ 18 rfl
    exact ⟨fd, fun_ofD (st := st__law_near) Fd, He.glo_ok KX G (c.t.d.fact 18 (f := .glo "_law_near") rfl)⟩
  d__law_bent := by
    obtain ⟨fd, Fd⟩ := c.t.d.def_ 19 rfl
    exact ⟨fd, fun_ofD (st := st__law_bent) Fd, He.glo_ok KX G (c.t.d.fact 19 (f := .glo "_law_bent") rfl)⟩
  d__law_odd := by
    obtain ⟨fd, Fd⟩ := c.t.d.def_ 20 rfl
    exact ⟨fd, fun_ofD (st := st__law_odd) Fd, He.glo_ok KX G (c.t.d.fact 20 (f := .glo "_law_odd") rfl)⟩
  d__law_met := by
    obtain ⟨fd, Fd⟩ := c.t.d.def_ 21 rfl
    exact ⟨fd, fun_ofD (st := st__law_met) Fd, He.glo_ok KX G (c.t.d.fact 21 (f := .glo "_law_met") rfl)⟩
  d_law := by
    obtain ⟨fd, Fd⟩ := c.t.d.def_ 22 rfl
    exact defAtL_of (g := gOf K) (n := 39) (st := st_law) Fd (He.glo_ok KX G (c.t.d.fact 22 (f := .glo "law") rfl)) rfl
  tabB := hTB
  hmT := List.mem_singleton.mpr rfl
  huT := fun p hp _ => by rw [List.mem_singleton.mp hp]
end
end DL
end

section
set_option Elab.async false
set_option linter.all false
set_option maxRecDepth 100000
set_option maxHeartbeats 0
open PySem PySem.W PySem.Calls PyProof.Rows
theorem law_head (pure_law : ∀ ns : List Int, ns.length ≤ 63 → (∀ z ∈ ns, PySem.Builtin.Int.intBits z ≤ 1048576) → DL.F_law [.v (.lst (ns.map .int))] = .ok (.v (.bl true)) []) : PySem.Challenge.rw_whocame_k01_notes_known.Holds := by
  w_on; o_law
  refine HandSHeadRun.head_any (r := OpenLaw.row PySem.Challenge.rw_whocame_k01_notes_known) (q := view (OpenLaw.row PySem.Challenge.rw_whocame_k01_notes_known).prog [39]) (H := DL.hk) (ob := DL.ob) (M := 40000) (loose := DL.loose) (d := HandSHeadRun.topDef (OpenLaw.row PySem.Challenge.rw_whocame_k01_notes_known).prog 39) (kwd := []) DL.ob_eq
    (by kernel_rfl) (fun s => by kernel_rfl) DL.run (by kernel_rfl) (by kernel_rfl) (by kernel_rfl) (by rfl) (by first | assumption | decide +kernel) (by decide +kernel) ⟨rfl, rfl, rfl, rfl, rfl, by decide +kernel⟩ ?hw ?hc
  case hw => w_witness2
  case hc =>
    refine DX.walk_ofG (l := PySem.Challenge.rw_whocame_k01_notes_known) (n := 63) (k := 9) (x := "_law_script") rfl (by decide) (by kernel_rfl) ⟨rfl, by decide, by decide⟩ ?F
    intro w mg fa h Y G hmg0
    obtain ⟨K, KX, c⟩ := Y
    have hmg : mg ("law" : PySem.Str) = some (.ref fa) := by
      have e : (HandSHeadRun.topDef (OpenLaw.row PySem.Challenge.rw_whocame_k01_notes_known).prog 39).name = ("law" : PySem.Str) := by kernel_rfl
      rw [← e]
      exact hmg0
    have hga : mg ("law" : PySem.Str) = some (.ref ((DL.gOf K).fnA 39)) := He.glo_ok KX G (c.t.d.fact 22 (f := .glo "law") rfl)
    rw [hmg] at hga
    cases hga
    obtain ⟨fd, Fd⟩ := c.t.d.def_ 22 rfl
    obtain ⟨oc, od, dV, kV, doc, pm, an, cdv, ct, osl, efd, lk, _, _, _⟩ := Fd.ex
    have key : ∀ base : Heap, LamX.TabB base mg (He.cT K ("law", none)).1 (He.cT K ("law", none)).2 → _ := fun base hTB => DL.law_ok (Pr := (PySem.Challenge.rw_whocame_k01_notes_known).prog) (w := w) (base := base) (DL.facts_of KX G c hTB) fd oc od osl lk
    refine ⟨K, KX, fd, [He.cT K ("law", none)], _, fun p hp => ?_, fun p hp => ?_, fun p hp => ?_, fun s u => ?_, fun H a ns hl hz hH hS => DL.spec_of hS ?_ (pure_law ns hl hz), fun base hKb hns hTB => (key base (hTB _ (List.mem_singleton.mpr rfl))).1⟩
    · rw [List.mem_singleton.mp hp]; exact c.empty _ (List.mem_singleton.mpr rfl)
    · rw [List.mem_singleton.mp hp]; exact c.out _ (List.mem_singleton.mpr rfl)
    · rw [List.mem_singleton.mp hp]; exact PySem.W.codeHd_of_K KX (c.hd _ (List.mem_singleton.mpr rfl))
    · exact (L2.FunD.bindsA (ps := [("_law_script" : PySem.Str)]) Fd fun _ _ _ _ _ _ us hl => match us, hl with | [_], _ => rfl) s [u] rfl
    · intro p hp
      rw [List.mem_singleton.mp hp]
      exact LamX.TabS.nil (hH _ (List.mem_singleton.mpr rfl))
end

section
set_option Elab.async false
set_option linter.all false
set_option maxRecDepth 100000
namespace DL
open PySem PySem.Spec PyProof.Rows L2

@[simp] theorem sNx_ap (e : Env) : sNx e = .nx e := rfl
@[simp] theorem dNil_ap (e : Env) : dNil e = .ok [] e := rfl
@[simp] theorem pNo_ap (e : Env) : pNo e = .ok none e := rfl
@[simp] theorem bTrue_ap (e : Env) : bTrue e = .ok true e := rfl
@[simp] theorem dEmp_ap (e : Env) : dEmp e = .ok (.dct [] []) e := rfl
@[simp] theorem dCall_ap (F : List Slot → RF) (sh : List (Option Nat)) (fa : Env → R (List D)) (e : Env) : dCall F sh fa e = callF F sh fa kD e := rfl
@[simp] theorem mCall_ap (F : List Slot → RF) (sh : List (Option Nat)) (fa : Env → R (List D)) (e : Env) : mCall F sh fa e = callF F sh fa kM e := rfl
@[simp] theorem gtN_ap (i : Nat) (d : D) (e : Env) : gtN i d e = some (e.set i (some (.v d))) := rfl
@[simp] theorem dVar_ap (i : Nat) (e : Env) : dVar i e = (match e[i]? with
  | some (some (.v d)) => .ok d e
  | _ => .bad) := rfl
@[simp] theorem dFrz_ap (i : Nat) (e : Env) : dFrz i e = (match e[i]? with
  | some (some (.m ds)) => .ok (.lst ds) (e.set i (some (.v (.lst ds))))
  | _ => .bad) := rfl
@[simp] theorem dC_ap (d : D) (e : Env) : dC d e = (.ok d e) := rfl
def c1_dUn (F : D → Option D) (a : D) (e1 : Env) : R D := opt (F a) e1
@[simp] theorem c1_dUn_ap (F : D → Option D) (a : D) (e1 : Env) : c1_dUn F a e1 = (opt (F a) e1) := rfl
@[simp] theorem dUn_ap (F : D → Option D) (fa : Env → R D) (e : Env) : dUn F fa e = (bnd (fa e) (c1_dUn F)) := rfl
def c2_dBin (F : D → D → Option D) (a : D) (b : D) (e2 : Env) : R D := opt (F a b) e2
@[simp] theorem c2_dBin_ap (F : D → D → Option D) (a : D) (b : D) (e2 : Env) : c2_dBin F a b e2 = (opt (F a b) e2) := rfl
def c1_dBin (F : D → D → Option D) (fb : Env → R D) (a : D) (e1 : Env) : R D := bnd (fb e1) (c2_dBin F a)
@[simp] theorem c1_dBin_ap (F : D → D → Option D) (fb : Env → R D) (a : D) (e1 : Env) : c1_dBin F fb a e1 = (bnd (fb e1) (c2_dBin F a)) := rfl
@[simp] theorem dBin_ap (F : D → D → Option D) (fa fb : Env → R D) (e : Env) : dBin F fa fb e = (bnd (fa e) (c1_dBin F fb)) := rfl
def c1_dCal (F : List D → Option D) (as : (List D)) (e1 : Env) : R D := opt (F as) e1
@[simp] theorem c1_dCal_ap (F : List D → Option D) (as : (List D)) (e1 : Env) : c1_dCal F as e1 = (opt (F as) e1) := rfl
@[simp] theorem dCal_ap (F : List D → Option D) (fs : Env → R (List D)) (e : Env) : dCal F fs e = (bnd (fs e) (c1_dCal F)) := rfl
def c1_dTest  (d : D) (e1 : Env) : R Bool := opt (asB d) e1
@[simp] theorem c1_dTest_ap  (d : D) (e1 : Env) : c1_dTest d e1 = (opt (asB d) e1) := rfl
@[simp] theorem dTest_ap (f : Env → R D) (e : Env) : dTest f e = (bnd (f e) (c1_dTest)) := rfl
def c3_dChain (F : D → D → Option D) (F' : D → D → Option D) (fc : Env → R D) (y : D) (k : Bool) (e2 : Env) : R D := if k = true then bnd (fc e2) fun z e3 => opt (F' y z) e3 else .ok (.bl false) e2
@[simp] theorem c3_dChain_ap (F : D → D → Option D) (F' : D → D → Option D) (fc : Env → R D) (y : D) (k : Bool) (e2 : Env) : c3_dChain F F' fc y k e2 = (if k = true then bnd (fc e2) fun z e3 => opt (F' y z) e3 else .ok (.bl false) e2) := rfl
def c2_dChain (F : D → D → Option D) (F' : D → D → Option D) (fc : Env → R D) (x : D) (y : D) (e2 : Env) : R D := bnd (opt ((F x y).bind asB) e2) (c3_dChain F F' fc y)
@[simp] theorem c2_dChain_ap (F : D → D → Option D) (F' : D → D → Option D) (fc : Env → R D) (x : D) (y : D) (e2 : Env) : c2_dChain F F' fc x y e2 = (bnd (opt ((F x y).bind asB) e2) (c3_dChain F F' fc y)) := rfl
def c1_dChain (F : D → D → Option D) (F' : D → D → Option D) (fb : Env → R D) (fc : Env → R D) (x : D) (e1 : Env) : R D := bnd (fb e1) (c2_dChain F F' fc x)
@[simp] theorem c1_dChain_ap (F : D → D → Option D) (F' : D → D → Option D) (fb : Env → R D) (fc : Env → R D) (x : D) (e1 : Env) : c1_dChain F F' fb fc x e1 = (bnd (fb e1) (c2_dChain F F' fc x)) := rfl
@[simp] theorem dChain_ap (F F' : D → D → Option D) (fa fb fc : Env → R D) (e : Env) : dChain F F' fa fb fc e = (bnd (fa e) (c1_dChain F F' fb fc)) := rfl
def c1_dAnd (fb : Env → R D) (k : Bool) (e1 : Env) : R D := if k = true then fb e1 else .ok (.bl false) e1
@[simp] theorem c1_dAnd_ap (fb : Env → R D) (k : Bool) (e1 : Env) : c1_dAnd fb k e1 = (if k = true then fb e1 else .ok (.bl false) e1) := rfl
@[simp] theorem dAnd_ap (fa fb : Env → R D) (e : Env) : dAnd fa fb e = (bnd (dTest fa e) (c1_dAnd fb)) := rfl
def c1_dOr (fb : Env → R D) (k : Bool) (e1 : Env) : R D := if k = true then .ok (.bl true) e1 else fb e1
@[simp] theorem c1_dOr_ap (fb : Env → R D) (k : Bool) (e1 : Env) : c1_dOr fb k e1 = (if k = true then .ok (.bl true) e1 else fb e1) := rfl
@[simp] theorem dOr_ap (fa fb : Env → R D) (e : Env) : dOr fa fb e = (bnd (dTest fa e) (c1_dOr fb)) := rfl
def c1_dNot  (k : Bool) (e1 : Env) : R D := .ok (.bl (!k)) e1
@[simp] theorem c1_dNot_ap  (k : Bool) (e1 : Env) : c1_dNot k e1 = (.ok (.bl (!k)) e1) := rfl
@[simp] theorem dNot_ap (fa : Env → R D) (e : Env) : dNot fa e = (bnd (dTest fa e) (c1_dNot)) := rfl
def c1_bAnd (fb : Env → R Bool) (k : Bool) (e1 : Env) : R Bool := if k = true then fb e1 else .ok false e1
@[simp] theorem c1_bAnd_ap (fb : Env → R Bool) (k : Bool) (e1 : Env) : c1_bAnd fb k e1 = (if k = true then fb e1 else .ok false e1) := rfl
@[simp] theorem bAnd_ap (fa fb : Env → R Bool) (e : Env) : bAnd fa fb e = (bnd (fa e) (c1_bAnd fb)) := rfl
def c1_bOr (fb : Env → R Bool) (k : Bool) (e1 : Env) : R Bool := if k = true then .ok true e1 else fb e1
@[simp] theorem c1_bOr_ap (fb : Env → R Bool) (k : Bool) (e1 : Env) : c1_bOr fb k e1 = (if k = true then .ok true e1 else fb e1) := rfl
@[simp] theorem bOr_ap (fa fb : Env → R Bool) (e : Env) : bOr fa fb e = (bnd (fa e) (c1_bOr fb)) := rfl
def c1_bNot  (k : Bool) (e1 : Env) : R Bool := .ok (!k) e1
@[simp] theorem c1_bNot_ap  (k : Bool) (e1 : Env) : c1_bNot k e1 = (.ok (!k) e1) := rfl
@[simp] theorem bNot_ap (fa : Env → R Bool) (e : Env) : bNot fa e = (bnd (fa e) (c1_bNot)) := rfl
def c1_dIf (fa : Env → R D) (fb : Env → R D) (k : Bool) (e1 : Env) : R D := if k = true then fa e1 else fb e1
@[simp] theorem c1_dIf_ap (fa : Env → R D) (fb : Env → R D) (k : Bool) (e1 : Env) : c1_dIf fa fb k e1 = (if k = true then fa e1 else fb e1) := rfl
@[simp] theorem dIf_ap (ft : Env → R Bool) (fa fb : Env → R D) (e : Env) : dIf ft fa fb e = (bnd (ft e) (c1_dIf fa fb)) := rfl
def c1_dTruth  (d : D) (e1 : Env) : R Bool := opt (truthD d) e1
@[simp] theorem c1_dTruth_ap  (d : D) (e1 : Env) : c1_dTruth d e1 = (opt (truthD d) e1) := rfl
@[simp] theorem dTruth_ap (f : Env → R D) (e : Env) : dTruth f e = (bnd (f e) (c1_dTruth)) := rfl
def c2_dCons (d : D) (ds : (List D)) (e2 : Env) : R (List D) := .ok (d :: ds) e2
@[simp] theorem c2_dCons_ap (d : D) (ds : (List D)) (e2 : Env) : c2_dCons d ds e2 = (.ok (d :: ds) e2) := rfl
def c1_dCons (fs : Env → R (List D)) (d : D) (e1 : Env) : R (List D) := bnd (fs e1) (c2_dCons d)
@[simp] theorem c1_dCons_ap (fs : Env → R (List D)) (d : D) (e1 : Env) : c1_dCons fs d e1 = (bnd (fs e1) (c2_dCons d)) := rfl
@[simp] theorem dCons_ap (fa : Env → R D) (fs : Env → R (List D)) (e : Env) : dCons fa fs e = (bnd (fa e) (c1_dCons fs)) := rfl
def c1_dTup  (ds : (List D)) (e1 : Env) : R D := if ds.length ≤ 1000 then .ok (.tup ds) e1 else .bad
@[simp] theorem c1_dTup_ap  (ds : (List D)) (e1 : Env) : c1_dTup ds e1 = (if ds.length ≤ 1000 then .ok (.tup ds) e1 else .bad) := rfl
@[simp] theorem dTup_ap (fs : Env → R (List D)) (e : Env) : dTup fs e = (bnd (fs e) (c1_dTup)) := rfl
def c1_mLst  (ds : (List D)) (e1 : Env) : R (List D) := if ds.length ≤ 1000 then .ok ds e1 else .bad
@[simp] theorem c1_mLst_ap  (ds : (List D)) (e1 : Env) : c1_mLst ds e1 = (if ds.length ≤ 1000 then .ok ds e1 else .bad) := rfl
@[simp] theorem mLst_ap (fs : Env → R (List D)) (e : Env) : mLst fs e = (bnd (fs e) (c1_mLst)) := rfl
def c1_dM  (ds : (List D)) (e1 : Env) : R D := .ok (.lst ds) e1
@[simp] theorem c1_dM_ap  (ds : (List D)) (e1 : Env) : c1_dM ds e1 = (.ok (.lst ds) e1) := rfl
@[simp] theorem dM_ap (f : Env → R (List D)) (e : Env) : dM f e = (bnd (f e) (c1_dM)) := rfl
@[simp] theorem sSeq_ap (a b : Env → RS) (e : Env) : sSeq a b e = (sq (a e) b) := rfl
def c1_sIf (a : Env → RS) (b : Env → RS) (k : Bool) (e1 : Env) : RS := if k = true then a e1 else b e1
@[simp] theorem c1_sIf_ap (a : Env → RS) (b : Env → RS) (k : Bool) (e1 : Env) : c1_sIf a b k e1 = (if k = true then a e1 else b e1) := rfl
@[simp] theorem sIf_ap (t : Env → R Bool) (a b : Env → RS) (e : Env) : sIf t a b e = (sB (t e) (c1_sIf a b)) := rfl
def c1_sRet  (d : D) (e1 : Env) : RS := .rt (.v d) e1
@[simp] theorem c1_sRet_ap  (d : D) (e1 : Env) : c1_sRet d e1 = (.rt (.v d) e1) := rfl
@[simp] theorem sRet_ap (f : Env → R D) (e : Env) : sRet f e = (sB (f e) (c1_sRet)) := rfl
def c1_sRetM  (ds : (List D)) (e1 : Env) : RS := .rt (.m ds) e1
@[simp] theorem c1_sRetM_ap  (ds : (List D)) (e1 : Env) : c1_sRetM ds e1 = (.rt (.m ds) e1) := rfl
@[simp] theorem sRetM_ap (f : Env → R (List D)) (e : Env) : sRetM f e = (sB (f e) (c1_sRetM)) := rfl
def c1_sEx  (z_ : D) (e1 : Env) : RS := .nx e1
@[simp] theorem c1_sEx_ap  (z_ : D) (e1 : Env) : c1_sEx z_ e1 = (.nx e1) := rfl
@[simp] theorem sEx_ap (f : Env → R D) (e : Env) : sEx f e = (sB (f e) (c1_sEx)) := rfl
def c1_sAsg (t : D → Env → Option Env) (d : D) (e1 : Env) : RS := sO (t d e1) fun e2 => .nx e2
@[simp] theorem c1_sAsg_ap (t : D → Env → Option Env) (d : D) (e1 : Env) : c1_sAsg t d e1 = (sO (t d e1) fun e2 => .nx e2) := rfl
@[simp] theorem sAsg_ap (fe : Env → R D) (t : D → Env → Option Env) (e : Env) : sAsg fe t e = (sB (fe e) (c1_sAsg t)) := rfl
def c1_sAsgM (i : Nat) (ds : (List D)) (e1 : Env) : RS := .nx (e1.set i (some (.m ds)))
@[simp] theorem c1_sAsgM_ap (i : Nat) (ds : (List D)) (e1 : Env) : c1_sAsgM i ds e1 = (.nx (e1.set i (some (.m ds)))) := rfl
@[simp] theorem sAsgM_ap (i : Nat) (fm : Env → R (List D)) (e : Env) : sAsgM i fm e = (sB (fm e) (c1_sAsgM i)) := rfl
def c3_dIxM (k : D) (ds : List D) (e1 : Env) : R D := opt (ixD (.lst ds) k) e1
@[simp] theorem c3_dIxM_ap (k : D) (ds : List D) (e1 : Env) : c3_dIxM k ds e1 = (opt (ixD (.lst ds) k) e1) := rfl
def c2_dIxM (i : Nat) (k : D) (e1 : Env) : R D := bnd (opt (mAt e1 i) e1) (c3_dIxM k)
@[simp] theorem c2_dIxM_ap (i : Nat) (k : D) (e1 : Env) : c2_dIxM i k e1 = (bnd (opt (mAt e1 i) e1) (c3_dIxM k)) := rfl
def c1_dIxM (i : Nat) (fi : Env → R D) (z_ : List D) (e : Env) : R D := bnd (fi e) (c2_dIxM i)
@[simp] theorem c1_dIxM_ap (i : Nat) (fi : Env → R D) (z_ : List D) (e : Env) : c1_dIxM i fi z_ e = (bnd (fi e) (c2_dIxM i)) := rfl
@[simp] theorem dIxM_ap (i : Nat) (fi : Env → R D) (e : Env) : dIxM i fi e = (bnd (opt (mAt e i) e) (c1_dIxM i fi)) := rfl
def c1_dLenM  (ds : List D) (e : Env) : R D := .ok (.int ds.length) e
@[simp] theorem c1_dLenM_ap  (ds : List D) (e : Env) : c1_dLenM ds e = (.ok (.int ds.length) e) := rfl
@[simp] theorem dLenM_ap (i : Nat) (e : Env) : dLenM i e = (bnd (opt (mAt e i) e) (c1_dLenM)) := rfl
def c1_dTupM  (ds : List D) (e : Env) : R D := .ok (.tup ds) e
@[simp] theorem c1_dTupM_ap  (ds : List D) (e : Env) : c1_dTupM ds e = (.ok (.tup ds) e) := rfl
@[simp] theorem dTupM_ap (i : Nat) (e : Env) : dTupM i e = (bnd (opt (mAt e i) e) (c1_dTupM)) := rfl
def c4_sSetM (i : Nat) (d : D) (k : D) (ds : List D) (e2 : Env) : RS := match k with
  | .int n => sO (ixN ds.length n) fun j => .nx (e2.set i (some (.m (ds.set j d))))
  | _ => .bad
@[simp] theorem c4_sSetM_ap (i : Nat) (d : D) (k : D) (ds : List D) (e2 : Env) : c4_sSetM i d k ds e2 = (match k with
  | .int n => sO (ixN ds.length n) fun j => .nx (e2.set i (some (.m (ds.set j d))))
  | _ => .bad) := rfl
def c3_sSetM (i : Nat) (d : D) (k : D) (e2 : Env) : RS := sB (opt (mAt e2 i) e2) (c4_sSetM i d k)
@[simp] theorem c3_sSetM_ap (i : Nat) (d : D) (k : D) (e2 : Env) : c3_sSetM i d k e2 = (sB (opt (mAt e2 i) e2) (c4_sSetM i d k)) := rfl
def c2_sSetM (i : Nat) (fi : Env → R D) (d : D) (z_ : List D) (e1 : Env) : RS := sB (fi e1) (c3_sSetM i d)
@[simp] theorem c2_sSetM_ap (i : Nat) (fi : Env → R D) (d : D) (z_ : List D) (e1 : Env) : c2_sSetM i fi d z_ e1 = (sB (fi e1) (c3_sSetM i d)) := rfl
def c1_sSetM (i : Nat) (fi : Env → R D) (d : D) (e1 : Env) : RS := sB (opt (mAt e1 i) e1) (c2_sSetM i fi d)
@[simp] theorem c1_sSetM_ap (i : Nat) (fi : Env → R D) (d : D) (e1 : Env) : c1_sSetM i fi d e1 = (sB (opt (mAt e1 i) e1) (c2_sSetM i fi d)) := rfl
@[simp] theorem sSetM_ap (i : Nat) (fi fv : Env → R D) (e : Env) : sSetM i fi fv e = (sB (fv e) (c1_sSetM i fi)) := rfl
def c3_sApp (i : Nat) (d : D) (ds : List D) (e1 : Env) : RS := if ds.length < 16777216 then .nx (e1.set i (some (.m (ds ++ [d])))) else .bad
@[simp] theorem c3_sApp_ap (i : Nat) (d : D) (ds : List D) (e1 : Env) : c3_sApp i d ds e1 = (if ds.length < 16777216 then .nx (e1.set i (some (.m (ds ++ [d])))) else .bad) := rfl
def c2_sApp (i : Nat) (d : D) (e1 : Env) : RS := sB (opt (mAt e1 i) e1) (c3_sApp i d)
@[simp] theorem c2_sApp_ap (i : Nat) (d : D) (e1 : Env) : c2_sApp i d e1 = (sB (opt (mAt e1 i) e1) (c3_sApp i d)) := rfl
def c1_sApp (i : Nat) (fv : Env → R D) (z_ : List D) (e : Env) : RS := sB (fv e) (c2_sApp i)
@[simp] theorem c1_sApp_ap (i : Nat) (fv : Env → R D) (z_ : List D) (e : Env) : c1_sApp i fv z_ e = (sB (fv e) (c2_sApp i)) := rfl
@[simp] theorem sApp_ap (i : Nat) (fv : Env → R D) (e : Env) : sApp i fv e = (sB (opt (mAt e i) e) (c1_sApp i fv)) := rfl
def c1_mList  (d : D) (e1 : Env) : R (List D) := match d with
  | .tup ds => .ok ds e1
  | .lst ds => .ok ds e1
  | _ => .bad
@[simp] theorem c1_mList_ap  (d : D) (e1 : Env) : c1_mList d e1 = (match d with
  | .tup ds => .ok ds e1
  | .lst ds => .ok ds e1
  | _ => .bad) := rfl
@[simp] theorem mList_ap (f : Env → R D) (e : Env) : mList f e = (bnd (f e) (c1_mList)) := rfl
def c2_pSome  (i : Int) (e1 : Env) : R (Option Int) := .ok (some i) e1
@[simp] theorem c2_pSome_ap  (i : Int) (e1 : Env) : c2_pSome i e1 = (.ok (some i) e1) := rfl
def c1_pSome  (d : D) (e1 : Env) : R (Option Int) := bnd (opt (asI d) e1) (c2_pSome)
@[simp] theorem c1_pSome_ap  (d : D) (e1 : Env) : c1_pSome d e1 = (bnd (opt (asI d) e1) (c2_pSome)) := rfl
@[simp] theorem pSome_ap (f : Env → R D) (e : Env) : pSome f e = (bnd (f e) (c1_pSome)) := rfl
def c3_dSlT (d : D) (l : (Option Int)) (h : (Option Int)) (e3 : Env) : R D := match d with
  | .tup ds => .ok (.tup (cutD ds l h)) e3
  | _ => .bad
@[simp] theorem c3_dSlT_ap (d : D) (l : (Option Int)) (h : (Option Int)) (e3 : Env) : c3_dSlT d l h e3 = (match d with
  | .tup ds => .ok (.tup (cutD ds l h)) e3
  | _ => .bad) := rfl
def c2_dSlT (hi : Env → R (Option Int)) (d : D) (l : (Option Int)) (e2 : Env) : R D := bnd (hi e2) (c3_dSlT d l)
@[simp] theorem c2_dSlT_ap (hi : Env → R (Option Int)) (d : D) (l : (Option Int)) (e2 : Env) : c2_dSlT hi d l e2 = (bnd (hi e2) (c3_dSlT d l)) := rfl
def c1_dSlT (lo : Env → R (Option Int)) (hi : Env → R (Option Int)) (d : D) (e1 : Env) : R D := bnd (lo e1) (c2_dSlT hi d)
@[simp] theorem c1_dSlT_ap (lo : Env → R (Option Int)) (hi : Env → R (Option Int)) (d : D) (e1 : Env) : c1_dSlT lo hi d e1 = (bnd (lo e1) (c2_dSlT hi d)) := rfl
@[simp] theorem dSlT_ap (f : Env → R D) (lo hi : Env → R (Option Int)) (e : Env) : dSlT f lo hi e = (bnd (f e) (c1_dSlT lo hi)) := rfl
def c3_mSlL (d : D) (l : (Option Int)) (h : (Option Int)) (e3 : Env) : R (List D) := match d with
  | .lst ds => .ok (cutD ds l h) e3
  | _ => .bad
@[simp] theorem c3_mSlL_ap (d : D) (l : (Option Int)) (h : (Option Int)) (e3 : Env) : c3_mSlL d l h e3 = (match d with
  | .lst ds => .ok (cutD ds l h) e3
  | _ => .bad) := rfl
def c2_mSlL (hi : Env → R (Option Int)) (d : D) (l : (Option Int)) (e2 : Env) : R (List D) := bnd (hi e2) (c3_mSlL d l)
@[simp] theorem c2_mSlL_ap (hi : Env → R (Option Int)) (d : D) (l : (Option Int)) (e2 : Env) : c2_mSlL hi d l e2 = (bnd (hi e2) (c3_mSlL d l)) := rfl
def c1_mSlL (lo : Env → R (Option Int)) (hi : Env → R (Option Int)) (d : D) (e1 : Env) : R (List D) := bnd (lo e1) (c2_mSlL hi d)
@[simp] theorem c1_mSlL_ap (lo : Env → R (Option Int)) (hi : Env → R (Option Int)) (d : D) (e1 : Env) : c1_mSlL lo hi d e1 = (bnd (lo e1) (c2_mSlL hi d)) := rfl
@[simp] theorem mSlL_ap (f : Env → R D) (lo hi : Env → R (Option Int)) (e : Env) : mSlL f lo hi e = (bnd (f e) (c1_mSlL lo hi)) := rfl
def c2_mCat (a : D) (b : D) (e2 : Env) : R (List D) := match a, b with
  | .lst xs, .lst ys => if xs.length + ys.length ≤ 16777216 then .ok (xs ++ ys) e2 else .bad
  | _, _ => .bad
@[simp] theorem c2_mCat_ap (a : D) (b : D) (e2 : Env) : c2_mCat a b e2 = (match a, b with
  | .lst xs, .lst ys => if xs.length + ys.length ≤ 16777216 then .ok (xs ++ ys) e2 else .bad
  | _, _ => .bad) := rfl
def c1_mCat (fb : Env → R D) (a : D) (e1 : Env) : R (List D) := bnd (fb e1) (c2_mCat a)
@[simp] theorem c1_mCat_ap (fb : Env → R D) (a : D) (e1 : Env) : c1_mCat fb a e1 = (bnd (fb e1) (c2_mCat a)) := rfl
@[simp] theorem mCat_ap (fa fb : Env → R D) (e : Env) : mCat fa fb e = (bnd (fa e) (c1_mCat fb)) := rfl
def c1_iItems1  (d : D) (e1 : Env) : R (List D) := opt (itemsD d) e1
@[simp] theorem c1_iItems1_ap  (d : D) (e1 : Env) : c1_iItems1 d e1 = (opt (itemsD d) e1) := rfl
@[simp] theorem iItems1_ap (f : Env → R D) (e : Env) : iItems1 f e = (bnd (f e) (c1_iItems1)) := rfl
def c2_iRange1  (j : Int) (e1 : Env) : R (List D) := if wide62 j then .ok (rangeL 0 j.toNat) e1 else .bad
@[simp] theorem c2_iRange1_ap  (j : Int) (e1 : Env) : c2_iRange1 j e1 = (if wide62 j then .ok (rangeL 0 j.toNat) e1 else .bad) := rfl
def c1_iRange1  (d : D) (e1 : Env) : R (List D) := bnd (opt (asI d) e1) (c2_iRange1)
@[simp] theorem c1_iRange1_ap  (d : D) (e1 : Env) : c1_iRange1 d e1 = (bnd (opt (asI d) e1) (c2_iRange1)) := rfl
@[simp] theorem iRange1_ap (f : Env → R D) (e : Env) : iRange1 f e = (bnd (f e) (c1_iRange1)) := rfl
def c4_iRange2 (i : Int) (j : Int) (e2 : Env) : R (List D) := if wide62 i && wide62 j then .ok (rangeL i (j - i).toNat) e2 else .bad
@[simp] theorem c4_iRange2_ap (i : Int) (j : Int) (e2 : Env) : c4_iRange2 i j e2 = (if wide62 i && wide62 j then .ok (rangeL i (j - i).toNat) e2 else .bad) := rfl
def c3_iRange2 (b : D) (i : Int) (e2 : Env) : R (List D) := bnd (opt (asI b) e2) (c4_iRange2 i)
@[simp] theorem c3_iRange2_ap (b : D) (i : Int) (e2 : Env) : c3_iRange2 b i e2 = (bnd (opt (asI b) e2) (c4_iRange2 i)) := rfl
def c2_iRange2 (a : D) (b : D) (e2 : Env) : R (List D) := bnd (opt (asI a) e2) (c3_iRange2 b)
@[simp] theorem c2_iRange2_ap (a : D) (b : D) (e2 : Env) : c2_iRange2 a b e2 = (bnd (opt (asI a) e2) (c3_iRange2 b)) := rfl
def c1_iRange2 (fb : Env → R D) (a : D) (e1 : Env) : R (List D) := bnd (fb e1) (c2_iRange2 a)
@[simp] theorem c1_iRange2_ap (fb : Env → R D) (a : D) (e1 : Env) : c1_iRange2 fb a e1 = (bnd (fb e1) (c2_iRange2 a)) := rfl
@[simp] theorem iRange2_ap (fa fb : Env → R D) (e : Env) : iRange2 fa fb e = (bnd (fa e) (c1_iRange2 fb)) := rfl
def c1_dMk (fs : Env → R (List D)) (z_ : List D) (e1 : Env) : R (List D) := fs e1
@[simp] theorem c1_dMk_ap (fs : Env → R (List D)) (z_ : List D) (e1 : Env) : c1_dMk fs z_ e1 = (fs e1) := rfl
@[simp] theorem dMk_ap (i : Nat) (fs : Env → R (List D)) (e : Env) : dMk i fs e = (bnd (opt (mAt e i) e) (c1_dMk fs)) := rfl
def c3_dSl (d : D) (l : (Option Int)) (h : (Option Int)) (e3 : Env) : R D := opt (slD d l h) e3
@[simp] theorem c3_dSl_ap (d : D) (l : (Option Int)) (h : (Option Int)) (e3 : Env) : c3_dSl d l h e3 = (opt (slD d l h) e3) := rfl
def c2_dSl (hi : Env → R (Option Int)) (d : D) (l : (Option Int)) (e2 : Env) : R D := bnd (hi e2) (c3_dSl d l)
@[simp] theorem c2_dSl_ap (hi : Env → R (Option Int)) (d : D) (l : (Option Int)) (e2 : Env) : c2_dSl hi d l e2 = (bnd (hi e2) (c3_dSl d l)) := rfl
def c1_dSl (lo : Env → R (Option Int)) (hi : Env → R (Option Int)) (d : D) (e1 : Env) : R D := bnd (lo e1) (c2_dSl hi d)
@[simp] theorem c1_dSl_ap (lo : Env → R (Option Int)) (hi : Env → R (Option Int)) (d : D) (e1 : Env) : c1_dSl lo hi d e1 = (bnd (lo e1) (c2_dSl hi d)) := rfl
@[simp] theorem dSl_ap (f : Env → R D) (lo hi : Env → R (Option Int)) (e : Env) : dSl f lo hi e = (bnd (f e) (c1_dSl lo hi)) := rfl
def c1_dDisp (ks : List Key) (ds : (List D)) (e1 : Env) : R D := if ds.length = ks.length then .ok (.dct ks ds) e1 else .bad
@[simp] theorem c1_dDisp_ap (ks : List Key) (ds : (List D)) (e1 : Env) : c1_dDisp ks ds e1 = (if ds.length = ks.length then .ok (.dct ks ds) e1 else .bad) := rfl
@[simp] theorem dDisp_ap (ks : List Key) (f : Env → R (List D)) (e : Env) : dDisp ks f e = (bnd (f e) (c1_dDisp ks)) := rfl
def c4_dGet2 (a : D) (b : D) (c : D) (e3 : Env) : R D := opt (getD2 a b c) e3
@[simp] theorem c4_dGet2_ap (a : D) (b : D) (c : D) (e3 : Env) : c4_dGet2 a b c e3 = (opt (getD2 a b c) e3) := rfl
def c3_dGet2 (fc : Env → R D) (a : D) (b : D) (e2 : Env) : R D := bnd (fc e2) (c4_dGet2 a b)
@[simp] theorem c3_dGet2_ap (fc : Env → R D) (a : D) (b : D) (e2 : Env) : c3_dGet2 fc a b e2 = (bnd (fc e2) (c4_dGet2 a b)) := rfl
def c2_dGet2 (fb : Env → R D) (fc : Env → R D) (a : D) (z_ : Unit) (e1 : Env) : R D := bnd (fb e1) (c3_dGet2 fc a)
@[simp] theorem c2_dGet2_ap (fb : Env → R D) (fc : Env → R D) (a : D) (z_ : Unit) (e1 : Env) : c2_dGet2 fb fc a z_ e1 = (bnd (fb e1) (c3_dGet2 fc a)) := rfl
def c1_dGet2 (fb : Env → R D) (fc : Env → R D) (a : D) (e1 : Env) : R D := bnd (opt (isDct a) e1) (c2_dGet2 fb fc a)
@[simp] theorem c1_dGet2_ap (fb : Env → R D) (fc : Env → R D) (a : D) (e1 : Env) : c1_dGet2 fb fc a e1 = (bnd (opt (isDct a) e1) (c2_dGet2 fb fc a)) := rfl
@[simp] theorem dGet2_ap (fa fb fc : Env → R D) (e : Env) : dGet2 fa fb fc e = (bnd (fa e) (c1_dGet2 fb fc)) := rfl
def c1_dCallH (sh : List (Option Nat)) (fa : Env → R (List D)) (e : Env) (F : (List Slot → RF)) (e_ : Env) : R D := callF F sh fa kD e
@[simp] theorem c1_dCallH_ap (sh : List (Option Nat)) (fa : Env → R (List D)) (e : Env) (F : (List Slot → RF)) (e_ : Env) : c1_dCallH sh fa e F e_ = (callF F sh fa kD e) := rfl
@[simp] theorem dCallH_ap (i : Nat) (S : Nat → Option (List Slot → RF)) (sh : List (Option Nat)) (fa : Env → R (List D)) (e : Env) : dCallH i S sh fa e = (bnd (opt ((fnAt e i).bind S) e) (c1_dCallH sh fa e)) := rfl
@[simp] theorem sRaise0_ap (n : Nat) (e : Env) : sRaise0 n e = (.exc ⟨n, []⟩ e) := rfl
def c1_sRaise1 (n : Nat) (f : Str) (d : D) (e1 : Env) : RS := .exc ⟨n, [(f, d)]⟩ e1
@[simp] theorem c1_sRaise1_ap (n : Nat) (f : Str) (d : D) (e1 : Env) : c1_sRaise1 n f d e1 = (.exc ⟨n, [(f, d)]⟩ e1) := rfl
@[simp] theorem sRaise1_ap (n : Nat) (f : Str) (fe : Env → R D) (e : Env) : sRaise1 n f fe e = (sB (fe e) (c1_sRaise1 n f)) := rfl
def c1_dIsX  (b : Bool) (e : Env) : R D := .ok (.bl b) e
@[simp] theorem c1_dIsX_ap  (b : Bool) (e : Env) : c1_dIsX b e = (.ok (.bl b) e) := rfl
@[simp] theorem dIsX_ap (i : Nat) (r : Nat → Option Bool) (e : Env) : dIsX i r e = (bnd (opt ((xAt e i).bind fun x => r x.1) e) (c1_dIsX)) := rfl
@[simp] theorem dXf_ap (i : Nat) (f : Str) (r : Nat → Bool) (e : Env) : dXf i f r e = (opt ((xAt e i).bind fun x => if r x.1 = true then (x.2.1.zip x.2.2).lookup f else none) e) := rfl
def c1_dAct  (t : (List D × Option (Nat × List Str))) (e : Env) : R D := actR e t
@[simp] theorem c1_dAct_ap  (t : (List D × Option (Nat × List Str))) (e : Env) : c1_dAct t e = (actR e t) := rfl
@[simp] theorem dAct_ap (i : Nat) (e : Env) : dAct i e = (bnd (opt (thAt e i) e) (c1_dAct)) := rfl
@[simp] theorem sFor_ap (f : Env → R (List D)) (t : D → Env → Option Env) (body : Env → RS) (e : Env) : sFor f t body e = sB (f e) (forL t body) := rfl
/-- a call whose arguments and answer are known -/
theorem call_ok {α : Type} {F : List Slot → RF} {sh : List (Option Nat)} {fa : Env → R (List D)} {k : Slot → Option α} {e e1 : Env} {ds : List D} {ss : List Slot} {s : Slot} {outs : List (List D)} (h1 : fa e = .ok ds e1) (h2 : mkS sh ds e1 = some ss) (h3 : F ss = .ok s outs) : callF F sh fa k e = opt (k s) (putO (psN 0 sh) outs e1) := by
  unfold callF; rw [h1]; simp only [bnd_ok, h2, h3]
theorem call_exc {α : Type} {F : List Slot → RF} {sh : List (Option Nat)} {fa : Env → R (List D)} {k : Slot → Option α} {e e1 : Env} {ds : List D} {ss : List Slot} {x : Xc} {outs : List (List D)} (h1 : fa e = .ok ds e1) (h2 : mkS sh ds e1 = some ss) (h3 : F ss = .exc x outs) : callF F sh fa k e = .exc x (putO (psN 0 sh) outs e1) := by
  unfold callF; rw [h1]; simp only [bnd_ok, h2, h3]
def kS {α : Type} (F : List Slot → RF) (sh : List (Option Nat)) (k : Slot → Option α) (ds : List D) (e1 : Env) : R α := match mkS sh ds e1 with
  | none => .bad
  | some ss => match F ss with
    | .ok s outs => opt (k s) (putO (psN 0 sh) outs e1)
    | .exc x outs => .exc x (putO (psN 0 sh) outs e1)
    | .bad => .bad
@[simp] theorem callF_ap {α : Type} (F : List Slot → RF) (sh : List (Option Nat)) (fa : Env → R (List D)) (k : Slot → Option α) (e : Env) : callF F sh fa k e = bnd (fa e) (kS F sh k) := rfl
def kF {α : Type} (sh : List (Option Nat)) (k : Slot → Option α) (e1 : Env) (r : RF) : R α := match r with
  | .ok s outs => opt (k s) (putO (psN 0 sh) outs e1)
  | .exc x outs => .exc x (putO (psN 0 sh) outs e1)
  | .bad => .bad
theorem kS_some {α : Type} {F : List Slot → RF} {sh : List (Option Nat)} {k : Slot → Option α} {ds : List D} {e1 : Env} {ss : List Slot} (h : mkS sh ds e1 = some ss) : kS F sh k ds e1 = kF sh k e1 (F ss) := by
  unfold kS kF; rw [h]
@[simp] theorem kF_ok {α : Type} (sh : List (Option Nat)) (k : Slot → Option α) (e1 : Env) (s : Slot) (outs : List (List D)) : kF sh k e1 (.ok s outs) = opt (k s) (putO (psN 0 sh) outs e1) := rfl
@[simp] theorem kF_exc {α : Type} (sh : List (Option Nat)) (k : Slot → Option α) (e1 : Env) (x : Xc) (outs : List (List D)) : kF sh k e1 (.exc x outs) = .exc x (putO (psN 0 sh) outs e1) := rfl
@[simp] theorem kD_v (d : D) : kD (.v d) = some d := rfl
@[simp] theorem kD_m (d : List D) : kD (.m d) = some (.lst d) := rfl
@[simp] theorem kM_m (d : List D) : kM (.m d) = some d := rfl
/-- calls by the arguments' number, nothing of one's own among them -/
@[simp] theorem kS_1 {α : Type} (F : List Slot → RF) (k : Slot → Option α) (a : D) (e : Env) : kS F [none] k [a] e = kF [none] k e (F [.v a]) := rfl
@[simp] theorem kS_2 {α : Type} (F : List Slot → RF) (k : Slot → Option α) (a b : D) (e : Env) : kS F [none, none] k [a, b] e = kF [none, none] k e (F [.v a, .v b]) := rfl
@[simp] theorem kS_3 {α : Type} (F : List Slot → RF) (k : Slot → Option α) (a b c : D) (e : Env) : kS F [none, none, none] k [a, b, c] e = kF [none, none, none] k e (F [.v a, .v b, .v c]) := rfl
@[simp] theorem putO_1 (outs : List (List D)) (e : Env) : putO (psN 0 [none]) outs e = e := by simp [psN, putO]
@[simp] theorem putO_2 (outs : List (List D)) (e : Env) : putO (psN 0 [none, none]) outs e = e := by simp [psN, putO]
@[simp] theorem putO_3 (outs : List (List D)) (e : Env) : putO (psN 0 [none, none, none]) outs e = e := by simp [psN, putO]
@[simp] theorem isi_T (d : D) (T : String) : isiD [d, .ty T] = isiD1 d T := rfl
@[simp] theorem asB_bl (b : Bool) : asB (.bl b) = some b := rfl
@[simp] theorem on1_ap (F : D → Option D) (a : D) : on1 F [a] = F a := rfl
@[simp] theorem on2_ap (F : D → D → Option D) (a b : D) : on2 F [a, b] = F a b := rfl
@[simp] theorem truth_bl (b : Bool) : truthD (.bl b) = some b := rfl
@[simp] theorem asI_int (i : Int) : asI (.int i) = some i := rfl
@[simp] theorem cmpI_ii (p : Int → Int → Bool) (i j : Int) : cmpI p (.int i) (.int j) = some (.bl (p i j)) := rfl
@[simp] theorem add_ii (i j : Int) : addD (.int i) (.int j) = some (.int (i + j)) := rfl
@[simp] theorem sub_ii (i j : Int) : subD (.int i) (.int j) = some (.int (i - j)) := rfl
@[simp] theorem isN_non (x : D) : isND x .non = some (.bl (isNon x)) := rfl
@[simp] theorem notN_non (x : D) : notND x .non = some (.bl (!isNon x)) := rfl
end DL
end

section
set_option Elab.async false
set_option linter.all false
set_option maxRecDepth 100000
namespace DL
open PySem PySem.Spec PyProof.Rows L2
def betw (d : D) (lo hi : Int) : Bool := match d with
  | .int i => decide (lo ≤ i) && decide (i ≤ hi)
  | _ => false
def dataD : D → Bool
  | .non | .bl _ | .int _ | .str _ | .tup _ | .lst _ | .dct _ _ => true
  | _ => false
@[simp] theorem outM_0 (e : Env) : outM [] e = [] := rfl
@[simp] theorem outM_1 (ds : List D) (e : Env) : outM [0] (some (.m ds) :: e) = [ds] := rfl
@[simp] theorem mAt_0 (ds : List D) (e : Env) : mAt (some (.m ds) :: e) 0 = some ds := rfl
@[simp] theorem ix_l0 (a : D) (l : List D) : ixD (.lst (a :: l)) (.int 0) = some a := by simp [ixD, atI, ixN]
@[simp] theorem ix_l1 (a b : D) (l : List D) : ixD (.lst (a :: b :: l)) (.int 1) = some b := by
  have : (1 : Int) < (l.length : Int) + 1 + 1 := by omega
  simp [ixD, atI, ixN, this]
@[simp] theorem ix_l2 (a b c : D) (l : List D) : ixD (.lst (a :: b :: c :: l)) (.int 2) = some c := by
  have : (2 : Int) < (l.length : Int) + 1 + 1 + 1 := by omega
  simp [ixD, atI, ixN, this]
theorem isi_int (d : D) (h : dataD d = true) : isiD1 d "int" = some (.bl (match d with | .int _ => true | .bl _ => true | _ => false)) := by
  cases d <;> first | (cases h; done) | (simp [isiD1, okTy, tyD, isTy])
theorem isi_bool (d : D) (h : dataD d = true) : isiD1 d "bool" = some (.bl (match d with | .bl _ => true | _ => false)) := by
  cases d <;> first | (cases h; done) | (simp [isiD1, okTy, tyD, isTy])
theorem isi_tuple (d : D) (h : dataD d = true) : isiD1 d "tuple" = some (.bl (match d with | .tup _ => true | _ => false)) := by
  cases d <;> first | (cases h; done) | (simp [isiD1, okTy, tyD, isTy])
theorem isi_str (d : D) (h : dataD d = true) : isiD1 d "str" = some (.bl (match d with | .str _ => true | _ => false)) := by
  cases d <;> first | (cases h; done) | (simp [isiD1, okTy, tyD, isTy])
theorem between_eq (d : D) (lo hi : Int) (h : dataD d = true) : F_is_between [.v d, .v (.int lo), .v (.int hi)] = .ok (.v (.bl (betw d lo hi))) [] := by
  simp [F_is_between, startE, f_is_between, isi_int d h, isi_bool d h]
  cases d <;> first | (cases h; done) | (simp [betw])
  rename_i i
  by_cases q : lo ≤ i <;> simp [q]
theorem within_eq (d : D) (lo hi : Int) (h : dataD d = true) : F__law_within [.v d, .v (.int lo), .v (.int hi)] = .ok (.v (.bl (betw d lo hi))) [] := by
  simp [F__law_within, startE, f__law_within, isi_int d h, isi_bool d h]
  cases d <;> first | (cases h; done) | (simp [betw])
  rename_i i
  by_cases q : lo ≤ i <;> simp [q]
@[simp] theorem ixN_0 (n : Nat) : ixN (n + 1) 0 = some 0 := by simp [ixN]
@[simp] theorem ixN_30 : ixN 3 0 = some 0 := by decide
@[simp] theorem ixN_32 : ixN 3 2 = some 2 := by decide
/-- a pot -/
def potL (c x k : Int) : List D := [.int c, .int x, .int k]
def potOk (K : Nat) (ds : List D) : Prop := ∃ c x k, ds = potL c x k ∧ 0 ≤ c ∧ 0 ≤ x ∧ x < 2 ^ 61 ∧ 0 ≤ k ∧ k ≤ (K : Int)
theorem mod_lt61 (a m : Int) (h : 0 < m) (h2 : m ≤ 2 ^ 61) : 0 ≤ a % m ∧ a % m < 2 ^ 61 := ⟨Int.emod_nonneg _ (by omega), by have := Int.emod_lt_of_pos a h; omega⟩
theorem log2_lt (a : Int) (b : Nat) (h1 : 0 ≤ a) (h2 : a < 2 ^ b) : a.natAbs.log2 ≤ b := by
  by_cases z : a.natAbs = 0
  · rw [z]; simp
  · have h3 : a.natAbs < 2 ^ b := by
      have : ((a.natAbs : Nat) : Int) < ((2 ^ b : Nat) : Int) := by rw [Int.natAbs_of_nonneg h1]; push_cast; exact h2
      exact_mod_cast this
    have := (Nat.log2_lt z).mpr h3
    omega
theorem pow_ii (i j : Int) (b : Nat) (h1 : 0 ≤ i) (h2 : i < 2 ^ b) (hb : b < 1000000) (hj : 0 ≤ j) (hj2 : j ≤ 64) : powD (.int i) (.int j) = some (.int (i ^ j.toNat)) := by
  have := log2_lt i b h1 h2
  exact if_pos ⟨hj, hj2, by omega⟩
theorem mod_ii (i j : Int) (h : 0 < j) : modD (.int i) (.int j) = some (.int (i % j)) := if_pos h
theorem fdiv_ii (i j : Int) (h : 0 < j) (h2 : j < 2 ^ 64) : fdivD (.int i) (.int j) = some (.int (i / j)) := by
  have := log2_lt j 64 (by omega) h2
  exact if_pos ⟨h, by omega⟩
theorem mul_ii (i j : Int) (h : -(2 ^ 64) < i ∧ i < 2 ^ 64) : mulD (.int i) (.int j) = some (.int (i * j)) := by
  exact if_pos (by simp only [small64, h.1, h.2, decide_true, Bool.and_self, Bool.true_or])
theorem take_eq (K : Nat) (hK : K ≤ 1000000) (ds : List D) (n : Int) (h : potOk K ds) (hn : 0 < n) (hn2 : n < 2 ^ 64) : ∃ i ds', F__law_take [.m ds, .v (.int n)] = .ok (.v (.int i)) [ds'] ∧ 0 ≤ i ∧ i < n ∧ potOk (K + 1) ds' := by
  obtain ⟨c, x, k, e, hc, hx, hx2, hk, hk2⟩ := h
  subst e
  by_cases z : 0 < c
  · refine ⟨c % n, potL (c / n) x k, ?_, Int.emod_nonneg _ (by omega), Int.emod_lt_of_pos _ hn, _, _, _, rfl, Int.ediv_nonneg hc (by omega), hx, hx2, hk, by omega⟩
    simp [F__law_take, startE, f__law_take, potL, z, mod_ii _ _ hn, fdiv_ii _ _ hn hn2]
  · have m1 : ∀ i : Int, 0 ≤ i % 2305843009213693921 ∧ i % 2305843009213693921 < 2 ^ 61 := fun i => mod_lt61 i _ (by decide) (by decide)
    have m3 : 0 ≤ x % 65537 ∧ x % 65537 < 65537 := ⟨Int.emod_nonneg _ (by decide), Int.emod_lt_of_pos _ (by decide)⟩
    have b3 : powD (.int (x + 104729 * (k + 1))) (.int 3) = some (.int ((x + 104729 * (k + 1)) ^ 3)) := pow_ii _ 3 70 (by omega) (by omega) (by decide) (by decide) (by decide)
    have b5 : powD (.int ((x + 104729 * (k + 1)) ^ 3 % 2305843009213693921 + x % 65537 + 31 * (k + 1))) (.int 5) = some (.int (((x + 104729 * (k + 1)) ^ 3 % 2305843009213693921 + x % 65537 + 31 * (k + 1)) ^ 5)) := by
      have := m1 ((x + 104729 * (k + 1)) ^ 3)
      exact pow_ii _ 5 70 (by omega) (by omega) (by decide) (by decide) (by decide)
    refine ⟨(((x + 104729 * (k + 1)) ^ 3 % 2305843009213693921 + x % 65537 + 31 * (k + 1)) ^ 5 % 2305843009213693907 / 1024) % n, potL c x (k + 1), ?_, Int.emod_nonneg _ (by omega), Int.emod_lt_of_pos _ hn, _, _, _, rfl, hc, hx, hx2, by omega, by omega⟩
    · simp [F__law_take, startE, f__law_take, potL, z, mod_ii _ _ hn, mod_ii _ 2305843009213693921, mod_ii _ 65537, mod_ii _ 2305843009213693907, mul_ii, b3, b5, fdiv_ii _ 1024]
end DL
end

section
set_option Elab.async false
set_option linter.all false
set_option maxRecDepth 100000
namespace DL
open PySem PySem.Spec PyProof.Rows L2
def intL (ns : List Int) : List D := ns.map .int
@[simp] theorem intL_len (ns : List Int) : (intL ns).length = ns.length := by simp [intL]
theorem atI_int (ns : List Int) (j : Nat) (h : j < ns.length) : ixD (.lst (intL ns)) (.int (j : Int)) = some (.int (ns.getD j 0)) := by
  have h2 : (j : Int) < ((intL ns).length : Int) := by rw [intL_len]; exact_mod_cast h
  have h3 : ixN (intL ns).length (j : Int) = some j := by
    unfold ixN; rw [if_pos (by omega : (0 : Int) ≤ (j : Int)), if_pos h2]; simp
  simp only [ixD, atI, h3, Option.bind_some]
  simp [intL, List.getElem?_eq_getElem h]
theorem mul_b (a : Int) (b : Bool) : mulD (.int a) (.int (if b = true then 1 else 0)) = some (.int (a * if b = true then 1 else 0)) := by
  refine if_pos ?_
  have : small64 (if b = true then 1 else 0) = true := by cases b <;> decide
  simp only [this, Bool.or_true, Bool.true_or]
theorem mul_b2 (a : Int) (p : Prop) [Decidable p] : mulD (.int a) (.int (if p then 1 else 0)) = some (.int (a * if p then 1 else 0)) := by
  by_cases q : p
  · simpa [q] using mul_b a true
  · simpa [q] using mul_b a false
theorem pot_eq (ns : List Int) (j : Nat) (hj : j < 1000) : ∃ ds, F__law_pot [.v (.lst (intL ns)), .v (.int (j : Int))] = .ok (.m ds) [] ∧ potOk 0 ds := by
  have m1 : ∀ i : Int, 0 ≤ i % 2147483629 ∧ i % 2147483629 < 2147483629 := fun i => ⟨Int.emod_nonneg _ (by decide), Int.emod_lt_of_pos _ (by decide)⟩
  have p1 : powD (.int 10) (.int 60) = some (.int (10 ^ 60)) := pow_ii 10 60 4 (by decide) (by decide) (by decide) (by decide) (by decide)
  have p2 : powD (.int (10 ^ 60)) (.int 14) = some (.int ((10 ^ 60) ^ 14)) := pow_ii (10 ^ 60) 14 200 (by decide) (by decide) (by decide) (by decide) (by decide)
  have p3 : powD (.int 10) (.int 18) = some (.int (10 ^ 18)) := pow_ii 10 18 4 (by decide) (by decide) (by decide) (by decide) (by decide)
  have p5 : ∀ a : Int, powD (.int (a % 2147483629 + 7919 * (j : Int) + 1)) (.int 5) = some (.int ((a % 2147483629 + 7919 * (j : Int) + 1) ^ 5)) := fun a => by
    have := m1 a
    exact pow_ii _ 5 70 (by omega) (by omega) (by decide) (by decide) (by decide)
  have fin1 : ∀ a : Int, 0 ≤ a → potOk 0 (potL (a * (if 10 ^ 18 ≤ a then 1 else 0)) ((a % 2147483629 + 7919 * (j : Int) + 1) ^ 5 % 2305843009213693951) 0) := fun a ha => by
    have := mod_lt61 ((a % 2147483629 + 7919 * (j : Int) + 1) ^ 5) 2305843009213693951 (by decide) (by decide)
    refine ⟨_, _, _, rfl, ?_, this.1, this.2, by omega, by omega⟩
    split <;> omega
  by_cases z : j < ns.length
  · have z2 : (j : Int) < ((ns.length : Nat) : Int) := by exact_mod_cast z
    have ha := atI_int ns j z
    have hp : (0 : Int) < (10 ^ 60) ^ 14 := by decide
    generalize ns.getD j 0 = v at *
    have mm := fun i => mod_ii i ((10 ^ 60) ^ 14) hp
    have q0 : 0 ≤ (if v < 0 then - v else v) % ((10 : Int) ^ 60) ^ 14 := Int.emod_nonneg _ (by omega)
    generalize hM : ((10 : Int) ^ 60) ^ 14 = M at *
    have ma := mm (if v < 0 then - v else v)
    generalize (if v < 0 then - v else v) % M = a at *
    refine ⟨_, ?_, fin1 a q0⟩
    have pa := p5 a
    have m7 := fun i => mul_ii 7919 i (by decide)
    simp [F__law_pot, startE, f__law_pot, lenD, z2, absD, ha, -Int.reducePow, p1, p2, p3, ma, pa, mod_ii, m7, intD, potL, mul_b2]
  · have z2 : ¬ (j : Int) < ((ns.length : Nat) : Int) := by omega
    have p50 := p5 0
    simp at p50
    refine ⟨_, ?_, fin1 0 (by omega)⟩
    simp [F__law_pot, startE, f__law_pot, lenD, z2, mod_ii, mul_ii, p50, absD, intD, potL, p3]
end DL
end

section
set_option Elab.async false
set_option linter.all false
set_option maxRecDepth 100000
namespace DL
open PySem PySem.Spec PyProof.Rows L2
theorem set_int (ms : List Int) (j : Nat) (v : Int) : (intL ms).set j (.int v) = intL (ms.set j v) := by simp [intL]
theorem fold_step (ns ms : List Int) (i : Nat) (o : Option Slot) (hi : i < ns.length) (hm : ms.length = 16) : ∃ ms', ms'.length = 16 ∧ (sSetM 2 (dBin modD (dVar 3) (dVar 1)) (dBin addD (dBin mulD (dIxM 2 (dBin modD (dVar 3) (dVar 1))) (dC (.int 31))) (dBin ixD (dVar 0) (dVar 3)))) [some (.v (.lst (intL ns))), some (.v (.int 16)), some (.m (intL ms)), some (.v (.int (i : Int)))] = .nx [some (.v (.lst (intL ns))), some (.v (.int 16)), some (.m (intL ms')), some (.v (.int (i : Int)))] := by
  have h1 := atI_int ns i hi
  have hj : i % 16 < ms.length := by omega
  have h2 := atI_int ms (i % 16) hj
  have h3 : modD (.int (i : Int)) (.int 16) = some (.int ((i % 16 : Nat) : Int)) := by rw [mod_ii _ _ (by decide)]; rfl
  have h4 : ∀ a, mulD (.int a) (.int 31) = some (.int (a * 31)) := fun a => if_pos (by
    have q31 : small64 31 = true := by decide
    simp only [q31, Bool.or_true, Bool.true_or])
  have h5 : ixN 16 ((i % 16 : Nat) : Int) = some (i % 16) := by
    unfold ixN; rw [if_pos (by omega), if_pos (by omega)]; congr 1
  generalize hk : i % 16 = k at *
  refine ⟨ms.set k (ms.getD k 0 * 31 + ns.getD i 0), by rw [List.length_set]; exact hm, ?_⟩
  simp [mAt, h1, h2, h3, h4, h5, hm, set_int]
theorem fold_loop (ns : List Int) : ∀ (n : Nat) (lo : Nat) (ms : List Int) (o : Option Slot), lo + n ≤ ns.length → ms.length = 16 → ∃ ms' o', ms'.length = 16 ∧ forL (gtN 3) (sSetM 2 (dBin modD (dVar 3) (dVar 1)) (dBin addD (dBin mulD (dIxM 2 (dBin modD (dVar 3) (dVar 1))) (dC (.int 31))) (dBin ixD (dVar 0) (dVar 3)))) (rangeL (lo : Int) n) [some (.v (.lst (intL ns))), some (.v (.int 16)), some (.m (intL ms)), o] = .nx [some (.v (.lst (intL ns))), some (.v (.int 16)), some (.m (intL ms')), o']
  | 0, lo, ms, o, h, hm => ⟨ms, o, hm, by simp [rangeL, forL]⟩
  | n + 1, lo, ms, o, h, hm => by
    obtain ⟨ms1, hm1, h1⟩ := fold_step ns ms lo o (by omega) hm
    obtain ⟨ms2, o2, hm2, h2⟩ := fold_loop ns n (lo + 1) ms1 (some (.v (.int (lo : Int)))) (by omega) hm1
    refine ⟨ms2, o2, hm2, ?_⟩
    have er : rangeL (lo : Int) (n + 1) = .int (lo : Int) :: rangeL ((lo + 1 : Nat) : Int) n := by
      unfold rangeL
      rw [List.range_succ_eq_map]
      simp only [List.map_cons, List.map_map]
      congr 1
      apply List.map_congr_left
      intro a _
      simp only [Function.comp]
      congr 1
      push_cast
      omega
    rw [er]
    unfold forL
    simp only [gtN, List.set_cons_succ, List.set_cons_zero, sO_some]
    rw [h1]
    exact h2
theorem wide_n (k : Nat) (hk : k ≤ 63) : wide62 (k : Int) = true := by
  simp only [wide62, Bool.and_eq_true, decide_eq_true_eq]
  omega
theorem wide_16 : wide62 16 = true := by decide
theorem min_63 (n : Nat) (h : n ≤ 63) : min2D (.int 63) (.int (n : Int)) = some (.int (n : Int)) := by
  show some (D.int (if (n : Int) < 63 then (n : Int) else 63)) = _
  congr 2; split <;> omega
abbrev foldBody : Env → RS := sSetM 2 (dBin modD (dVar 3) (dVar 1)) (dBin addD (dBin mulD (dIxM 2 (dBin modD (dVar 3) (dVar 1))) (dC (.int 31))) (dBin ixD (dVar 0) (dVar 3)))
theorem c4_ok (i j : Int) (h1 : wide62 i = true) (h2 : wide62 j = true) (e : Env) : c4_iRange2 i j e = .ok (rangeL i (j - i).toNat) e := by
  have h : (wide62 i && wide62 j) = true := by rw [h1, h2]; rfl
  exact if_pos h
theorem range2_ok {fa fb : Env → R D} {i j : Int} {e : Env} (h1 : fa e = .ok (.int i) e) (h2 : fb e = .ok (.int j) e) (w1 : wide62 i = true) (w2 : wide62 j = true) : iRange2 fa fb e = .ok (rangeL i (j - i).toNat) e := by
  rw [iRange2_ap, h1, bnd_ok, c1_iRange2_ap, h2, bnd_ok, c2_iRange2_ap, asI_int, opt_some, bnd_ok, c3_iRange2_ap, asI_int, opt_some, bnd_ok]
  exact c4_ok i j w1 w2 e
theorem folded_l (ns : List Int) (h : ns.length ≤ 63) (r : Env) : (dCal (on2 min2D) (dCons (dC (.int 63)) (dCons (dCal (on1 lenD) (dCons (dVar 0) dNil)) dNil))) (some (.v (.lst (intL ns))) :: r) = .ok (.int (ns.length : Int)) (some (.v (.lst (intL ns))) :: r) := by
  have hl : lenD (.lst (intL ns)) = some (.int (ns.length : Int)) := by simp [lenD]
  have hm := min_63 _ h
  generalize min2D = mm at *
  simp [hl, hm]
theorem folded_a (ns : List Int) (h : ns.length ≤ 63) (o p : Option Slot) : iRange2 (dVar 1) (dCal (on2 min2D) (dCons (dC (.int 63)) (dCons (dCal (on1 lenD) (dCons (dVar 0) dNil)) dNil))) [some (.v (.lst (intL ns))), some (.v (.int 16)), o, p] = .ok (rangeL 16 ((ns.length : Int) - 16).toNat) [some (.v (.lst (intL ns))), some (.v (.int 16)), o, p] :=
  range2_ok rfl (folded_l ns h _) wide_16 (wide_n _ h)
theorem folded_b (ns : List Int) : sAsgM 2 (mList (dSl (dVar 0) pNo (pSome (dVar 1)))) [some (.v (.lst (intL ns))), some (.v (.int 16)), none, none] = .nx [some (.v (.lst (intL ns))), some (.v (.int 16)), some (.m (intL (ns.take 16))), none] := by
  have hc : slD (.lst (intL ns)) none (some 16) = some (.lst (intL (ns.take 16))) := by
    simp [slD, cutD, HT.sIx, intL]
  simp [hc]
theorem folded_hd (ns : List Int) (h : ns.length ≤ 63) : F__law_folded [.v (.lst (intL ns)), .v (.int 16)] = fin [] (sq (forL (gtN 3) foldBody (rangeL 16 ((ns.length : Int) - 16).toNat) [some (.v (.lst (intL ns))), some (.v (.int 16)), some (.m (intL (ns.take 16))), none]) (sRet (dFrz 2))) := by
  have e : startE 4 [.v (.lst (intL ns)), .v (.int 16)] = [some (.v (.lst (intL ns))), some (.v (.int 16)), none, none] := rfl
  unfold F__law_folded f__law_folded
  rw [e, sSeq_ap, folded_b, sq_nx, sSeq_ap, sFor_ap, folded_a ns h, sB_ok]
end DL
end

section
set_option Elab.async false
set_option linter.all false
set_option maxRecDepth 100000
namespace DL
open PySem PySem.Spec PyProof.Rows L2
theorem folded_eq (ns : List Int) (h : ns.length ≤ 63) : ∃ ms : List Int, ms.length ≤ 16 ∧ F__law_folded [.v (.lst (intL ns)), .v (.int 16)] = .ok (.v (.lst (intL ms))) [] := by
  rw [folded_hd ns h]
  by_cases z : ns.length ≤ 16
  · refine ⟨ns.take 16, by rw [List.length_take]; omega, ?_⟩
    have hn : ((ns.length : Int) - 16).toNat = 0 := by omega
    rw [hn]
    simp [rangeL, forL]
  · obtain ⟨ms, o, hms, hf⟩ := fold_loop ns (ns.length - 16) 16 (ns.take 16) none (by omega) (by rw [List.length_take]; omega)
    have hn : ((ns.length : Int) - 16).toNat = ns.length - 16 := by omega
    refine ⟨ms, by omega, ?_⟩
    rw [hn]
    rw [show ((16 : Nat) : Int) = 16 from rfl] at hf
    rw [hf]
    simp
end DL
end

section
set_option Elab.async false
set_option linter.all false
set_option maxRecDepth 100000
namespace DL
open PySem PySem.Spec PyProof.Rows L2
def whoB (w : Int) (a : D) : Bool := isNon a || betw a 0 (w - 1)
def okD (d : D) : Prop := dep d ≤ 60 ∨ d = .dct [] []
theorem okD_data (d : D) (h : okD d) : dataD d = true := by
  rcases h with h | h
  · cases d <;> first | rfl | (simp [dep] at h)
  · subst h; rfl
theorem who_eq (w : Int) (d : D) (h : dataD d = true) : F_is_who [.v (.int w), .v d] = .ok (.v (.bl (whoB w d))) [] := by
  have hb := between_eq d 0 (w - 1) h
  unfold whoB
  cases hn : isNon d <;> simp [F_is_who, startE, f_is_who, hn, hb]
theorem came_eq (w : Int) (a b : D) (ha : dataD a = true) (hb : dataD b = true) : F_fits_came [.v (.int w), .v a, .v b] = .ok (.v (.bl (whoB w a && betw b 1 4))) [] := by
  have h1 := who_eq w a ha
  have h2 := between_eq b 1 4 hb
  cases hn : whoB w a <;> simp [F_fits_came, startE, f_fits_came, h1, h2, hn]
theorem round_eq (w : Int) (a b : D) (ha : dataD a = true) (hb : dataD b = true) : F_fits_round [.v (.int w), .v a, .v b] = .ok (.v (.bl (whoB w a && betw b 2 4))) [] := by
  have h1 := who_eq w a ha
  have h2 := between_eq b 2 4 hb
  cases hn : whoB w a <;> simp [F_fits_round, startE, f_fits_round, h1, h2, hn]
def difB (a b : D) : Bool := match a, b with
  | .int i, .int j => !(i == j)
  | _, _ => false
theorem betw_int {d : D} {lo hi : Int} (h : betw d lo hi = true) : ∃ i, d = .int i := by
  cases d <;> first | (simp [betw] at h; done) | exact ⟨_, rfl⟩
theorem since_eq (w : Int) (a b : D) (ha : dataD a = true) (hb : dataD b = true) : F_fits_since [.v (.int w), .v a, .v b] = .ok (.v (.bl (betw a 0 (w - 1) && (betw b 0 (w - 1) && difB a b)))) [] := by
  have h1 := between_eq a 0 (w - 1) ha
  have h2 := between_eq b 0 (w - 1) hb
  cases hn : betw a 0 (w - 1)
  · simp [F_fits_since, startE, f_fits_since, h1, h2, hn]
  · cases hm : betw b 0 (w - 1)
    · simp [F_fits_since, startE, f_fits_since, h1, h2, hn, hm]
    · obtain ⟨i, rfl⟩ := betw_int hn
      obtain ⟨j, rfl⟩ := betw_int hm
      simp [F_fits_since, startE, f_fits_since, h1, h2, hn, hm, neS, neD, dep, eqv, difB]
def noteB (w : Int) : D → Bool
  | .tup (.str k :: rest) =>
    if k = "last" ∨ k = "first" then rest.isEmpty
    else match rest with
      | [a] => decide (k = "here") && whoB w a
      | [a, b] => if k = "came" then whoB w a && betw b 1 4 else if k = "round" then whoB w a && betw b 2 4 else
          if k = "since" then betw a 0 (w - 1) && (betw b 0 (w - 1) && difB a b) else false
      | _ => false
  | _ => false
end DL
end

section
set_option Elab.async false
set_option linter.all false
set_option maxRecDepth 100000
namespace DL
open PySem PySem.Spec PyProof.Rows L2
def tupB : D → Bool
  | .tup _ => true
  | _ => false
def strB : D → Bool
  | .str _ => true
  | _ => false
theorem isi_tuple2 (d : D) (h : dataD d = true) : isiD1 d "tuple" = some (.bl (tupB d)) := by
  cases d <;> first | (cases h; done) | (simp [isiD1, okTy, tyD, isTy, tupB])
theorem isi_str2 (d : D) (h : dataD d = true) : isiD1 d "str" = some (.bl (strB d)) := by
  cases d <;> first | (cases h; done) | (simp [isiD1, okTy, tyD, isTy, strB])
theorem eq_emp (h : D) (r : List D) (o : dep (.tup (h :: r)) ≤ 60) : eqS (.tup (h :: r)) (.tup []) = some (.bl false) := by
  show eqD _ _ = _
  unfold eqD
  rw [if_pos ⟨o, by simp [dep, depL]⟩]
  simp [eqv, eqvL]
theorem dep_cons {h : D} {r : List D} (o : dep (.tup (h :: r)) ≤ 60) : dep h ≤ 60 ∧ depL r + 1 ≤ 60 := by
  simp [dep, depL] at o; omega
theorem data60 {d : D} (h : dep d ≤ 60) : dataD d = true := okD_data d (.inl h)
@[simp] theorem eqS_ii (i j : Int) : eqS (.int i) (.int j) = some (.bl (i == j)) := by
  show eqD _ _ = _
  unfold eqD
  rw [if_pos ⟨by simp [dep], by simp [dep]⟩]
  simp [eqv]
@[simp] theorem neS_ii (i j : Int) : neS (.int i) (.int j) = some (.bl (!(i == j))) := by
  show neD _ _ = _
  unfold neD
  rw [if_pos ⟨by simp [dep], by simp [dep]⟩]
  simp [eqv]
@[simp] theorem eqS_ss (i j : Str) : eqS (.str i) (.str j) = some (.bl (decide (i = j))) := rfl
@[simp] theorem neS_ss (i j : Str) : neS (.str i) (.str j) = some (.bl (!decide (i = j))) := rfl
theorem yes_lf (k : Str) : yesD (.str k) (.tup [.str (Str.ofString "last"), .str (Str.ofString "first")]) = some (.bl (decide (k = Str.ofString "last" ∨ k = Str.ofString "first"))) := by
  simp [yesD, inD, flatD, eqv]
  have h : ∀ s : Str, (s == k) = decide (k = s) := fun s => by
    by_cases q : k = s
    · subst q; simp
    · simp [q, Ne.symm q]
  rw [h, h]
theorem is_note_of_eq (w : Int) (d : D) (o : okD d) (hl : ∀ xs, d = .tup xs → xs.length ≤ 1000) : F_is_note_of [.v (.int w), .v d] = .ok (.v (.bl (noteB w d))) [] := by
  have hd := okD_data d o
  have ht := isi_tuple2 d hd
  by_cases q : ∃ xs, d = .tup xs
  · obtain ⟨xs, rfl⟩ := q
    have o2 : dep (.tup xs) ≤ 60 := by rcases o with o | o
                                       · exact o
                                       · cases o
    cases xs with
    | nil => simp [F_is_note_of, startE, f_is_note_of, ht, eqS, eqD, dep, depL, eqv, eqvL, noteB]
    | cons h r =>
      have he := eq_emp h r o2
      obtain ⟨oh, or⟩ := dep_cons o2
      have hs := isi_str2 h (data60 oh)
      have hx : ixD (.tup (h :: r)) (.int 0) = some h := by simp [ixD, atI]
      by_cases q2 : ∃ k, h = .str k
      · obtain ⟨k, rfl⟩ := q2
        have er : eqS (.lst r) (.lst []) = some (.bl r.isEmpty) := by
          show eqD _ _ = _
          unfold eqD
          rw [if_pos ⟨by simp [dep]; omega, by simp [dep, depL]⟩]
          cases r <;> simp [eqv, eqvL]
        have hl2 : r.length + 1 ≤ 16777216 := by have := hl _ rfl; simp at this; omega
        have ht2 : isiD1 (.tup (.str k :: r)) "tuple" = some (.bl true) := ht
        have hs2 : isiD1 (.str k) "str" = some (.bl true) := hs
        simp [F_is_note_of, startE, f_is_note_of, ht2, he, hx, hs2, gtStar, gtCons, gtNil, hl2]
        rw [yes_lf]
        by_cases c1 : k = Str.ofString "last" ∨ k = Str.ofString "first"
        · simp [c1, er, noteB]
        · have c1a := (not_or.mp c1).1
          have c1b := (not_or.mp c1).2
          simp [c1a, c1b]
          by_cases c2 : k = Str.ofString "here"
          · subst c2
            rcases r with _ | ⟨a, _ | ⟨b, r⟩⟩
            · simp [lenD, noteB, c1a, c1b]
            · have ha : dataD a = true := data60 (by simp [depL] at or; omega)
              have hw := who_eq w a ha
              simp [lenD, noteB, c1a, c1b, ixD, atI, hw]
            · have hz : ¬ ((r.length : Int) + 1 + 1 = 1) := by omega
              have hn1 : ¬ (Str.ofString "here" = Str.ofString "came") := by decide
              have hn2 : ¬ (Str.ofString "here" = Str.ofString "round") := by decide
              have hn3 : ¬ (Str.ofString "here" = Str.ofString "since") := by decide
              have nb : noteB w (.tup (.str (Str.ofString "here") :: a :: b :: r)) = false := by
                cases r <;> simp [noteB, c1a, c1b, hn1, hn2, hn3]
              simp [lenD, hz, nb]
          · simp [c2]
            by_cases c3 : r.length = 2
            · obtain ⟨a, b, rfl⟩ : ∃ a b, r = [a, b] := by
                rcases r with _ | ⟨a, _ | ⟨b, _ | ⟨c, r⟩⟩⟩
                · simp at c3
                · simp at c3
                · exact ⟨a, b, rfl⟩
                · simp at c3
              have ha : dataD a = true := data60 (by simp [depL] at or; omega)
              have hb : dataD b = true := data60 (by simp [depL] at or; omega)
              have k1 := came_eq w a b ha hb
              have k2 := round_eq w a b ha hb
              have k3 := since_eq w a b ha hb
              have i0 : ixD (.lst [a, b]) (.int 0) = some a := by simp
              have i1 : ixD (.lst [a, b]) (.int 1) = some b := by simp
              by_cases d1 : k = Str.ofString "came"
              · subst d1
                have t1 : inT tab_PAIRS true (.str (Str.ofString "came")) = some (.bl false) := rfl
                have t2 : ixT tab_PAIRS (.str (Str.ofString "came")) = some (.fn 17) := rfl
                simp [t1, t2, lenD, noteB, c1a, c1b, i0, i1, fnAt, held_PAIRS, k1]
              · by_cases d2 : k = Str.ofString "round"
                · subst d2
                  have t1 : inT tab_PAIRS true (.str (Str.ofString "round")) = some (.bl false) := rfl
                  have t2 : ixT tab_PAIRS (.str (Str.ofString "round")) = some (.fn 18) := rfl
                  simp [t1, t2, lenD, noteB, c1a, c1b, d1, i0, i1, fnAt, held_PAIRS, k2]
                · by_cases d3 : k = Str.ofString "since"
                  · subst d3
                    have t1 : inT tab_PAIRS true (.str (Str.ofString "since")) = some (.bl false) := rfl
                    have t2 : ixT tab_PAIRS (.str (Str.ofString "since")) = some (.fn 19) := rfl
                    simp [t1, t2, lenD, noteB, c1a, c1b, d1, d2, i0, i1, fnAt, held_PAIRS, k3]
                  · have t1 : inT tab_PAIRS true (.str k) = some (.bl true) := by
                      simp [inT, tab_PAIRS, List.lookup, beq_eq_false_iff_ne.mpr d1, beq_eq_false_iff_ne.mpr d2, beq_eq_false_iff_ne.mpr d3]
                    simp [t1, lenD, noteB, c1a, c1b, d1, d2, d3]
            · have c4 : ¬ ((r.length : Int) = 2) := by omega
              have nb : noteB w (.tup (.str k :: r)) = false := by
                rcases r with _ | ⟨a, _ | ⟨b, _ | ⟨c, r⟩⟩⟩
                · simp [noteB, c1a, c1b]
                · simp [noteB, c1a, c1b, c2]
                · simp at c3
                · simp [noteB, c1a, c1b]
              cases ht : (tab_PAIRS.lookup k).isSome <;> simp [inT, ht, lenD, c4, nb]
      · have hf : strB h = false := by
          cases h <;> first | rfl | (exact absurd ⟨_, rfl⟩ q2)
        rw [hf] at hs
        simp [F_is_note_of, startE, f_is_note_of, ht, he, hx, hs]
        cases h <;> first | rfl | (exact absurd ⟨_, rfl⟩ q2)
  · have hf : tupB d = false := by
      cases d <;> first | rfl | (exact absurd ⟨_, rfl⟩ q)
    rw [hf] at ht
    simp [F_is_note_of, startE, f_is_note_of, ht]
    cases d <;> first | rfl | (exact absurd ⟨_, rfl⟩ q)
end DL
end

section
set_option Elab.async false
set_option linter.all false
set_option maxRecDepth 100000
namespace DL
open PySem PySem.Spec PyProof.Rows L2
abbrev dueKs : List Key := [.inr "came", .inr "round", .inr "last", .inr "first", .inr "since", .inr "here"]
abbrev dueVs : List D := [.int 3, .int 3, .int 1, .int 1, .int 3, .int 2]
def dueLen (k : Str) : Option Int :=
  if k = Str.ofString "came" then some 3 else if k = Str.ofString "round" then some 3 else if k = Str.ofString "last" then some 1 else
  if k = Str.ofString "first" then some 1 else if k = Str.ofString "since" then some 3 else if k = Str.ofString "here" then some 2 else none
theorem due_look (k : Str) : lookK dueKs dueVs (.inr k) = (dueLen k).map .int := by
  unfold dueLen
  simp only [lookK, Sum.inr.injEq]
  have h : ∀ s : String, ((Str.ofString s) = k) = (k = Str.ofString s) := fun s => propext ⟨Eq.symm, Eq.symm⟩
  simp only [h]
  repeat' split
  all_goals rfl
theorem due_in (k : Str) : noD (.str k) (.dct dueKs dueVs) = some (.bl (!(dueLen k).isSome)) := by
  simp only [noD, inD, keyD, Option.map_some, due_look]
  cases dueLen k <;> rfl
theorem due_ix (k : Str) (n : Int) (h : dueLen k = some n) : ixD (.dct dueKs dueVs) (.str k) = some (.int n) := by
  simp only [ixD, keyD, Option.bind_some, due_look, h, Option.map_some]
theorem note_due_eq (w : Int) (d : D) (o : okD d) (hl : ∀ xs, d = .tup xs → xs.length ≤ 1000) : F__law_note_due [.v (.int w), .v d] = .ok (.v (.bl (noteB w d))) [] := by
  have hd := okD_data d o
  have ht := isi_tuple2 d hd
  by_cases q : ∃ xs, d = .tup xs
  · obtain ⟨xs, rfl⟩ := q
    have o2 : dep (.tup xs) ≤ 60 := by rcases o with o | o
                                       · exact o
                                       · cases o
    cases xs with
    | nil => simp [F__law_note_due, startE, f__law_note_due, ht, eqS, eqD, dep, depL, eqv, eqvL, noteB]
    | cons h r =>
      have he := eq_emp h r o2
      obtain ⟨oh, or⟩ := dep_cons o2
      have hs := isi_str2 h (data60 oh)
      have hx : ixD (.tup (h :: r)) (.int 0) = some h := by simp [ixD, atI]
      by_cases q2 : ∃ k, h = .str k
      · obtain ⟨k, rfl⟩ := q2
        have ht2 : isiD1 (.tup (.str k :: r)) "tuple" = some (.bl true) := ht
        have hs2 : isiD1 (.str k) "str" = some (.bl true) := hs
        have hlen : lenD (.tup (.str k :: r)) = some (.int ((r.length : Int) + 1)) := by simp [lenD]
        have hi := due_in k
        have hxx := due_ix k
        unfold dueKs dueVs at hi hxx
        simp [F__law_note_due, startE, f__law_note_due, ht2, he, hx, hs2, hlen, hi]
        generalize D.dct [Sum.inr (Str.ofString "came"), Sum.inr (Str.ofString "round"), Sum.inr (Str.ofString "last"), Sum.inr (Str.ofString "first"), Sum.inr (Str.ofString "since"), Sum.inr (Str.ofString "here")] [D.int 3, D.int 3, D.int 1, D.int 1, D.int 3, D.int 2] = dd at *
        by_cases c1 : k = Str.ofString "last" ∨ k = Str.ofString "first"
        · have dl : dueLen k = some 1 := by rcases c1 with rfl | rfl <;> decide
          have dx := hxx _ dl
          cases r with
          | nil => simp [dl, dx, noteB, c1, hlen]
          | cons a r =>
            have hz : ¬ ((r.length : Int) + 1 + 1 = 1) := by omega
            simp [dl, dx, noteB, c1, hlen, hz]
        · have c1a := (not_or.mp c1).1
          have c1b := (not_or.mp c1).2
          by_cases c2 : k = Str.ofString "here"
          · subst c2
            have dl : dueLen (Str.ofString "here") = some 2 := by decide
            have dx := hxx _ dl
            have n0 : ¬ (Str.ofString "here" = Str.ofString "since") := by decide
            rcases r with _ | ⟨a, _ | ⟨b, r⟩⟩
            · simp [dl, dx, noteB, c1a, c1b, hlen]
            · have ha : dataD a = true := data60 (by simp [depL] at or; omega)
              have hw := within_eq a 0 (w - 1) ha
              have i1 : ixD (.tup [.str (Str.ofString "here"), a]) (.int 1) = some a := rfl
              cases hb : betw a 0 (w - 1) <;> cases hn : isNon a <;> simp [dl, dx, noteB, c1a, c1b, hlen, n0, i1, hw, hb, hn, whoB]
            · have hz : ¬ ((r.length : Int) + 1 + 1 + 1 = 2) := by omega
              have hn1 : ¬ (Str.ofString "here" = Str.ofString "came") := by decide
              have hn2 : ¬ (Str.ofString "here" = Str.ofString "round") := by decide
              have nb : noteB w (.tup (.str (Str.ofString "here") :: a :: b :: r)) = false := by
                cases r <;> simp [noteB, c1a, c1b, hn1, hn2, n0]
              simp [dl, dx, nb, hlen, hz]
          · by_cases c3 : r.length = 2
            · obtain ⟨a, b, rfl⟩ : ∃ a b, r = [a, b] := by
                rcases r with _ | ⟨a, _ | ⟨b, _ | ⟨c, r⟩⟩⟩
                · simp at c3
                · simp at c3
                · exact ⟨a, b, rfl⟩
                · simp at c3
              have ha : dataD a = true := data60 (by simp [depL] at or; omega)
              have hb : dataD b = true := data60 (by simp [depL] at or; omega)
              have k1 := within_eq a 0 (w - 1) ha
              have k2 := within_eq b 0 (w - 1) hb
              have k3 := within_eq b 1 4 hb
              have k4 := within_eq b 2 4 hb
              have i1 : ixD (.tup [.str k, a, b]) (.int 1) = some a := rfl
              have i2 : ixD (.tup [.str k, a, b]) (.int 2) = some b := rfl
              by_cases d3 : k = Str.ofString "since"
              · subst d3
                have dl : dueLen (Str.ofString "since") = some 3 := by decide
                have dx := hxx _ dl
                have n1 : ¬ (Str.ofString "since" = Str.ofString "came") := by decide
                have n2 : ¬ (Str.ofString "since" = Str.ofString "round") := by decide
                cases hp : betw a 0 (w - 1)
                · simp [dl, dx, noteB, c1a, c1b, hlen, i1, i2, k1, hp, n1, n2]
                · cases hq : betw b 0 (w - 1)
                  · simp [dl, dx, noteB, c1a, c1b, hlen, i1, i2, k1, k2, hp, hq, n1, n2]
                  · obtain ⟨x, rfl⟩ := betw_int hp
                    obtain ⟨y, rfl⟩ := betw_int hq
                    simp [dl, dx, noteB, c1a, c1b, hlen, i1, i2, k1, k2, hp, hq, n1, n2, difB]
              · by_cases d1 : k = Str.ofString "came"
                · subst d1
                  have dl : dueLen (Str.ofString "came") = some 3 := by decide
                  have dx := hxx _ dl
                  have n1 : ¬ (Str.ofString "came" = Str.ofString "round") := by decide
                  cases hp : betw a 0 (w - 1) <;> cases hn : isNon a <;> simp [dl, dx, noteB, c1a, c1b, c2, d3, hlen, i1, i2, k1, k3, hp, hn, n1, whoB, intD]
                · by_cases d2 : k = Str.ofString "round"
                  · subst d2
                    have dl : dueLen (Str.ofString "round") = some 3 := by decide
                    have dx := hxx _ dl
                    cases hp : betw a 0 (w - 1) <;> cases hn : isNon a <;> simp [dl, dx, noteB, c1a, c1b, c2, d1, d3, hlen, i1, i2, k1, k4, hp, hn, whoB, intD]
                  · have dl : dueLen k = none := by simp [dueLen, c1a, c1b, c2, d1, d2, d3]
                    simp [dl, noteB, c1a, c1b, d1, d2, d3]
            · have nb : noteB w (.tup (.str k :: r)) = false := by
                rcases r with _ | ⟨a, _ | ⟨b, _ | ⟨c, r⟩⟩⟩
                · simp [noteB, c1a, c1b]
                · simp [noteB, c1a, c1b, c2]
                · simp at c3
                · simp [noteB, c1a, c1b]
              rw [nb]
              cases dl : dueLen k with
              | none => simp
              | some n =>
                have dx := hxx _ dl
                have hn : n = 3 := by
                  unfold dueLen at dl
                  simp only [c1a, c1b, c2, if_false] at dl
                  split at dl
                  · exact (Option.some.inj dl).symm
                  · split at dl
                    · exact (Option.some.inj dl).symm
                    · split at dl
                      · exact (Option.some.inj dl).symm
                      · cases dl
                subst hn
                have hz : ¬ ((r.length : Int) + 1 = 3) := by omega
                simp [dx, hlen, hz]
      · have hf : strB h = false := by
          cases h <;> first | rfl | (exact absurd ⟨_, rfl⟩ q2)
        rw [hf] at hs
        simp [F__law_note_due, startE, f__law_note_due, ht, he, hx, hs]
        cases h <;> first | rfl | (exact absurd ⟨_, rfl⟩ q2)
  · have hf : tupB d = false := by
      cases d <;> first | rfl | (exact absurd ⟨_, rfl⟩ q)
    rw [hf] at ht
    simp [F__law_note_due, startE, f__law_note_due, ht]
    cases d <;> first | rfl | (exact absurd ⟨_, rfl⟩ q)
end DL
end

section
set_option Elab.async false
set_option linter.all false
set_option maxRecDepth 100000
namespace DL
open PySem PySem.Spec PyProof.Rows L2
theorem walkers_ok (x : D) (h : dataD x = true) (b : betw x 1 3 = true) : F_need_walkers [.v x] = .ok (.v .non) [] := by
  have hb := between_eq x 1 3 h
  simp [F_need_walkers, startE, f_need_walkers, hb, b]
theorem walkers_no (x : D) (h : dataD x = true) (b : betw x 1 3 = false) : F_need_walkers [.v x] = .exc ⟨10, [("number", x)]⟩ [] := by
  have hb := between_eq x 1 3 h
  simp [F_need_walkers, startE, f_need_walkers, hb, b]
theorem betw_w {w : Int} (h1 : 1 ≤ w) (h3 : w ≤ 3) : betw (.int w) 1 3 = true := by simp [betw, h1, h3]
theorem is_note_eq (w : Int) (h1 : 1 ≤ w) (h3 : w ≤ 3) (d : D) (o : okD d) (hl : ∀ xs, d = .tup xs → xs.length ≤ 1000) : F_is_note [.v (.int w), .v d] = .ok (.v (.bl (noteB w d))) [] := by
  have a := walkers_ok (.int w) rfl (betw_w h1 h3)
  have b := is_note_of_eq w d o hl
  simp [F_is_note, startE, f_is_note, a, b]
theorem is_note_no (x : D) (h : dataD x = true) (q : betw x 1 3 = false) (d : D) : F_is_note [.v x, .v d] = .exc ⟨10, [("number", x)]⟩ [] := by
  have a := walkers_no x h q
  simp [F_is_note, startE, f_is_note, a]
theorem most_of_no (x : D) (h : dataD x = true) (q : betw x 1 3 = false) (d : D) : F_most_of [.v x, .v d] = .exc ⟨10, [("number", x)]⟩ [] := by
  have a := walkers_no x h q
  simp [F_most_of, F_need_note, startE, f_most_of, f_need_note, a]
theorem need_note_ok (w : Int) (h1 : 1 ≤ w) (h3 : w ≤ 3) (d : D) (o : okD d) (hl : ∀ xs, d = .tup xs → xs.length ≤ 1000) (n : noteB w d = true) : F_need_note [.v (.int w), .v d] = .ok (.v .non) [] := by
  have a := walkers_ok (.int w) rfl (betw_w h1 h3)
  have b := is_note_of_eq w d o hl
  simp [F_need_note, startE, f_need_note, a, b, n]
theorem need_note_no (w : Int) (h1 : 1 ≤ w) (h3 : w ≤ 3) (d : D) (o : okD d) (hl : ∀ xs, d = .tup xs → xs.length ≤ 1000) (n : noteB w d = false) : F_need_note [.v (.int w), .v d] = .exc ⟨3, []⟩ [] := by
  have a := walkers_ok (.int w) rfl (betw_w h1 h3)
  have b := is_note_of_eq w d o hl
  simp [F_need_note, startE, f_need_note, a, b, n]
theorem most_of_note (w : Int) (h1 : 1 ≤ w) (h3 : w ≤ 3) (d : D) (o : okD d) (hl : ∀ xs, d = .tup xs → xs.length ≤ 1000) (n : noteB w d = false) : F_most_of [.v (.int w), .v d] = .exc ⟨3, []⟩ [] := by
  have a := need_note_no w h1 h3 d o hl n
  simp [F_most_of, startE, f_most_of, a]
/-- the most walkers that a note lets be -/
def mostI (w : Int) : D → Int
  | .tup [.str k, _, .int b] => if k = "came" then b else if k = "round" then b - 1 else 1
  | .tup [_, a] => if isNon a then w else 1
  | _ => w
theorem note_cases {w : Int} {d : D} (n : noteB w d = true) : d = .tup [.str "last"] ∨ d = .tup [.str "first"] ∨ (∃ a, d = .tup [.str "here", a]) ∨ (∃ a b, d = .tup [.str "came", a, .int b] ∧ 1 ≤ b ∧ b ≤ 4) ∨ (∃ a b, d = .tup [.str "round", a, .int b] ∧ 2 ≤ b ∧ b ≤ 4) ∨ (∃ a b, d = .tup [.str "since", .int a, .int b]) := by
  unfold noteB at n
  split at n
  · rename_i k rest
    split at n
    · rename_i hk
      have : rest = [] := by simpa using n
      subst this
      rcases hk with rfl | rfl
      · exact .inl rfl
      · exact .inr (.inl rfl)
    · split at n
      · simp at n
        obtain ⟨rfl, _⟩ := n
        exact .inr (.inr (.inl ⟨_, rfl⟩))
      · rename_i a b
        split at n
        · rename_i hk; subst hk
          simp at n
          obtain ⟨i, rfl⟩ := betw_int n.2
          simp [betw] at n
          exact .inr (.inr (.inr (.inl ⟨_, _, rfl, n.2⟩)))
        · split at n
          · rename_i hk; subst hk
            simp at n
            obtain ⟨i, rfl⟩ := betw_int n.2
            simp [betw] at n
            exact .inr (.inr (.inr (.inr (.inl ⟨_, _, rfl, n.2⟩))))
          · split at n
            · rename_i hk; subst hk
              simp at n
              obtain ⟨i, rfl⟩ := betw_int n.1
              obtain ⟨j, rfl⟩ := betw_int n.2.1
              exact .inr (.inr (.inr (.inr (.inr ⟨_, _, rfl⟩))))
            · cases n
      · cases n
  · cases n
end DL
end

section
set_option Elab.async false
set_option linter.all false
set_option maxRecDepth 100000
namespace DL
open PySem PySem.Spec PyProof.Rows L2
theorem most_both (w : Int) (h1 : 1 ≤ w) (h3 : w ≤ 3) (d : D) (n : noteB w d = true) : ∃ m : Int, 1 ≤ m ∧ m ≤ 4 ∧ F_most_in [.v (.int w), .v d] = .ok (.v (.int m)) [] ∧ F__law_most [.v (.int w), .v d] = .ok (.v (.int m)) [] := by
  have yy : ∀ k : Str, yesD (.str k) (.tup [.str (Str.ofString "came"), .str (Str.ofString "round")]) = some (.bl (decide (k = Str.ofString "came" ∨ k = Str.ofString "round"))) := fun k => by
    have h : ∀ s : Str, (s == k) = decide (k = s) := fun s => by
      by_cases q : k = s
      · subst q; simp
      · simp [q, Ne.symm q]
    simp [yesD, inD, flatD, eqv]
    rw [h, h]
  have a1 : ¬ (Str.ofString "last" = Str.ofString "came") := by decide
  have a2 : ¬ (Str.ofString "last" = Str.ofString "round") := by decide
  have a3 : ¬ (Str.ofString "last" = Str.ofString "since") := by decide
  have a4 : ¬ (Str.ofString "last" = Str.ofString "here") := by decide
  have b1 : ¬ (Str.ofString "first" = Str.ofString "came") := by decide
  have b2 : ¬ (Str.ofString "first" = Str.ofString "round") := by decide
  have b3 : ¬ (Str.ofString "first" = Str.ofString "since") := by decide
  have b4 : ¬ (Str.ofString "first" = Str.ofString "here") := by decide
  have c1 : ¬ (Str.ofString "here" = Str.ofString "came") := by decide
  have c2 : ¬ (Str.ofString "here" = Str.ofString "round") := by decide
  have c3 : ¬ (Str.ofString "here" = Str.ofString "since") := by decide
  have d1 : ¬ (Str.ofString "since" = Str.ofString "came") := by decide
  have d2 : ¬ (Str.ofString "since" = Str.ofString "round") := by decide
  have e1 : ¬ (Str.ofString "came" = Str.ofString "round") := by decide
  have e2 : ¬ (Str.ofString "round" = Str.ofString "came") := by decide
  have x0 : ∀ (a : D) (l : List D), ixD (.tup (a :: l)) (.int 0) = some a := fun a l => by simp [ixD, atI]
  have x1 : ∀ (a b : D), ixD (.tup [a, b]) (.int 1) = some b := fun a b => rfl
  have x2 : ∀ (a b c : D), ixD (.tup [a, b, c]) (.int 2) = some c := fun a b c => rfl
  rcases note_cases n with rfl | rfl | ⟨a, rfl⟩ | ⟨a, b, rfl, hb⟩ | ⟨a, b, rfl, hb⟩ | ⟨a, b, rfl⟩
  · exact ⟨w, h1, by omega, by simp [F_most_in, startE, f_most_in, x0, a1, a2, a3, a4], by simp [F__law_most, startE, f__law_most, x0, a1, a2, a3, a4, yy]⟩
  · exact ⟨w, h1, by omega, by simp [F_most_in, startE, f_most_in, x0, b1, b2, b3, b4], by simp [F__law_most, startE, f__law_most, x0, b1, b2, b3, b4, yy]⟩
  · cases hn : isNon a
    · exact ⟨1, by omega, by omega, by simp [F_most_in, startE, f_most_in, x0, x1, c1, c2, c3, hn], by simp [F__law_most, startE, f__law_most, x0, x1, c1, c2, c3, hn, yy]⟩
    · exact ⟨w, h1, by omega, by simp [F_most_in, startE, f_most_in, x0, x1, c1, c2, c3, hn], by simp [F__law_most, startE, f__law_most, x0, x1, c1, c2, c3, hn, yy]⟩
  · exact ⟨b, by omega, by omega, by simp [F_most_in, startE, f_most_in, x0, x2], by simp [F__law_most, startE, f__law_most, x0, x2, yy, e1, intD]⟩
  · exact ⟨b - 1, by omega, by omega, by simp [F_most_in, startE, f_most_in, x0, x2, e2], by simp [F__law_most, startE, f__law_most, x0, x2, yy, e2, intD]⟩
  · exact ⟨1, by omega, by omega, by simp [F_most_in, startE, f_most_in, x0, d1, d2], by simp [F__law_most, startE, f__law_most, x0, d1, d2, yy]⟩
theorem most_of_eq (w : Int) (h1 : 1 ≤ w) (h3 : w ≤ 3) (d : D) (o : okD d) (hl : ∀ xs, d = .tup xs → xs.length ≤ 1000) (n : noteB w d = true) : ∃ m : Int, 1 ≤ m ∧ m ≤ 4 ∧ F_most_of [.v (.int w), .v d] = .ok (.v (.int m)) [] ∧ F__law_most [.v (.int w), .v d] = .ok (.v (.int m)) [] := by
  obtain ⟨m, p, q, r, s⟩ := most_both w h1 h3 d n
  have a := need_note_ok w h1 h3 d o hl n
  exact ⟨m, p, q, by simp [F_most_of, startE, f_most_of, a, r], s⟩
end DL
end

section
set_option Elab.async false
set_option linter.all false
set_option maxRecDepth 100000
namespace DL
open PySem PySem.Spec PyProof.Rows L2
/-- what _law_met makes of a told answer -/
theorem met_ok {fl : Env → R D} {e : Env} {d : D} {e' : Env} (h : fl (hideE e) = .ok d e') (p : plainD d = true) : dLam f__law_met 3 fl e = .ok (.lst [.str "told", d]) e := by
  unfold dLam
  rw [h]
  simp [tellsO, startE, f__law_met, sTry, thAt, actR, p, plainL, plainD]
theorem met_note {fl : Env → R D} {e : Env} {e' : Env} (h : fl (hideE e) = .exc ⟨3, []⟩ e') : dLam f__law_met 3 fl e = .ok (.lst [.str "note", .non]) e := by
  unfold dLam
  rw [h]
  have q1 : exr_RoomError 3 = some true := by decide
  have q2 : isr_4 3 = some false := by decide
  have q3 : isr_3 3 = some true := by decide
  have q4 : isr_5 3 = some true := by decide
  simp [tellsO, startE, f__law_met, sTry, thAt, actR, plainL, plainD, plainE, plainS, plainX, plainXL, catchC, q1, setO, xAt, q2, q3, q4, endC, unO, plS]
theorem met_number {fl : Env → R D} {e : Env} {e' : Env} {x : D} (h : fl (hideE e) = .exc ⟨10, [("number", x)]⟩ e') (p : plainD x = true) : dLam f__law_met 3 fl e = .ok (.lst [.str "number", x]) e := by
  unfold dLam
  rw [h]
  have q0 : exr_RoomError 10 = some false := by decide
  have q1 : exr_LackError 10 = some true := by decide
  have q2 : isr_1 10 = some false := by decide
  have q3 : isr_0 10 = some true := by decide
  have q4 : isr_2 10 = some true := by decide
  have q5 : xfr_number 10 = true := by decide
  simp [tellsO, startE, f__law_met, sTry, thAt, actR, plainL, plainD, plainE, plainS, plainX, plainXL, catchC, p, q0, q1, setO, xAt, q2, q3, q4, q5, endC, unO, plS]
end DL
end

section
set_option Elab.async false
set_option linter.all false
set_option maxRecDepth 100000
namespace DL
open PySem PySem.Spec PyProof.Rows L2
/-- calls whose first argument is one's own list in slot i -/
theorem kS_m1 {α : Type} (F : List Slot → RF) (k : Slot → Option α) (i : Nat) (e : Env) (ds : List D) (h : mAt e i = some ds) : kS F [some i] k [] e = kF [some i] k e (F [.m ds]) := by
  unfold kS kF mkS; rw [h]; rfl
theorem kS_m2 {α : Type} (F : List Slot → RF) (k : Slot → Option α) (i : Nat) (a : D) (e : Env) (ds : List D) (h : mAt e i = some ds) : kS F [some i, none] k [a] e = kF [some i, none] k e (F [.m ds, .v a]) := by
  unfold kS kF mkS; rw [h]; rfl
theorem putO_m1 (i : Nat) (ds : List D) (e : Env) : putO (psN 0 [some i]) [ds] e = e.set i (some (.m ds)) := rfl
theorem putO_m2 (i : Nat) (ds : List D) (e : Env) : putO (psN 0 [some i, none]) [ds] e = e.set i (some (.m ds)) := rfl
/-- a take from the pot in slot s -/
theorem dtake {K : Nat} (hK : K ≤ 1000000) {ds : List D} (h : potOk K ds) (n : Int) (hn : 0 < n) (hn2 : n < 2 ^ 64) : ∃ i ds', 0 ≤ i ∧ i < n ∧ potOk (K + 1) ds' ∧ ∀ (s : Nat) (e : Env), mAt e s = some ds → kS F__law_take [some s, none] kD [.int n] e = .ok (.int i) (e.set s (some (.m ds'))) := by
  obtain ⟨i, ds', h1, h2, h3, h4⟩ := take_eq K hK ds n h hn hn2
  refine ⟨i, ds', h2, h3, h4, fun s e m => ?_⟩
  rw [kS_m2 _ _ _ _ _ _ m, h1, kF_ok, kD_v, putO_m2, opt_some]
end DL
end

section
set_option Elab.async false
set_option linter.all false
set_option maxRecDepth 100000
namespace DL
open PySem PySem.Spec PyProof.Rows L2
/-- a thing: data of little depth, not long -/
def thingD (d : D) : Prop := okD d ∧ (∀ xs, d = .tup xs → xs.length ≤ 1000) ∧ plainD d = true
@[simp] theorem mAt_s0 (ds : List D) (r : Env) : mAt (some (.m ds) :: r) 0 = some ds := rfl
theorem at_list {l : List D} {i : Int} (h0 : 0 ≤ i) (h1 : i < (l.length : Int)) : ∃ d, d ∈ l ∧ ixD (.lst l) (.int i) = some d := by
  have h2 : i.toNat < l.length := by omega
  refine ⟨l[i.toNat], List.getElem_mem h2, ?_⟩
  have h3 : ixN l.length i = some i.toNat := by
    unfold ixN; rw [if_pos h0, if_pos h1]
  simp only [ixD, atI, h3, Option.bind_some]
  exact List.getElem?_eq_getElem h2
/-- _law_odd: a thing -/
theorem odd_eq {K : Nat} (hK : K ≤ 1000000) {ds : List D} (h : potOk K ds) : ∃ d ds', F__law_odd [.m ds] = .ok (.v d) [ds'] ∧ thingD d ∧ potOk (K + 1) ds' := by
  obtain ⟨i, ds', h1, h2, h3, h4⟩ := dtake hK h 14 (by decide) (by decide)
  have p1 : powD (.int 10) (.int 39) = some (.int (10 ^ 39)) := pow_ii 10 39 4 (by decide) (by decide) (by decide) (by decide) (by decide)
  let l : List D := [.non, .bl true, .int 0, .str "last", .str "", .lst [], .dct [] [], .tup [], .tup [.tup []], .tup [.tup [.str "last"]], .tup [.non], .tup [.int 1, .int 0, .int 2], .lst [.str "last"], .int (10 ^ 39)]
  obtain ⟨d, hm, hd⟩ := at_list (l := l) h1 (by simpa [l] using h2)
  have k4 := fun r => h4 0 (some (.m ds) :: r) rfl
  refine ⟨d, ds', ?_, ?_, h3⟩
  · simp [F__law_odd, startE, f__law_odd, p1, -Int.reducePow, k4]
    simp only [l] at hd
    rw [hd]
    simp
  · simp only [l, List.mem_cons, List.mem_nil_iff, or_false] at hm
    rcases hm with rfl | rfl | rfl | rfl | rfl | rfl | rfl | rfl | rfl | rfl | rfl | rfl | rfl | rfl
    case inr.inr.inr.inr.inr.inr.inl => exact ⟨.inr rfl, (fun xs q => by cases q), by simp [plainD, plainL]⟩
    all_goals exact ⟨.inl (by simp [dep, depL]; try decide), (fun xs q => by first | (cases q; done) | (cases q; simp)), by simp [plainD, plainL]⟩
end DL
end

section
set_option Elab.async false
set_option linter.all false
set_option maxRecDepth 100000
namespace DL
open PySem PySem.Spec PyProof.Rows L2
/-- a note or near it: a short tuple of flat parts -/
def flatT (d : D) : Prop := ∃ xs, d = .tup xs ∧ (1 ≤ xs.length ∧ xs.length ≤ 5) ∧ ∀ x ∈ xs, dep x ≤ 2 ∧ plainD x = true
theorem depL_le {xs : List D} {n : Nat} (h : ∀ x ∈ xs, dep x ≤ n) : depL xs ≤ n := by
  induction xs with
  | nil => simp [depL]
  | cons a r ih =>
    simp only [depL]
    have := h a (List.mem_cons_self ..)
    have := ih fun x hx => h x (List.mem_cons_of_mem _ hx)
    omega
theorem plainL_all {xs : List D} (h : ∀ x ∈ xs, plainD x = true) : plainL xs = true := by
  induction xs with
  | nil => rfl
  | cons a r ih => simp only [plainL, h a (List.mem_cons_self ..), ih fun x hx => h x (List.mem_cons_of_mem _ hx), Bool.and_self]
theorem flatT_thing {d : D} (h : flatT d) : thingD d := by
  obtain ⟨xs, rfl, hl, ha⟩ := h
  refine ⟨.inl ?_, fun ys q => ?_, ?_⟩
  · have := depL_le (n := 2) fun x hx => (ha x hx).1
    simp only [dep]; omega
  · cases q; omega
  · simp only [plainD]; exact plainL_all fun x hx => (ha x hx).2
theorem note_eq {K : Nat} (hK : K ≤ 999000) {ds : List D} (h : potOk K ds) (w : Int) (w1 : 1 ≤ w) (w3 : w ≤ 3) : ∃ d ds' n, F__law_note [.m ds, .v (.int w)] = .ok (.v d) [ds'] ∧ flatT d ∧ n ≤ 10 ∧ potOk (K + n) ds' := by
  obtain ⟨i1, s1, a1, b1, p1, t1⟩ := dtake (by omega) h w (by omega) (by omega)
  obtain ⟨i2, s2, a2, b2, p2, t2⟩ := dtake (by omega) p1 w (by omega) (by omega)
  obtain ⟨i3, s3, a3, b3, p3, t3⟩ := dtake (by omega) p2 3 (by omega) (by omega)
  obtain ⟨i4, s4, a4, b4, p4, t4⟩ := dtake (by omega) p3 9 (by omega) (by omega)
  have k1 := fun r => t1 0 (some (.m ds) :: r) rfl
  have k2 := fun r => t2 0 (some (.m s1) :: r) rfl
  have k3 := fun r => t3 0 (some (.m s2) :: r) rfl
  have k4 := fun r => t4 0 (some (.m s3) :: r) rfl
  obtain ⟨who, hm, hwho⟩ := at_list (l := [.non, .int i1, .int i2]) a3 (by simpa using b3)
  have fw : dep who ≤ 2 ∧ plainD who = true := by
    simp only [List.mem_cons, List.mem_nil_iff, or_false] at hm
    rcases hm with rfl | rfl | rfl <;> simp [dep, plainD]
  by_cases c1 : 6 < i4 ∧ 1 < w
  · obtain ⟨c1a, c1b⟩ := c1
    obtain ⟨i5, s5, a5, b5, p5, t5⟩ := dtake (by omega) p4 w (by omega) (by omega)
    obtain ⟨i6, s6, a6, b6, p6, t6⟩ := dtake (by omega) p5 (w - 1) (by omega) (by omega)
    have k5 := fun r => t5 0 (some (.m s4) :: r) rfl
    have k6 := fun r => t6 0 (some (.m s5) :: r) rfl
    have md := fun i => mod_ii i w (by omega)
    refine ⟨.tup [.str "since", .int i5, .int ((i5 + 1 + i6) % w)], s6, 6, ?_, ⟨_, rfl, by simp, ?_⟩, by omega, p6⟩
    · simp [F__law_note, startE, f__law_note, k1, k2, k3, k4, hwho, c1a, c1b, k5, k6, md]
    · intro x hx
      simp only [List.mem_cons, List.mem_nil_iff, or_false] at hx
      rcases hx with rfl | rfl | rfl <;> exact ⟨by simp [dep]; try decide, rfl⟩
  · have c1' : (6 < i4 → ¬ 1 < w) := fun x y => c1 ⟨x, y⟩
    have cond : bAnd (dTest (dBin gtD (dVar 3) (dC (.int 6)))) (dTest (dBin gtD (dVar 1) (dC (.int 1)))) [some (.m s4), some (.v (.int w)), some (.v who), some (.v (.int i4)), none] = .ok false [some (.m s4), some (.v (.int w)), some (.v who), some (.v (.int i4)), none] := by
      by_cases z : 6 < i4
      · simp [z, c1' z]
      · simp [z]
    have y34 : yesD (.int i4) (.tup [.int 3, .int 4]) = some (.bl (decide (i4 = 3 ∨ i4 = 4))) := by
      simp [yesD, inD, flatD, eqv]
      by_cases z3 : i4 = 3
      · subst z3; decide
      · by_cases z4 : i4 = 4
        · subst z4; decide
        · simp [z3, z4, Ne.symm z3, Ne.symm z4]
    have y12 : yesD (.int i4) (.tup [.int 1, .int 2]) = some (.bl (decide (i4 = 1 ∨ i4 = 2))) := by
      simp [yesD, inD, flatD, eqv]
      by_cases z3 : i4 = 1
      · subst z3; decide
      · by_cases z4 : i4 = 2
        · subst z4; decide
        · simp [z3, z4, Ne.symm z3, Ne.symm z4]
    have head : F__law_note [.m ds, .v (.int w)] = fin [0] ((sSeq (sIf (dTest (dBin yesD (dVar 3) (dTup (dCons (dC (.int 3)) (dCons (dC (.int 4)) dNil))))) (sRet (dTup (dCons (dC (.str "round")) (dCons (dVar 2) (dCons (dBin addD (dC (.int 2)) (dCall F__law_take [some 0, none] (dMk 0 (dCons (dC (.int 3)) dNil)))) dNil))))) sNx) (sSeq (sIf (dTest (dBin eqS (dVar 3) (dC (.int 5)))) (sRet (dTup (dCons (dC (.str "here")) (dCons (dVar 2) dNil)))) sNx) (sRet (dIf (dTest (dBin yesD (dVar 3) (dTup (dCons (dC (.int 1)) (dCons (dC (.int 2)) dNil))))) (dBin ixD (dM (mLst (dCons (dTup (dCons (dC (.str "last")) dNil)) (dCons (dTup (dCons (dC (.str "first")) dNil)) dNil)))) (dBin subD (dVar 3) (dC (.int 1)))) (dTup (dCons (dC (.str "came")) (dCons (dVar 2) (dCons (dBin addD (dC (.int 1)) (dCall F__law_take [some 0, none] (dMk 0 (dCons (dC (.int 4)) dNil)))) dNil)))))))) [some (.m s4), some (.v (.int w)), some (.v who), some (.v (.int i4)), none]) := by
      have A1 : sAsg (dBin ixD (dM (mLst (dCons (dC .non) (dCons (dCall F__law_take [some 0, none] (dMk 0 (dCons (dVar 1) dNil))) (dCons (dCall F__law_take [some 0, none] (dMk 0 (dCons (dVar 1) dNil))) dNil))))) (dCall F__law_take [some 0, none] (dMk 0 (dCons (dC (.int 3)) dNil)))) (gtN 2) [some (.m ds), some (.v (.int w)), none, none, none] = .nx [some (.m s3), some (.v (.int w)), some (.v who), none, none] := by
        simp [k1, k2, k3, hwho]
      have A2 : sAsg (dCall F__law_take [some 0, none] (dMk 0 (dCons (dC (.int 9)) dNil))) (gtN 3) [some (.m s3), some (.v (.int w)), some (.v who), none, none] = .nx [some (.m s4), some (.v (.int w)), some (.v who), some (.v (.int i4)), none] := by
        simp [k4]
      have e0 : startE 5 [.m ds, .v (.int w)] = [some (.m ds), some (.v (.int w)), none, none, none] := rfl
      unfold F__law_note f__law_note
      rw [e0, sSeq_ap, A1, sq_nx, sSeq_ap, A2, sq_nx, sSeq_ap, sIf_ap, cond, sB_ok, c1_sIf_ap, if_neg (by decide), sNx_ap, sq_nx]
    rw [head]
    by_cases c2 : i4 = 3 ∨ i4 = 4
    · obtain ⟨i5, s5, a5, b5, p5, t5⟩ := dtake (by omega) p4 3 (by omega) (by omega)
      have k5 := fun r => t5 0 (some (.m s4) :: r) rfl
      refine ⟨.tup [.str "round", who, .int (2 + i5)], s5, 5, ?_, ⟨_, rfl, by simp, ?_⟩, by omega, p5⟩
      · simp [y34, c2, k5]
      · intro x hx
        simp only [List.mem_cons, List.mem_nil_iff, or_false] at hx
        rcases hx with rfl | rfl | rfl
        · exact ⟨by simp [dep]; try decide, rfl⟩
        · exact fw
        · exact ⟨by simp [dep], rfl⟩
    · by_cases c3 : i4 = 5
      · refine ⟨.tup [.str "here", who], s4, 4, ?_, ⟨_, rfl, by simp, ?_⟩, by omega, p4⟩
        · subst c3
          simp [y34, y12]
        · intro x hx
          simp only [List.mem_cons, List.mem_nil_iff, or_false] at hx
          rcases hx with rfl | rfl
          · exact ⟨by simp [dep]; try decide, rfl⟩
          · exact fw
      · by_cases c4 : i4 = 1 ∨ i4 = 2
        · obtain ⟨d, hdm, hd⟩ := at_list (l := [.tup [.str "last"], .tup [.str "first"]]) (i := i4 - 1) (by omega) (by simp; omega)
          refine ⟨d, s4, 4, ?_, ?_, by omega, p4⟩
          · simp [y34, y12, c2, c3, c4, hd]
          · simp only [List.mem_cons, List.mem_nil_iff, or_false] at hdm
            rcases hdm with rfl | rfl <;> refine ⟨_, rfl, by simp, ?_⟩ <;> intro x hx <;> simp only [List.mem_cons, List.mem_nil_iff, or_false] at hx <;> subst hx <;> exact ⟨by simp [dep]; try decide, rfl⟩
        · obtain ⟨i5, s5, a5, b5, p5, t5⟩ := dtake (by omega) p4 4 (by omega) (by omega)
          have k5 := fun r => t5 0 (some (.m s4) :: r) rfl
          refine ⟨.tup [.str "came", who, .int (1 + i5)], s5, 5, ?_, ⟨_, rfl, by simp, ?_⟩, by omega, p5⟩
          · simp [y34, y12, c2, c3, c4, k5]
          · intro x hx
            simp only [List.mem_cons, List.mem_nil_iff, or_false] at hx
            rcases hx with rfl | rfl | rfl
            · exact ⟨by simp [dep]; try decide, rfl⟩
            · exact fw
            · exact ⟨by simp [dep], rfl⟩
end DL
end

section
set_option Elab.async false
set_option linter.all false
set_option maxRecDepth 100000
namespace DL
open PySem PySem.Spec PyProof.Rows L2
theorem cut_len {α : Type} (xs : List α) (a b : Option Int) : (cutD xs a b).length ≤ xs.length := by
  unfold cutD
  rw [List.length_take, List.length_drop]
  omega
theorem cut_mem {α : Type} {xs : List α} {a b : Option Int} {x : α} (h : x ∈ cutD xs a b) : x ∈ xs := List.mem_of_mem_drop (List.mem_of_mem_take h)
theorem add_tt (xs ys : List D) (h : xs.length + ys.length ≤ 1000) : addD (.tup xs) (.tup ys) = some (.tup (xs ++ ys)) := if_pos (by omega)
theorem tup_thing {xs : List D} (hl : xs.length ≤ 1000) (ha : ∀ x ∈ xs, dep x ≤ 2 ∧ plainD x = true) : thingD (.tup xs) := by
  refine ⟨.inl ?_, fun ys q => ?_, ?_⟩
  · have := depL_le (n := 2) fun x hx => (ha x hx).1
    simp only [dep]; omega
  · cases q; omega
  · simp only [plainD]; exact plainL_all fun x hx => (ha x hx).2
theorem lst_thing {xs : List D} (ha : ∀ x ∈ xs, dep x ≤ 2 ∧ plainD x = true) : thingD (.lst xs) := by
  refine ⟨.inl ?_, fun ys q => (by cases q), ?_⟩
  · have := depL_le (n := 2) fun x hx => (ha x hx).1
    simp only [dep]; omega
  · simp only [plainD]; exact plainL_all fun x hx => (ha x hx).2
theorem bent_eq {K : Nat} (hK : K ≤ 999000) {ds : List D} (h : potOk K ds) (t : D) (ht : flatT t) : ∃ d ds', F__law_bent [.m ds, .v t] = .ok (.v d) [ds'] ∧ thingD d ∧ potOk (K + 3) ds' := by
  obtain ⟨xs, rfl, hl, ha⟩ := ht
  obtain ⟨i1, s1, a1, b1, p1, t1⟩ := dtake (by omega) h (xs.length : Int) (by omega) (by omega)
  obtain ⟨i2, s2, a2, b2, p2, t2⟩ := dtake (by omega) p1 8 (by omega) (by omega)
  obtain ⟨i3, s3, a3, b3, p3, t3⟩ := dtake (by omega) p2 4 (by omega) (by omega)
  have k1 := fun r => t1 0 (some (.m ds) :: r) rfl
  have k2 := fun r => t2 0 (some (.m s1) :: r) rfl
  have k3 := fun r => t3 0 (some (.m s2) :: r) rfl
  have pw : powD (.int 10) (.int 39) = some (.int (10 ^ 39)) := pow_ii 10 39 4 (by decide) (by decide) (by decide) (by decide) (by decide)
  obtain ⟨part, hm, hpart⟩ := at_list (l := [.non, .bl true, .int (-1), .int 4, .str "last", .tup [], .lst [], .int (10 ^ 39)]) a2 (by simpa using b2)
  have fw : dep part ≤ 2 ∧ plainD part = true := by
    simp only [List.mem_cons, List.mem_nil_iff, or_false] at hm
    rcases hm with rfl | rfl | rfl | rfl | rfl | rfl | rfl | rfl <;> exact ⟨by simp [dep, depL]; try decide, rfl⟩
  have hlen : lenD (.tup xs) = some (.int (xs.length : Int)) := rfl
  have s0 : ∀ a b, slD (.tup xs) a b = some (.tup (cutD xs a b)) := fun a b => rfl
  have c0 : ∀ a b a' b', addD (.tup (cutD xs a b)) (.tup (cutD xs a' b')) = some (.tup (cutD xs a b ++ cutD xs a' b')) := fun a b a' b' => by
    have := cut_len xs a b
    have := cut_len xs a' b'
    exact add_tt _ _ (by omega)
  have c1 : ∀ a b, addD (.tup (cutD xs a b)) (.tup [part]) = some (.tup (cutD xs a b ++ [part])) := fun a b => by
    have := cut_len xs a b
    exact add_tt _ _ (by simp; omega)
  have c2 : ∀ a b a' b', addD (.tup (cutD xs a b ++ [part])) (.tup (cutD xs a' b')) = some (.tup (cutD xs a b ++ [part] ++ cutD xs a' b')) := fun a b a' b' => by
    have := cut_len xs a b
    have := cut_len xs a' b'
    exact add_tt _ _ (by simp; omega)
  obtain ⟨d, hdm, hd⟩ := at_list (l := [.tup (cutD xs none (some i1) ++ cutD xs (some (i1 + 1)) none), .tup (cutD xs none (some (i1 + 1)) ++ cutD xs (some i1) none), .tup (cutD xs none (some i1) ++ [part] ++ cutD xs (some (i1 + 1)) none), .lst xs]) a3 (by simpa using b3)
  refine ⟨d, s3, ?_, ?_, p3⟩
  · have hd2 := hd
    simp only [List.append_assoc, List.cons_append, List.nil_append] at hd2
    simp [F__law_bent, startE, f__law_bent, hlen, k1, k2, k3, pw, -Int.reducePow, negD, hpart, s0, c0, c1, c2, hd2]
  · have l1 := fun a b => cut_len xs a b
    simp only [List.mem_cons, List.mem_nil_iff, or_false] at hdm
    have two : ∀ a b a' b', thingD (.tup (cutD xs a b ++ cutD xs a' b')) := fun a b a' b' => by
      refine tup_thing (by have := l1 a b; have := l1 a' b'; rw [List.length_append]; omega) fun x hx => ?_
      rcases List.mem_append.mp hx with z | z <;> exact ha x (cut_mem z)
    rcases hdm with rfl | rfl | rfl | rfl
    · exact two _ _ _ _
    · exact two _ _ _ _
    · refine tup_thing (by have := l1 none (some i1); have := l1 (some (i1 + 1)) none; simp only [List.length_append, List.length_singleton]; omega) fun x hx => ?_
      rcases List.mem_append.mp hx with z | z
      · rcases List.mem_append.mp z with z | z
        · exact ha x (cut_mem z)
        · rw [List.mem_singleton.mp z]; exact fw
      · exact ha x (cut_mem z)
    · exact lst_thing ha
end DL
end

section
set_option Elab.async false
set_option linter.all false
set_option maxRecDepth 100000
namespace DL
open PySem PySem.Spec PyProof.Rows L2
@[simp] theorem comp_nil (vs : List Nat) (t : D → Env → Option Env) (tt : Env → R Bool) (fe : Env → R D) (e : Env) : compL vs t tt fe [] e = .ok [] e := rfl
theorem comp_step {vs : List Nat} {t : D → Env → Option Env} {fe : Env → R D} {d : D} {ds : List D} {e e1 e2 : Env} {y : D} (h1 : t d e = some e1) (h2 : fe e1 = .ok y e2) : compL vs t bTrue fe (d :: ds) e = bnd (compL vs t bTrue fe ds (wipeE e2 vs)) fun r e4 => .ok (y :: r) e4 := by
  conv => lhs; unfold compL
  rw [h1]
  simp only [opt_some, bnd_ok, bTrue_ap, if_true, h2]
theorem rangeL_succ (lo : Int) (n : Nat) : rangeL lo (n + 1) = .int lo :: rangeL (lo + 1) n := by
  unfold rangeL
  rw [List.range_succ_eq_map]
  simp only [List.map_cons, List.map_map]
  congr 1
  · simp
  · apply List.map_congr_left
    intro a _
    simp only [Function.comp]
    congr 1
    push_cast
    omega
theorem rangeL_zero (lo : Int) : rangeL lo 0 = [] := rfl
abbrev nearB : Env → R D := dBin ixD (dVar 2) (dCall F__law_take [some 0, none] (dMk 0 (dCons (dC (.int 12)) dNil)))
theorem near_loop (l : List D) (hl : l.length = 12) (a c d : Slot) : ∀ (n : Nat) (lo : Int) (K : Nat) (s : List D), K + n ≤ 1000000 → potOk K s → ∃ ys s', compL [5] (gtN 5) bTrue nearB (rangeL lo n) [some (.m s), some a, some (.v (.lst l)), some c, some d, none] = .ok ys [some (.m s'), some a, some (.v (.lst l)), some c, some d, none] ∧ ys.length = n ∧ (∀ y ∈ ys, y ∈ l) ∧ potOk (K + n) s'
  | 0, lo, K, s, h, p => ⟨[], s, rfl, rfl, (fun y hy => by cases hy), p⟩
  | n + 1, lo, K, s, h, p => by
    obtain ⟨i1, s1, a1, b1, p1, t1⟩ := dtake (by omega) p 12 (by decide) (by decide)
    obtain ⟨y, hm, hy⟩ := at_list (l := l) a1 (by rw [hl]; exact b1)
    obtain ⟨ys, s2, e2, l2, m2, p2⟩ := near_loop l hl a c d n (lo + 1) (K + 1) s1 (by omega) p1
    refine ⟨y :: ys, s2, ?_, by simp [l2], ?_, by rw [show K + (n + 1) = K + 1 + n by omega]; exact p2⟩
    · have k1 := fun r => t1 0 (some (.m s) :: r) rfl
      have hb : nearB [some (.m s), some a, some (.v (.lst l)), some c, some d, some (.v (.int lo))] = .ok y [some (.m s1), some a, some (.v (.lst l)), some c, some d, some (.v (.int lo))] := by
        simp [k1, hy]
      rw [rangeL_succ, comp_step (e1 := [some (.m s), some a, some (.v (.lst l)), some c, some d, some (.v (.int lo))]) rfl hb]
      rw [show wipeE [some (.m s1), some a, some (.v (.lst l)), some c, some d, some (.v (.int lo))] [5] = [some (.m s1), some a, some (.v (.lst l)), some c, some d, none] from rfl, e2, bnd_ok]
    · intro z hz
      rcases List.mem_cons.mp hz with q | q
      · rw [q]; exact hm
      · exact m2 z q
theorem near_comp {e : Env} {n : Int} {ds : List D} (h0 : 0 ≤ n) (h4 : n ≤ 63) {r : List D} {vs : List Nat} {fe : Env → R D} {x : Nat} {fi : Env → R D} {e2 : Env} (hi : fi e = .ok (.int n) e) (ha : vs.all (noM e) = true) (hc : compL vs (gtN x) bTrue fe (rangeL 0 n.toNat) (wipeE e vs) = .ok r e2) : mComp vs (iRange1 fi) (gtN x) bTrue fe e = .ok r (backE e2 e vs) := by
  have w : wide62 n = true := by
    have := wide_n n.toNat (by omega)
    rwa [Int.toNat_of_nonneg h0] at this
  have hr : iRange1 fi e = .ok (rangeL 0 n.toNat) e := by
    rw [iRange1_ap, hi, bnd_ok, c1_iRange1_ap, asI_int, opt_some, bnd_ok, c2_iRange1_ap, if_pos w]
  have hn : n.toNat < 16777216 := by omega
  unfold mComp
  rw [hr, bnd_ok, if_pos ⟨ha, by simpa [rangeL] using hn⟩, hc]
theorem near_eq {K : Nat} (hK : K ≤ 999000) {ds : List D} (h : potOk K ds) : ∃ d ds' n, F__law_near [.m ds] = .ok (.v d) [ds'] ∧ thingD d ∧ n ≤ 10 ∧ potOk (K + n) ds' := by
  obtain ⟨i1, s1, a1, b1, p1, t1⟩ := dtake (by omega) h 9 (by omega) (by omega)
  obtain ⟨i2, s2, a2, b2, p2, t2⟩ := dtake (by omega) p1 5 (by omega) (by omega)
  obtain ⟨i3, s3, a3, b3, p3, t3⟩ := dtake (by omega) p2 4 (by omega) (by omega)
  have k1 := fun r => t1 0 (some (.m ds) :: r) rfl
  have k2 := fun r => t2 0 (some (.m s1) :: r) rfl
  have k3 := fun r => t3 0 (some (.m s2) :: r) rfl
  obtain ⟨wd, hm, hwd⟩ := at_list (l := [.str "came", .str "round", .str "since", .str "here", .str "last", .str "first", .str "came", .str "Came", .str ""]) a1 (by simpa using b1)
  have hws : dep wd ≤ 2 ∧ plainD wd = true := by
    simp only [List.mem_cons, List.mem_nil_iff, or_false] at hm
    rcases hm with rfl | rfl | rfl | rfl | rfl | rfl | rfl | rfl | rfl <;> exact ⟨by simp [dep]; try decide, rfl⟩
  let sz : D := .dct [.inr "came", .inr "round", .inr "since", .inr "here", .inr "last", .inr "first"] [.int 2, .int 2, .int 2, .int 1, .int 0, .int 0]
  let some12 : List D := [.non, .int (-1), .int 0, .int 1, .int 2, .int 3, .int 4, .int 5, .bl true, .bl false, .str "1", .tup [.int 0]]
  have hg : ∃ k : Int, 0 ≤ k ∧ k ≤ 2 ∧ getD2 sz wd (.int 2) = some (.int k) := by
    simp only [List.mem_cons, List.mem_nil_iff, or_false] at hm
    rcases hm with rfl | rfl | rfl | rfl | rfl | rfl | rfl | rfl | rfl
    · exact ⟨2, by decide, by decide, rfl⟩
    · exact ⟨2, by decide, by decide, rfl⟩
    · exact ⟨2, by decide, by decide, rfl⟩
    · exact ⟨1, by decide, by decide, rfl⟩
    · exact ⟨0, by decide, by decide, rfl⟩
    · exact ⟨0, by decide, by decide, rfl⟩
    · exact ⟨2, by decide, by decide, rfl⟩
    · exact ⟨2, by decide, by decide, rfl⟩
    · exact ⟨2, by decide, by decide, rfl⟩
  obtain ⟨k, g0, g2, hg⟩ := hg
  obtain ⟨mn, hmm, hmn⟩ := at_list (l := [.int k, .int k, .int k, .int i2]) a3 (by simpa using b3)
  have hmi : ∃ m : Int, mn = .int m ∧ 0 ≤ m ∧ m ≤ 4 := by
    simp only [List.mem_cons, List.mem_nil_iff, or_false] at hmm
    rcases hmm with rfl | rfl | rfl | rfl
    · exact ⟨k, rfl, by omega, by omega⟩
    · exact ⟨k, rfl, by omega, by omega⟩
    · exact ⟨k, rfl, by omega, by omega⟩
    · exact ⟨i2, rfl, by omega, by omega⟩
  obtain ⟨m, rfl, m0, m4⟩ := hmi
  obtain ⟨ys, s4, e4, l4, y4, p4⟩ := near_loop some12 rfl (.v wd) (.v sz) (.v (.int m)) m.toNat 0 (K + 1 + 1 + 1) s3 (by omega) p3
  refine ⟨.tup (wd :: ys), s4, 3 + m.toNat, ?_, ?_, by omega, by rw [show K + (3 + m.toNat) = K + 1 + 1 + 1 + m.toNat by omega]; exact p4⟩
  · have e0 : startE 6 [.m ds] = [some (.m ds), none, none, none, none, none] := rfl
    have hcomp := near_comp (x := 5) (fi := dVar 4) m0 (by omega) (ds := []) (e := [some (.m s3), some (.v wd), some (.v (.lst some12)), some (.v sz), some (.v (.int m)), none]) rfl (vs := [5]) rfl e4
    have hA : addD (.tup [wd]) (.tup ys) = some (.tup (wd :: ys)) := add_tt [wd] ys (by simp [l4]; omega)
    unfold F__law_near f__law_near
    rw [e0]
    have A1 : sAsg (dBin ixD (dM (mLst (dCons (dC (.str "came")) (dCons (dC (.str "round")) (dCons (dC (.str "since")) (dCons (dC (.str "here")) (dCons (dC (.str "last")) (dCons (dC (.str "first")) (dCons (dC (.str "came")) (dCons (dC (.str "Came")) (dCons (dC (.str "")) dNil))))))))))) (dCall F__law_take [some 0, none] (dMk 0 (dCons (dC (.int 9)) dNil)))) (gtN 1) [some (.m ds), none, none, none, none, none] = .nx [some (.m s1), some (.v wd), none, none, none, none] := by
      simp [k1, hwd]
    rw [sSeq_ap, A1, sq_nx, sSeq_ap]
    have A2 : ∀ r, sAsg (dM (mLst (dCons (dC .non) (dCons (dUn negD (dC (.int 1))) (dCons (dC (.int 0)) (dCons (dC (.int 1)) (dCons (dC (.int 2)) (dCons (dC (.int 3)) (dCons (dC (.int 4)) (dCons (dC (.int 5)) (dCons (dC (.bl true)) (dCons (dC (.bl false)) (dCons (dC (.str "1")) (dCons (dTup (dCons (dC (.int 0)) dNil)) dNil)))))))))))))) (gtN 2) (some (.m s1) :: some (.v wd) :: none :: r) = .nx (some (.m s1) :: some (.v wd) :: some (.v (.lst some12)) :: r) := fun r => by
      simp [negD, some12]
    rw [A2, sq_nx, sSeq_ap]
    have A3 : ∀ r, sAsg (dDisp [.inr "came", .inr "round", .inr "since", .inr "here", .inr "last", .inr "first"] (dCons (dC (.int 2)) (dCons (dC (.int 2)) (dCons (dC (.int 2)) (dCons (dC (.int 1)) (dCons (dC (.int 0)) (dCons (dC (.int 0)) dNil))))))) (gtN 3) (some (.m s1) :: some (.v wd) :: some (.v (.lst some12)) :: none :: r) = .nx (some (.m s1) :: some (.v wd) :: some (.v (.lst some12)) :: some (.v sz) :: r) := fun r => by
      simp [sz]
    rw [A3, sq_nx, sSeq_ap]
    have hz : isDct sz = some () := rfl
    have A4 : sAsg (dBin ixD (dM (mLst (dCons (dGet2 (dVar 3) (dVar 1) (dC (.int 2))) (dCons (dGet2 (dVar 3) (dVar 1) (dC (.int 2))) (dCons (dGet2 (dVar 3) (dVar 1) (dC (.int 2))) (dCons (dCall F__law_take [some 0, none] (dMk 0 (dCons (dC (.int 5)) dNil))) dNil)))))) (dCall F__law_take [some 0, none] (dMk 0 (dCons (dC (.int 4)) dNil)))) (gtN 4) [some (.m s1), some (.v wd), some (.v (.lst some12)), some (.v sz), none, none] = .nx [some (.m s3), some (.v wd), some (.v (.lst some12)), some (.v sz), some (.v (.int m)), none] := by
      simp [hg, hz, k2, k3, hmn]
    rw [A4, sq_nx]
    simp [hcomp, backE, tupD, hA]
  · refine tup_thing (by simp [l4]; omega) fun x hx => ?_
    rcases List.mem_cons.mp hx with q | q
    · rw [q]; exact hws
    · have := y4 x q
      simp only [some12, List.mem_cons, List.mem_nil_iff, or_false] at this
      rcases this with rfl | rfl | rfl | rfl | rfl | rfl | rfl | rfl | rfl | rfl | rfl | rfl <;> exact ⟨by simp [dep, depL]; try decide, rfl⟩
end DL
end

section
set_option Elab.async false
set_option linter.all false
set_option maxRecDepth 100000
namespace DL
open PySem PySem.Spec PyProof.Rows L2
abbrev lawT0 : Env → RS := (sAsg (dCall F__law_note_due [none, none] (dCons (dVar 4) (dCons (dVar 7) dNil))) (gtN 8))
abbrev lawT1 : Env → RS := (sAsg (dCall F_is_note [none, none] (dCons (dVar 4) (dCons (dVar 7) dNil))) (gtN 9))
abbrev lawT2 : Env → RS := (sIf (bOr (bNot (dTruth (dCal isiD (dCons (dVar 9) (dCons (dC (.ty "bool")) dNil))))) (dTest (dBin neS (dVar 9) (dVar 8)))) (sRet (dC (.bl false))) sNx)
abbrev lawT3 : Env → RS := (sAsg (dIf (dTruth (dVar 8)) (dM (mLst (dCons (dC (.str "told")) (dCons (dCall F__law_most [none, none] (dCons (dVar 4) (dCons (dVar 7) dNil))) dNil)))) (dM (mLst (dCons (dC (.str "note")) (dCons (dC .non) dNil))))) (gtN 10))
abbrev lawT4 : Env → RS := (sIf (dTest (dBin neS (dCal (on1 reprD) (dCons (dLam f__law_met 3 (dCall F_most_of [none, none] (dCons (dVar 4) (dCons (dVar 7) dNil)))) dNil)) (dCal (on1 reprD) (dCons (dVar 10) dNil)))) (sRet (dC (.bl false))) sNx)
abbrev lawT5 : Env → RS := (sAsg (dBin ixD (dM (mLst (dCons (dC (.int 0)) (dCons (dC (.int 4)) (dCons (dUn negD (dC (.int 1))) (dCons (dC (.bl true)) (dCons (dC .non) (dCons (dC (.str "2")) (dCons (dTup dNil) (dCons (dM (mLst (dCons (dC (.int 1)) dNil))) (dCons (dBin powD (dC (.int 10)) (dC (.int 39))) dNil))))))))))) (dCall F__law_take [some 3, none] (dMk 3 (dCons (dC (.int 9)) dNil)))) (gtN 11))
abbrev lawT6 : Env → RS := (sIf (dTest (dBin neS (dCal (on1 reprD) (dCons (dLam f__law_met 3 (dCall F_is_note [none, none] (dCons (dVar 11) (dCons (dVar 7) dNil)))) dNil)) (dCal (on1 reprD) (dCons (dM (mLst (dCons (dC (.str "number")) (dCons (dVar 11) dNil)))) dNil)))) (sRet (dC (.bl false))) sNx)
abbrev lawT7 : Env → RS := (sIf (dTest (dBin neS (dCal (on1 reprD) (dCons (dLam f__law_met 3 (dCall F_most_of [none, none] (dCons (dVar 11) (dCons (dVar 7) dNil)))) dNil)) (dCal (on1 reprD) (dCons (dM (mLst (dCons (dC (.str "number")) (dCons (dVar 11) dNil)))) dNil)))) (sRet (dC (.bl false))) sNx)
abbrev thingB : Env → RS := (sSeq lawT0 (sSeq lawT1 (sSeq lawT2 (sSeq lawT3 (sSeq lawT4 (sSeq lawT5 (sSeq lawT6 lawT7)))))))
abbrev lawO0 : Env → RS := (sAsgM 3 (mCall F__law_pot [none, none] (dCons (dVar 1) (dCons (dVar 2) dNil))))
abbrev lawO1 : Env → RS := (sAsg (dBin addD (dC (.int 1)) (dCall F__law_take [some 3, none] (dMk 3 (dCons (dC (.int 3)) dNil)))) (gtN 4))
abbrev lawO2 : Env → RS := (sAsg (dCall F__law_note [some 3, none] (dMk 3 (dCons (dVar 4) dNil))) (gtN 5))
abbrev lawO3 : Env → RS := (sAsg (dM (mCat (dM (mLst (dCons (dVar 5) (dCons (dCall F__law_bent [some 3, none] (dMk 3 (dCons (dVar 5) dNil))) (dCons (dCall F__law_odd [some 3] (dMk 3 dNil)) dNil))))) (dM (mComp [12] (iRange1 (dC (.int 6))) (gtN 12) bTrue (dCall F__law_near [some 3] (dMk 3 dNil)))))) (gtN 6))
abbrev cellB : Env → RS := (sSeq lawO0 (sSeq lawO1 (sSeq lawO2 (sSeq lawO3 (sFor (iItems1 (dVar 6)) (gtN 7) thingB)))))
abbrev lawL0 : Env → RS := (sAsg (dCall F__law_folded [none, none] (dCons (dVar 0) (dCons (dC (.int 16)) dNil))) (gtN 1))
abbrev lawIt : Env → R (List D) := (iRange1 (dCal (on2 max2D) (dCons (dC (.int 1)) (dCons (dCal (on1 lenD) (dCons (dVar 1) dNil)) dNil))))
theorem f_law_eq : f_law = sSeq lawL0 (sSeq (sFor lawIt (gtN 2) cellB) (sRet (dC (.bl true)))) := rfl
end DL
end

section
set_option Elab.async false
set_option linter.all false
set_option maxRecDepth 100000
namespace DL
open PySem PySem.Spec PyProof.Rows L2
theorem lam2 {F : List Slot → RF} {i j : Nat} {E : Env} {a b : D} (h1 : E[i]? = some (some (.v a))) (h2 : E[j]? = some (some (.v b))) : dCall F [none, none] (dCons (dVar i) (dCons (dVar j) dNil)) E = kF [none, none] kD E (F [.v a, .v b]) := by
  simp [h1, h2]
abbrev E13 (x0 x1 x2 x5 x6 : D) (s : List D) (w d : D) (o8 o9 o10 o11 : Option Slot) : Env := [some (.v x0), some (.v x1), some (.v x2), some (.m s), some (.v w), some (.v x5), some (.v x6), some (.v d), o8, o9, o10, o11, none]
abbrev oddL : List D := [.int 0, .int 4, .int (-1), .bl true, .non, .str "2", .tup [], .lst [.int 1], .int (10 ^ 39)]
theorem odd_rep {x : D} (h : x ∈ oddL) : (∃ t, reprD (.lst [.str "number", x]) = some (.str t)) ∧ dataD x = true ∧ betw x 1 3 = false ∧ plainD x = true := by
  have h2 : ∀ y ∈ oddL, (dep (.lst [.str "number", y]) ≤ 60 ∧ (toP (.lst [.str "number", y])).showable = true ∧ (toP (.lst [.str "number", y])).shown.length ≤ 16777216) := by decide +kernel
  have := h2 x h
  refine ⟨⟨_, if_pos this⟩, ?_⟩
  simp only [List.mem_cons, List.mem_nil_iff, or_false] at h
  rcases h with rfl | rfl | rfl | rfl | rfl | rfl | rfl | rfl | rfl <;> exact ⟨rfl, by decide, rfl⟩
theorem told_rep {m : Int} (h1 : 1 ≤ m) (h4 : m ≤ 4) : ∃ t, reprD (.lst [.str "told", .int m]) = some (.str t) := by
  have h2 : ∀ y ∈ [1, 2, 3, (4 : Int)], (dep (.lst [.str "told", .int y]) ≤ 60 ∧ (toP (.lst [.str "told", .int y])).showable = true ∧ (toP (.lst [.str "told", .int y])).shown.length ≤ 16777216) := by decide +kernel
  have : m ∈ [1, 2, 3, (4 : Int)] := by
    simp only [List.mem_cons, List.mem_nil_iff, or_false]; omega
  exact ⟨_, if_pos (h2 m this)⟩
theorem note_rep : ∃ t, reprD (.lst [.str "note", .non]) = some (.str t) := by
  have h2 : (dep (.lst [.str "note", .non]) ≤ 60 ∧ (toP (.lst [.str "note", .non])).showable = true ∧ (toP (.lst [.str "note", .non])).shown.length ≤ 16777216) := by decide +kernel
  exact ⟨_, if_pos h2⟩
theorem neS_self (t : Str) : neS (.str t) (.str t) = some (.bl false) := by simp
section
variable {x0 x1 x2 x5 x6 : D} {w : Int} {d : D}
theorem thing_eq (w1 : 1 ≤ w) (w3 : w ≤ 3) (hd : thingD d) {K : Nat} (hK : K ≤ 1000000) {s : List D} (hs : potOk K s) (o7 o8 o9 o10 o11 : Option Slot) : ∃ s' y8 y9 y10 y11, thingB (E13 x0 x1 x2 x5 x6 s (.int w) d o8 o9 o10 o11) = .nx (E13 x0 x1 x2 x5 x6 s' (.int w) d (some (.v y8)) (some (.v y9)) (some (.v y10)) (some (.v y11))) ∧ potOk (K + 1) s' := by
  obtain ⟨od, hl, hp⟩ := hd
  obtain ⟨i1, s1, a1, b1, p1, t1⟩ := dtake hK hs 9 (by decide) (by decide)
  have hdue := note_due_eq w d od hl
  have htold := is_note_eq w w1 w3 d od hl
  have T0 : lawT0 (E13 x0 x1 x2 x5 x6 s (.int w) d o8 o9 o10 o11) = .nx (E13 x0 x1 x2 x5 x6 s (.int w) d (some (.v (.bl (noteB w d)))) o9 o10 o11) := by
    simp [hdue]
  have T1 : ∀ o8, lawT1 (E13 x0 x1 x2 x5 x6 s (.int w) d o8 o9 o10 o11) = .nx (E13 x0 x1 x2 x5 x6 s (.int w) d o8 (some (.v (.bl (noteB w d)))) o10 o11) := fun o8 => by
    simp [htold]
  have nb : neS (.bl (noteB w d)) (.bl (noteB w d)) = some (.bl false) := by
    simp [neS, neD, dep, eqv]
  have T2 : lawT2 (E13 x0 x1 x2 x5 x6 s (.int w) d (some (.v (.bl (noteB w d)))) (some (.v (.bl (noteB w d)))) o10 o11) = .nx (E13 x0 x1 x2 x5 x6 s (.int w) d (some (.v (.bl (noteB w d)))) (some (.v (.bl (noteB w d)))) o10 o11) := by
    simp [isi_bool _ (show dataD (.bl (noteB w d)) = true from rfl), nb]
  have p39 : powD (.int 10) (.int 39) = some (.int (10 ^ 39)) := pow_ii 10 39 4 (by decide) (by decide) (by decide) (by decide) (by decide)
  obtain ⟨x, hm, hx⟩ := at_list (l := oddL) a1 (by simpa [oddL] using b1)
  obtain ⟨⟨xt, hxt⟩, hxd, hxb, hxp⟩ := odd_rep hm
  have T5 : ∀ o8 o9 o10, lawT5 (E13 x0 x1 x2 x5 x6 s (.int w) d o8 o9 o10 o11) = .nx (E13 x0 x1 x2 x5 x6 s1 (.int w) d o8 o9 o10 (some (.v x))) := fun o8 o9 o10 => by
    have k1 := t1 3 (E13 x0 x1 x2 x5 x6 s (.int w) d o8 o9 o10 o11) rfl
    simp only [E13, List.set_cons_succ, List.set_cons_zero] at k1
    simp only [oddL] at hx
    simp [p39, -Int.reducePow, mAt, k1, negD, hx]
  have hno : F_is_note [.v x, .v d] = .exc ⟨10, [("number", x)]⟩ [] := is_note_no x hxd hxb d
  have hmo : F_most_of [.v x, .v d] = .exc ⟨10, [("number", x)]⟩ [] := most_of_no x hxd hxb d
  have T6 : ∀ s o8 o9 o10, lawT6 (E13 x0 x1 x2 x5 x6 s (.int w) d o8 o9 o10 (some (.v x))) = .nx (E13 x0 x1 x2 x5 x6 s (.int w) d o8 o9 o10 (some (.v x))) := fun s o8 o9 o10 => by
    have m := met_number (fl := dCall F_is_note [none, none] (dCons (dVar 11) (dCons (dVar 7) dNil))) (e := E13 x0 x1 x2 x5 x6 s (.int w) d o8 o9 o10 (some (.v x))) (x := x) (by rw [lam2 (a := x) (b := d) rfl rfl, hno, kF_exc]) hxp
    unfold lawT6
    generalize dLam f__law_met 3 (dCall F_is_note [none, none] (dCons (dVar 11) (dCons (dVar 7) dNil))) = fm at m ⊢
    simp [m, hxt]
  have T7 : ∀ s o8 o9 o10, lawT7 (E13 x0 x1 x2 x5 x6 s (.int w) d o8 o9 o10 (some (.v x))) = .nx (E13 x0 x1 x2 x5 x6 s (.int w) d o8 o9 o10 (some (.v x))) := fun s o8 o9 o10 => by
    have m := met_number (fl := dCall F_most_of [none, none] (dCons (dVar 11) (dCons (dVar 7) dNil))) (e := E13 x0 x1 x2 x5 x6 s (.int w) d o8 o9 o10 (some (.v x))) (x := x) (by rw [lam2 (a := x) (b := d) rfl rfl, hmo, kF_exc]) hxp
    unfold lawT7
    generalize dLam f__law_met 3 (dCall F_most_of [none, none] (dCons (dVar 11) (dCons (dVar 7) dNil))) = fm at m ⊢
    simp [m, hxt]
  have T34 : ∃ y, lawT3 (E13 x0 x1 x2 x5 x6 s (.int w) d (some (.v (.bl (noteB w d)))) (some (.v (.bl (noteB w d)))) o10 o11) = .nx (E13 x0 x1 x2 x5 x6 s (.int w) d (some (.v (.bl (noteB w d)))) (some (.v (.bl (noteB w d)))) (some (.v y)) o11) ∧ lawT4 (E13 x0 x1 x2 x5 x6 s (.int w) d (some (.v (.bl (noteB w d)))) (some (.v (.bl (noteB w d)))) (some (.v y)) o11) = .nx (E13 x0 x1 x2 x5 x6 s (.int w) d (some (.v (.bl (noteB w d)))) (some (.v (.bl (noteB w d)))) (some (.v y)) o11) := by
    cases n : noteB w d
    · obtain ⟨t, ht⟩ := note_rep
      refine ⟨.lst [.str "note", .non], by simp, ?_⟩
      have m := met_note (fl := dCall F_most_of [none, none] (dCons (dVar 4) (dCons (dVar 7) dNil))) (e := E13 x0 x1 x2 x5 x6 s (.int w) d (some (.v (.bl false))) (some (.v (.bl false))) (some (.v (.lst [.str "note", .non]))) o11) (by rw [lam2 (a := .int w) (b := d) rfl rfl, most_of_note w w1 w3 d od hl n, kF_exc])
      unfold lawT4
      generalize dLam f__law_met 3 (dCall F_most_of [none, none] (dCons (dVar 4) (dCons (dVar 7) dNil))) = fm at m ⊢
      simp [m, ht]
    · obtain ⟨k, k1, k4, hk, hk2⟩ := most_of_eq w w1 w3 d od hl n
      obtain ⟨t, ht⟩ := told_rep k1 k4
      refine ⟨.lst [.str "told", .int k], by simp [hk2], ?_⟩
      have m := met_ok (fl := dCall F_most_of [none, none] (dCons (dVar 4) (dCons (dVar 7) dNil))) (e := E13 x0 x1 x2 x5 x6 s (.int w) d (some (.v (.bl true))) (some (.v (.bl true))) (some (.v (.lst [.str "told", .int k]))) o11) (d := .int k) (by rw [lam2 (a := .int w) (b := d) rfl rfl, hk, kF_ok, kD_v, opt_some]) rfl
      unfold lawT4
      generalize dLam f__law_met 3 (dCall F_most_of [none, none] (dCons (dVar 4) (dCons (dVar 7) dNil))) = fm at m ⊢
      simp [m, ht]
  obtain ⟨y, T3, T4⟩ := T34
  refine ⟨s1, .bl (noteB w d), .bl (noteB w d), y, x, ?_, p1⟩
  unfold thingB
  rw [sSeq_ap, T0, sq_nx, sSeq_ap, T1, sq_nx, sSeq_ap, T2, sq_nx, sSeq_ap, T3, sq_nx, sSeq_ap, T4, sq_nx, sSeq_ap, T5, sq_nx, sSeq_ap, T6, sq_nx, T7]
end
end DL
end

section
set_option Elab.async false
set_option linter.all false
set_option maxRecDepth 100000
namespace DL
open PySem PySem.Spec PyProof.Rows L2
section
variable {x0 x1 x2 x5 x6 : D} {w : Int}
theorem things_loop (w1 : 1 ≤ w) (w3 : w ≤ 3) : ∀ (ds : List D) (K : Nat) (s : List D) (o7 o8 o9 o10 o11 : Option Slot), (∀ d ∈ ds, thingD d) → K + ds.length ≤ 1000000 → potOk K s → ∃ s' p7 p8 p9 p10 p11, forL (gtN 7) thingB ds [some (.v x0), some (.v x1), some (.v x2), some (.m s), some (.v (.int w)), some (.v x5), some (.v x6), o7, o8, o9, o10, o11, none] = .nx [some (.v x0), some (.v x1), some (.v x2), some (.m s'), some (.v (.int w)), some (.v x5), some (.v x6), p7, p8, p9, p10, p11, none] ∧ potOk (K + ds.length) s'
  | [], K, s, o7, o8, o9, o10, o11, hd, hK, hs => ⟨s, o7, o8, o9, o10, o11, rfl, hs⟩
  | d :: ds, K, s, o7, o8, o9, o10, o11, hd, hK, hs => by
    simp only [List.length_cons] at hK
    obtain ⟨s1, y8, y9, y10, y11, h1, p1⟩ := thing_eq (x0 := x0) (x1 := x1) (x2 := x2) (x5 := x5) (x6 := x6) w1 w3 (hd d (List.mem_cons_self ..)) (by omega) hs o7 o8 o9 o10 o11
    obtain ⟨s2, p7, p8, p9, p10, p11, h2, p2⟩ := things_loop w1 w3 ds (K + 1) s1 (some (.v d)) (some (.v y8)) (some (.v y9)) (some (.v y10)) (some (.v y11)) (fun x hx => hd x (List.mem_cons_of_mem _ hx)) (by omega) p1
    refine ⟨s2, p7, p8, p9, p10, p11, ?_, by rw [List.length_cons, show K + (ds.length + 1) = K + 1 + ds.length by omega]; exact p2⟩
    unfold forL
    rw [show gtN 7 d [some (.v x0), some (.v x1), some (.v x2), some (.m s), some (.v (.int w)), some (.v x5), some (.v x6), o7, o8, o9, o10, o11, none] = some (E13 x0 x1 x2 x5 x6 s (.int w) d o8 o9 o10 o11) from rfl, sO_some, h1]
    exact h2
abbrev nearC : Env → R D := dCall F__law_near [some 3] (dMk 3 dNil)
theorem nears_loop (x6 o7 o8 o9 o10 o11 : Option Slot) : ∀ (n : Nat) (lo : Int) (K : Nat) (s : List D), K + 10 * n ≤ 990000 → potOk K s → ∃ ys s' m, compL [12] (gtN 12) bTrue nearC (rangeL lo n) [some (.v x0), some (.v x1), some (.v x2), some (.m s), some (.v (.int w)), some (.v x5), x6, o7, o8, o9, o10, o11, none] = .ok ys [some (.v x0), some (.v x1), some (.v x2), some (.m s'), some (.v (.int w)), some (.v x5), x6, o7, o8, o9, o10, o11, none] ∧ ys.length = n ∧ (∀ y ∈ ys, thingD y) ∧ m ≤ 10 * n ∧ potOk (K + m) s'
  | 0, lo, K, s, h, p => ⟨[], s, 0, rfl, rfl, (fun y hy => by cases hy), by omega, p⟩
  | n + 1, lo, K, s, h, p => by
    obtain ⟨y, s1, m1, e1, t1, l1, p1⟩ := near_eq (K := K) (by omega) p
    obtain ⟨ys, s2, m2, e2, l2, t2, n2, p2⟩ := nears_loop x6 o7 o8 o9 o10 o11 n (lo + 1) (K + m1) s1 (by omega) p1
    refine ⟨y :: ys, s2, m1 + m2, ?_, by simp [l2], ?_, by omega, by rw [show K + (m1 + m2) = K + m1 + m2 by omega]; exact p2⟩
    · have hb : nearC [some (.v x0), some (.v x1), some (.v x2), some (.m s), some (.v (.int w)), some (.v x5), x6, o7, o8, o9, o10, o11, some (.v (.int lo))] = .ok y [some (.v x0), some (.v x1), some (.v x2), some (.m s1), some (.v (.int w)), some (.v x5), x6, o7, o8, o9, o10, o11, some (.v (.int lo))] := by
        have hk := kS_m1 F__law_near kD 3 [some (.v x0), some (.v x1), some (.v x2), some (.m s), some (.v (.int w)), some (.v x5), x6, o7, o8, o9, o10, o11, some (.v (.int lo))] s rfl
        unfold nearC
        rw [dCall_ap, callF_ap, dMk_ap]
        rw [show mAt [some (.v x0), some (.v x1), some (.v x2), some (.m s), some (.v (.int w)), some (.v x5), x6, o7, o8, o9, o10, o11, some (.v (.int lo))] 3 = some s from rfl, opt_some, bnd_ok, c1_dMk_ap, dNil_ap, bnd_ok, hk, e1, kF_ok, kD_v, putO_m1, opt_some]
        rfl
      rw [rangeL_succ, comp_step (e1 := [some (.v x0), some (.v x1), some (.v x2), some (.m s), some (.v (.int w)), some (.v x5), x6, o7, o8, o9, o10, o11, some (.v (.int lo))]) rfl hb]
      rw [show wipeE [some (.v x0), some (.v x1), some (.v x2), some (.m s1), some (.v (.int w)), some (.v x5), x6, o7, o8, o9, o10, o11, some (.v (.int lo))] [12] = [some (.v x0), some (.v x1), some (.v x2), some (.m s1), some (.v (.int w)), some (.v x5), x6, o7, o8, o9, o10, o11, none] from rfl, e2, bnd_ok]
    · intro z hz
      rcases List.mem_cons.mp hz with q | q
      · rw [q]; exact t1
      · exact t2 z q
theorem cell_eq (ms : List Int) (k : Nat) (hk : k < 1000) (o3 o4 o5 o6 o7 o8 o9 o10 o11 : Option Slot) : ∃ p3 p4 p5 p6 p7 p8 p9 p10 p11, cellB [some (.v x0), some (.v (.lst (intL ms))), some (.v (.int (k : Int))), o3, o4, o5, o6, o7, o8, o9, o10, o11, none] = .nx [some (.v x0), some (.v (.lst (intL ms))), some (.v (.int (k : Int))), p3, p4, p5, p6, p7, p8, p9, p10, p11, none] := by
  obtain ⟨s0, h0, p0⟩ := pot_eq ms k hk
  obtain ⟨i1, s1, a1, b1, p1, t1⟩ := dtake (by omega) p0 3 (by omega) (by omega)
  obtain ⟨nt, s2, m2, e2, f2, l2, p2⟩ := note_eq (by omega) p1 (1 + i1) (by omega) (by omega)
  obtain ⟨bn, s3, e3, t3, p3⟩ := bent_eq (by omega) p2 nt f2
  obtain ⟨od, s4, e4, t4, p4⟩ := odd_eq (by omega) p3
  let z1 : D := .lst (intL ms)
  let z2 : D := .int (k : Int)
  obtain ⟨ys, s5, m5, e5, l5, t5, n5, p5⟩ := nears_loop (x0 := x0) (x1 := z1) (x2 := z2) (x5 := nt) (w := 1 + i1) o6 o7 o8 o9 o10 o11 6 0 _ s4 (by omega) p4
  have ht : ∀ d ∈ nt :: bn :: od :: ys, thingD d := by
    intro d hd
    simp only [List.mem_cons] at hd
    rcases hd with rfl | rfl | rfl | hd
    · exact flatT_thing f2
    · exact t3
    · exact t4
    · exact t5 d hd
  obtain ⟨s6, p7, p8, p9, p10, p11, e6, p6⟩ := things_loop (x0 := x0) (x1 := z1) (x2 := z2) (x5 := nt) (x6 := .lst (nt :: bn :: od :: ys)) (w := 1 + i1) (by omega) (by omega) (nt :: bn :: od :: ys) _ s5 o7 o8 o9 o10 o11 ht (by simp [l5]; omega) p5
  refine ⟨some (.m s6), some (.v (.int (1 + i1))), some (.v nt), some (.v (.lst (nt :: bn :: od :: ys))), p7, p8, p9, p10, p11, ?_⟩
  · have O0 : lawO0 [some (.v x0), some (.v z1), some (.v z2), o3, o4, o5, o6, o7, o8, o9, o10, o11, none] = .nx [some (.v x0), some (.v z1), some (.v z2), some (.m s0), o4, o5, o6, o7, o8, o9, o10, o11, none] := by
      simp [h0, z1, z2]
    have O1 : lawO1 [some (.v x0), some (.v z1), some (.v z2), some (.m s0), o4, o5, o6, o7, o8, o9, o10, o11, none] = .nx [some (.v x0), some (.v z1), some (.v z2), some (.m s1), some (.v (.int (1 + i1))), o5, o6, o7, o8, o9, o10, o11, none] := by
      have k1 := t1 3 [some (.v x0), some (.v z1), some (.v z2), some (.m s0), o4, o5, o6, o7, o8, o9, o10, o11, none] rfl
      simp only [List.set_cons_succ, List.set_cons_zero] at k1
      simp [mAt, k1]
    have O2 : lawO2 [some (.v x0), some (.v z1), some (.v z2), some (.m s1), some (.v (.int (1 + i1))), o5, o6, o7, o8, o9, o10, o11, none] = .nx [some (.v x0), some (.v z1), some (.v z2), some (.m s2), some (.v (.int (1 + i1))), some (.v nt), o6, o7, o8, o9, o10, o11, none] := by
      have hk := kS_m2 F__law_note kD 3 (.int (1 + i1)) [some (.v x0), some (.v z1), some (.v z2), some (.m s1), some (.v (.int (1 + i1))), o5, o6, o7, o8, o9, o10, o11, none] s1 rfl
      rw [e2] at hk
      simp [mAt, hk, putO_m2]
    have O3 : lawO3 [some (.v x0), some (.v z1), some (.v z2), some (.m s2), some (.v (.int (1 + i1))), some (.v nt), o6, o7, o8, o9, o10, o11, none] = .nx [some (.v x0), some (.v z1), some (.v z2), some (.m s5), some (.v (.int (1 + i1))), some (.v nt), some (.v (.lst (nt :: bn :: od :: ys))), o7, o8, o9, o10, o11, none] := by
      have hk := kS_m2 F__law_bent kD 3 nt [some (.v x0), some (.v z1), some (.v z2), some (.m s2), some (.v (.int (1 + i1))), some (.v nt), o6, o7, o8, o9, o10, o11, none] s2 rfl
      rw [e3] at hk
      have hk2 := kS_m1 F__law_odd kD 3 [some (.v x0), some (.v z1), some (.v z2), some (.m s3), some (.v (.int (1 + i1))), some (.v nt), o6, o7, o8, o9, o10, o11, none] s3 rfl
      rw [e4] at hk2
      have hc := near_comp (x := 12) (n := 6) (fi := dC (.int 6)) (by decide) (by decide) (ds := []) (e := [some (.v x0), some (.v z1), some (.v z2), some (.m s4), some (.v (.int (1 + i1))), some (.v nt), o6, o7, o8, o9, o10, o11, none]) rfl (vs := [12]) rfl e5
      have hl : 3 + 6 ≤ 16777216 := by decide
      simp [mAt, hk, putO_m2, hk2, putO_m1, hc, backE, l5]
    have O4 : sFor (iItems1 (dVar 6)) (gtN 7) thingB [some (.v x0), some (.v z1), some (.v z2), some (.m s5), some (.v (.int (1 + i1))), some (.v nt), some (.v (.lst (nt :: bn :: od :: ys))), o7, o8, o9, o10, o11, none] = .nx [some (.v x0), some (.v z1), some (.v z2), some (.m s6), some (.v (.int (1 + i1))), some (.v nt), some (.v (.lst (nt :: bn :: od :: ys))), p7, p8, p9, p10, p11, none] := by
      rw [sFor_ap, show iItems1 (dVar 6) [some (.v x0), some (.v z1), some (.v z2), some (.m s5), some (.v (.int (1 + i1))), some (.v nt), some (.v (.lst (nt :: bn :: od :: ys))), o7, o8, o9, o10, o11, none] = .ok (nt :: bn :: od :: ys) [some (.v x0), some (.v z1), some (.v z2), some (.m s5), some (.v (.int (1 + i1))), some (.v nt), some (.v (.lst (nt :: bn :: od :: ys))), o7, o8, o9, o10, o11, none] from rfl, sB_ok]
      exact e6
    show cellB [some (.v x0), some (.v z1), some (.v z2), o3, o4, o5, o6, o7, o8, o9, o10, o11, none] = _
    unfold cellB
    rw [sSeq_ap, O0, sq_nx, sSeq_ap, O1, sq_nx, sSeq_ap, O2, sq_nx, sSeq_ap, O3, sq_nx, O4]
end
theorem cells_loop (x0 : D) (ms : List Int) : ∀ (n lo : Nat) (o2 o3 o4 o5 o6 o7 o8 o9 o10 o11 : Option Slot), lo + n < 1000 → ∃ p2 p3 p4 p5 p6 p7 p8 p9 p10 p11, forL (gtN 2) cellB (rangeL (lo : Int) n) [some (.v x0), some (.v (.lst (intL ms))), o2, o3, o4, o5, o6, o7, o8, o9, o10, o11, none] = .nx [some (.v x0), some (.v (.lst (intL ms))), p2, p3, p4, p5, p6, p7, p8, p9, p10, p11, none]
  | 0, lo, o2, o3, o4, o5, o6, o7, o8, o9, o10, o11, h => ⟨o2, o3, o4, o5, o6, o7, o8, o9, o10, o11, rfl⟩
  | n + 1, lo, o2, o3, o4, o5, o6, o7, o8, o9, o10, o11, h => by
    obtain ⟨p3, p4, p5, p6, p7, p8, p9, p10, p11, h1⟩ := cell_eq (x0 := x0) ms lo (by omega) o3 o4 o5 o6 o7 o8 o9 o10 o11
    obtain ⟨q2, q3, q4, q5, q6, q7, q8, q9, q10, q11, h2⟩ := cells_loop x0 ms n (lo + 1) (some (.v (.int (lo : Int)))) p3 p4 p5 p6 p7 p8 p9 p10 p11 (by omega)
    refine ⟨q2, q3, q4, q5, q6, q7, q8, q9, q10, q11, ?_⟩
    rw [rangeL_succ]
    unfold forL
    rw [show gtN 2 (.int (lo : Int)) [some (.v x0), some (.v (.lst (intL ms))), o2, o3, o4, o5, o6, o7, o8, o9, o10, o11, none] = some [some (.v x0), some (.v (.lst (intL ms))), some (.v (.int (lo : Int))), o3, o4, o5, o6, o7, o8, o9, o10, o11, none] from rfl, sO_some, h1]
    exact h2
theorem law_pure (ns : List Int) (h : ns.length ≤ 63) : F_law [.v (.lst (ns.map .int))] = .ok (.v (.bl true)) [] := by
  obtain ⟨ms, hms, hf⟩ := folded_eq ns h
  have e0 : startE 13 [.v (.lst (ns.map .int))] = [some (.v (.lst (intL ns))), none, none, none, none, none, none, none, none, none, none, none, none] := rfl
  have L0 : lawL0 [some (.v (.lst (intL ns))), none, none, none, none, none, none, none, none, none, none, none, none] = .nx [some (.v (.lst (intL ns))), some (.v (.lst (intL ms))), none, none, none, none, none, none, none, none, none, none, none] := by
    simp [hf]
  have hn : ∃ n : Nat, n < 1000 ∧ lawIt [some (.v (.lst (intL ns))), some (.v (.lst (intL ms))), none, none, none, none, none, none, none, none, none, none, none] = .ok (rangeL 0 n) [some (.v (.lst (intL ns))), some (.v (.lst (intL ms))), none, none, none, none, none, none, none, none, none, none, none] := by
    have hl : lenD (.lst (intL ms)) = some (.int (ms.length : Int)) := by simp [lenD]
    refine ⟨(if (1 : Int) < (ms.length : Int) then (ms.length : Int) else 1).toNat, by split <;> omega, ?_⟩
    unfold lawIt
    have hw : wide62 (if (1 : Int) < (ms.length : Int) then (ms.length : Int) else 1) = true := by
      split
      · exact wide_n _ (by omega)
      · decide
    have hm : max2D (.int 1) (.int (ms.length : Int)) = some (.int (if (1 : Int) < (ms.length : Int) then (ms.length : Int) else 1)) := by
      simp [max2D]
    generalize (if (1 : Int) < (ms.length : Int) then (ms.length : Int) else 1) = v at *
    generalize max2D = mm at *
    have ha : (dCal (on2 mm) (dCons (dC (.int 1)) (dCons (dCal (on1 lenD) (dCons (dVar 1) dNil)) dNil))) [some (.v (.lst (intL ns))), some (.v (.lst (intL ms))), none, none, none, none, none, none, none, none, none, none, none] = .ok (.int v) [some (.v (.lst (intL ns))), some (.v (.lst (intL ms))), none, none, none, none, none, none, none, none, none, none, none] := by
      simp [hl, hm]
    rw [iRange1_ap, ha, bnd_ok, c1_iRange1_ap, asI_int, opt_some, bnd_ok, c2_iRange1_ap, if_pos hw]
  obtain ⟨n, hn1, hn2⟩ := hn
  obtain ⟨p2, p3, p4, p5, p6, p7, p8, p9, p10, p11, hc⟩ := cells_loop (.lst (intL ns)) ms n 0 none none none none none none none none none none (by omega)
  unfold F_law
  rw [f_law_eq, e0, sSeq_ap, L0, sq_nx, sSeq_ap, sFor_ap, hn2, sB_ok]
  rw [show ((0 : Nat) : Int) = 0 from rfl] at hc
  rw [hc, sq_nx]
  simp
end DL
end

section
set_option Elab.async false
theorem PySem.Challenge.cw_whocame_k01_notes_known_holds : PySem.Challenge.rw_whocame_k01_notes_known.Holds :=
  law_head fun ns h _ => DL.law_pure ns h
end
