import PyProof.Rows.All
import Wide.All
import OpenK.AllK
import Wide.FinOn
import PyProof.EqAt
import PyProof.EqKinds
import PyProof.TupleCall
import HandS.ForExc
import HandS.Comp
import HandS.Dict
import HandS.Iter
import HandS.Text
import HandS.More
import HandS.IsInst
import HandS.CallSlots
import HandS.Wide
import HandS.Lambda
import HandS.TupAny
import KE.KUnpackStar
import HandS.HeadHook3
import HandS.ExcInit
import HandS.ExcOwn
import KE.KExcInit
import HandS.TryMany
import HandS.ExcIs
import HandS.ExcField
import KE.DatumIndex
import HandS.EndTab
import HandS.Head0
import HandS.Head1
import HandS.Head2
import HandS.HeadEnd
import HandS.HeadHook1
import HandS.HeadHook2
import HandS.HeadHook4
import KE.GoesEnum
import KE.GoesZip
import KE.DataFind
import HandS.Deep
import HandS.TryOnly
import HandS.SortInts
import HandS.Strs
import HandS.SetFor
import HandS.Style
import PyProof.AutoSeq1
import HandS.TupMul
import PySem.Challenge.RW_whocame_k04_rules_let_by
import Wide.Once
import PyProof.ReprLen
import PyProof.FitsInt
section
set_option Elab.async false
set_option linter.all false
set_option maxRecDepth 100000
set_option maxHeartbeats 4000000
namespace DL
open PySem PySem.Spec PyProof.Rows L2

/-- plain data, and names of defs and classes -/
inductive D where
  | non | bl (b : Bool) | int (i : Int) | str (x : Str)
  | tup (xs : List D) | lst (xs : List D) | dct (ks : List Key) (ds : List D)
  | fn (n : Nat) | cl (n : Nat) | ty (n : String)
  | th (r : List D) (x : Option (Nat × List Str))
  | xc (n : Nat) (ns : List Str) (ds : List D)

/-- what a name holds: a thing that is shared and stays, or a list of its own -/
inductive Slot where
  | v (d : D)
  | m (ds : List D)
abbrev Env := List (Option Slot)

/-! ### what a piece of text tells -/
/-- an exception: its class, its own fields -/
structure Xc where
  cls : Nat
  fs : List (Str × D)
inductive R (α : Type) where
  | ok (a : α) (e : Env)
  | exc (x : Xc) (e : Env)
  | bad
inductive RS where
  | nx (e : Env) | rt (s : Slot) (e : Env) | bk (e : Env) | ct (e : Env)
  | exc (x : Xc) (e : Env)
  | bad

/-- what is not in A stays, and does not come into A' -/
def NT (o : HO) : Prop := ∀ ps, o ≠ .tbl ps
def Kp (A : Addr → Prop) (H : Hp) (A' : Addr → Prop) (H' : Hp) : Prop := ∀ a o, H a = some o → (¬ A a ∧ NT o) → H' a = some o ∧ ¬ A' a
theorem Kp.refl {A H} : Kp A H A H := fun _ _ h n => ⟨h, n.1⟩
theorem Kp.trans {A H A1 H1 A2 H2} (a : Kp A H A1 H1) (b : Kp A1 H1 A2 H2) : Kp A H A2 H2 := fun c o h n => b c o (a c o h n).1 ⟨(a c o h n).2, n.2⟩
/-- it is no code object -/
def NC (o : HO) : Prop := (∀ c q, LamX.CodeO c q ≠ o) ∧ NT o
theorem nc_lst {xs} : NC (.lst xs) := ⟨(fun c q z => by unfold LamX.CodeO at z; cases z), (fun _ z => by cases z)⟩
theorem nc_dK {xs} : NC (.dK xs) := ⟨(fun c q z => by unfold LamX.CodeO at z; cases z), (fun _ z => by cases z)⟩
theorem nt_tup {xs} : NT (.tup xs) := fun _ z => by cases z
theorem nt_lst {xs} : NT (.lst xs) := fun _ z => by cases z
theorem nt_dK {xs} : NT (.dK xs) := fun _ z => by cases z
theorem nt_frz {o xs} : NT (.frz o xs) := fun _ z => by cases z
theorem nt_xd {xs} : NT (.xd xs) := fun _ z => by cases z
theorem nt_code {c q} : NT (LamX.CodeO c q) := LamX.codeO_ne
theorem tabs_new {T : List (Addr × Str)} {H : Hp} {a : Addr} {o : HO} (t : LamX.Tabs T H) (h : H a = none) : LamX.Tabs T (upd H a o) := t.ext fun b u e => by
  rw [upd_ne (ne_of_none e h)]
  exact e
/-- an object that is neither a table nor a code object is changed -/
theorem tabs_upd {T : List (Addr × Str)} {H : Hp} {a : Addr} {vs us : List V} (t : LamX.Tabs T H) (h : H a = some (.lst vs)) : LamX.Tabs T (upd H a (.lst us)) := fun p hp => by
  obtain ⟨ps, h1, h2, h3⟩ := t p hp
  have n1 : p.1 ≠ a := fun z => by
    rw [z, h] at h1
    cases h1
  refine ⟨ps, by rw [upd_ne n1]; exact h1, h2, fun pos cv hc => ?_⟩
  obtain ⟨c, e1, e2⟩ := h3 pos cv hc
  have n2 : c ≠ a := fun z => by
    rw [z, h] at e2
    cases e2
  exact ⟨c, e1, by rw [upd_ne n2]; exact e2⟩

/-- a lambda that was handed in -/
structure Thk where
  f : Addr
  c : Addr
  q : Str
  ok : (Addr → Prop) → Hp → List D → Option (Nat × List Str) → Prop
  stable : ∀ A H A' H' r x, Kp A H A' H' → ok A H r x → ok A' H' r x
/-- an exception that is being looked at -/
structure Exv where
  a : Addr
  cls : Value
  d : Option Addr
/-- where the program's defs and classes stand; the tables of code objects; the lambda, in a def that got one -/
structure G where
  K : PySem.W.Frag
  fnA : Nat → Addr
  clA : Nat → Addr
  T : List (Addr × Str)
  th : Option Thk
  ex : Option Exv
/-- what a call of it tells -/
def tellsO (r : R D) : Option (List D × Option (Nat × List Str)) := match r with
  | .ok d _ => some ([d], none)
  | .exc x _ => some (x.fs.map (·.2), some (x.cls, x.fs.map (·.1)))
  | .bad => none

def QT (g : G) (H : Hp) (A : Addr → Prop) (a : Addr) (vs : List V) : Prop :=
  (¬ A a ∧ Rd H a (.tup vs)) ∨ ∃ (o : Obj) (its : Array Value) (n : Nat), g.K.lookup a = some o ∧ o.cls = .type "tuple" ∧ o.data = .seq its n ∧ its.size ≤ sizeLine ∧ Vals vs its.toList
def QL (g : G) (H : Hp) (A : Addr → Prop) (a : Addr) (vs : List V) : Prop :=
  (¬ A a ∧ Rd H a (.lst vs)) ∨ ∃ (o : Obj) (its : Array Value) (n : Nat), g.K.lookup a = some o ∧ o.cls = .type "list" ∧ o.dict = none ∧ o.data = .seq its n ∧ its.size ≤ sizeLine ∧ Vals vs its.toList

mutual
def Rep (g : G) (H : Hp) (A : Addr → Prop) : D → V → Prop
  | .non, v => v = .non
  | .bl b, v => v = .bl b
  | .int i, v => v = .int i
  | .str x, v => v = .str x
  | .tup ds, v => ∃ a vs, v = .ref a ∧ QT g H A a vs ∧ RepL g H A ds vs
  | .lst ds, v => ∃ a vs, v = .ref a ∧ QL g H A a vs ∧ RepL g H A ds vs
  | .dct ks ds, v => ∃ a vs, v = .ref a ∧ (¬ A a ∧ H a = some (.dK (ks.zip vs))) ∧ ks.length = vs.length ∧ RepL g H A ds vs
  | .fn n, v => v = .ref (g.fnA n)
  | .cl n, v => v = .ref (g.clA n)
  | .ty n, v => v = .ty n
  | .th r x, v => ∃ t, g.th = some t ∧ v = .ref t.f ∧ (¬ A t.c ∧ H t.c = some (LamX.CodeO t.c t.q)) ∧ t.ok A H r x
  | .xc n ns ds, v => ∃ x, g.ex = some x ∧ v = .ref x.a ∧ x.cls = .ref (g.clA n) ∧ (ns = [] → x.d = none) ∧ (ns ≠ [] → ∃ dd fs, x.d = some dd ∧ (¬ A dd ∧ H dd = some (.xd fs)) ∧ fs.map (·.1) = ns ∧ RepL g H A ds (fs.map (·.2)))
def RepL (g : G) (H : Hp) (A : Addr → Prop) : List D → List V → Prop
  | [], vs => vs = []
  | d :: ds, vs => ∃ v r, vs = v :: r ∧ Rep g H A d v ∧ RepL g H A ds r
end

section
variable {g : G} {H H' : Hp} {A A' : Addr → Prop}
theorem QT.kp {a vs} (h : QT g H A a vs) (k : Kp A H A' H') : QT g H' A' a vs := by
  rcases h with ⟨n, h | ⟨o, h⟩⟩ | h
  · exact .inl ⟨(k _ _ h ⟨n, nt_tup⟩).2, .inl (k _ _ h ⟨n, nt_tup⟩).1⟩
  · exact .inl ⟨(k _ _ h ⟨n, nt_frz⟩).2, .inr ⟨o, (k _ _ h ⟨n, nt_frz⟩).1⟩⟩
  · exact .inr h
theorem QL.kp {a vs} (h : QL g H A a vs) (k : Kp A H A' H') : QL g H' A' a vs := by
  rcases h with ⟨n, h | ⟨o, h⟩⟩ | h
  · exact .inl ⟨(k _ _ h ⟨n, nt_lst⟩).2, .inl (k _ _ h ⟨n, nt_lst⟩).1⟩
  · exact .inl ⟨(k _ _ h ⟨n, nt_frz⟩).2, .inr ⟨o, (k _ _ h ⟨n, nt_frz⟩).1⟩⟩
  · exact .inr h
theorem QT.sq {a vs} (h : QT g H A a vs) : SqT g.K H a vs := by
  rcases h with ⟨_, h⟩ | h
  · exact .inl h
  · exact .inr h
theorem QL.sq {a vs} (h : QL g H A a vs) : SqL g.K H a vs := by
  rcases h with ⟨_, h⟩ | h
  · exact .inl h
  · exact .inr h
mutual
theorem Rep.kp (k : Kp A H A' H') : ∀ (d : D) (v : V), Rep g H A d v → Rep g H' A' d v
  | .non, _, h => h
  | .bl _, _, h => h
  | .int _, _, h => h
  | .str _, _, h => h
  | .tup ds, _, ⟨a, vs, e, q, r⟩ => ⟨a, vs, e, q.kp k, RepL.kp k ds vs r⟩
  | .lst ds, _, ⟨a, vs, e, q, r⟩ => ⟨a, vs, e, q.kp k, RepL.kp k ds vs r⟩
  | .dct ks ds, _, ⟨a, vs, e, ⟨n, q⟩, l, r⟩ => ⟨a, vs, e, ⟨(k _ _ q ⟨n, nt_dK⟩).2, (k _ _ q ⟨n, nt_dK⟩).1⟩, l, RepL.kp k ds vs r⟩
  | .fn _, _, h => h
  | .cl _, _, h => h
  | .ty _, _, h => h
  | .th r x, _, ⟨t, h1, h2, ⟨n, q⟩, h3⟩ => ⟨t, h1, h2, ⟨(k _ _ q ⟨n, nt_code⟩).2, (k _ _ q ⟨n, nt_code⟩).1⟩, t.stable _ _ _ _ _ _ k h3⟩
  | .xc n ns ds, _, ⟨x, h1, h2, h3, h0, h4⟩ => ⟨x, h1, h2, h3, h0, fun z => by
    obtain ⟨dd, fs, q1, ⟨q2, q3⟩, q4, q5⟩ := h4 z
    exact ⟨dd, fs, q1, ⟨(k _ _ q3 ⟨q2, nt_xd⟩).2, (k _ _ q3 ⟨q2, nt_xd⟩).1⟩, q4, RepL.kp k ds _ q5⟩⟩
theorem RepL.kp (k : Kp A H A' H') : ∀ (ds : List D) (vs : List V), RepL g H A ds vs → RepL g H' A' ds vs
  | [], _, h => h
  | d :: ds, _, ⟨v, r, e, h1, h2⟩ => ⟨v, r, e, Rep.kp k d v h1, RepL.kp k ds r h2⟩
end
theorem RepL.length : ∀ {ds : List D} {vs : List V}, RepL g H A ds vs → ds.length = vs.length
  | [], _, h => by rw [show _ = [] from h]; rfl
  | d :: ds, _, ⟨v, r, e, h1, h2⟩ => by rw [e]; simp [RepL.length h2]
theorem RepL.get : ∀ {ds : List D} {vs : List V} {i : Nat} {v : V}, RepL g H A ds vs → vs[i]? = some v → ∃ d, ds[i]? = some d ∧ Rep g H A d v
  | [], _, i, v, h, e => by rw [show _ = [] from h] at e; simp at e
  | d :: ds, _, 0, v, ⟨u, r, e, h1, h2⟩, q => by subst e; simp at q; subst q; exact ⟨d, rfl, h1⟩
  | d :: ds, _, i + 1, v, ⟨u, r, e, h1, h2⟩, q => by
    subst e
    obtain ⟨d', e1, e2⟩ := RepL.get (i := i) (v := v) h2 (by simpa using q)
    exact ⟨d', by simpa using e1, e2⟩
theorem RepL.at : ∀ {ds : List D} {vs : List V} {i : Nat} {d : D}, RepL g H A ds vs → ds[i]? = some d → ∃ v, vs[i]? = some v ∧ Rep g H A d v
  | [], _, i, v, h, e => by simp at e
  | d :: ds, _, 0, v, ⟨u, r, e, h1, h2⟩, q => by subst e; simp at q; subst q; exact ⟨u, rfl, h1⟩
  | d :: ds, _, i + 1, v, ⟨u, r, e, h1, h2⟩, q => by
    subst e
    obtain ⟨d', e1, e2⟩ := RepL.at (i := i) (d := v) h2 (by simpa using q)
    exact ⟨d', by simpa using e1, e2⟩
theorem RepL.append : ∀ {ds es : List D} {vs us : List V}, RepL g H A ds vs → RepL g H A es us → RepL g H A (ds ++ es) (vs ++ us)
  | [], _, _, _, h, k => by rw [show _ = [] from h]; exact k
  | d :: ds, es, _, us, ⟨v, r, e, h1, h2⟩, k => ⟨v, r ++ us, by rw [e]; rfl, h1, RepL.append h2 k⟩
theorem RepL.drop : ∀ {ds : List D} {vs : List V} (n : Nat), RepL g H A ds vs → RepL g H A (ds.drop n) (vs.drop n)
  | _, _, 0, h => h
  | [], _, n + 1, h => by rw [show _ = [] from h]; rfl
  | d :: ds, _, n + 1, ⟨v, r, e, h1, h2⟩ => by rw [e]; exact RepL.drop n h2
theorem RepL.take : ∀ {ds : List D} {vs : List V} (n : Nat), RepL g H A ds vs → RepL g H A (ds.take n) (vs.take n)
  | _, _, 0, h => rfl
  | [], _, n + 1, h => by rw [show _ = [] from h]; rfl
  | d :: ds, _, n + 1, ⟨v, r, e, h1, h2⟩ => ⟨v, r.take n, by rw [e]; rfl, h1, RepL.take n h2⟩
theorem RepL.set : ∀ {ds : List D} {vs : List V} (n : Nat) {d : D} {v : V}, RepL g H A ds vs → Rep g H A d v → RepL g H A (ds.set n d) (vs.set n v)
  | [], _, n, _, _, h, _ => by rw [show _ = [] from h]; rfl
  | d :: ds, _, 0, _, _, ⟨v, r, e, h1, h2⟩, k => ⟨_, r, by rw [e]; rfl, k, h2⟩
  | d :: ds, _, n + 1, _, _, ⟨v, r, e, h1, h2⟩, k => ⟨v, r.set n _, by rw [e]; rfl, h1, RepL.set n h2 k⟩
theorem RepL.reverse : ∀ {ds : List D} {vs : List V}, RepL g H A ds vs → RepL g H A ds.reverse vs.reverse
  | [], _, h => by rw [show _ = [] from h]; rfl
  | d :: ds, _, ⟨v, r, e, h1, h2⟩ => by
    rw [e, List.reverse_cons, List.reverse_cons]
    exact RepL.append (RepL.reverse h2) ⟨v, [], rfl, h1, rfl⟩
theorem RepL.ints (ns : List Int) : RepL g H A (ns.map D.int) (ns.map V.int) := by
  induction ns with
  | nil => rfl
  | cons n r ih => exact ⟨_, _, rfl, rfl, ih⟩
end

/-- the object at a is a list that a name holds as its own -/
def isM (e : Env) (σ : L2.St) (a : Addr) : Prop := ∃ (i : Nat) (ds : List D), e[i]? = some (some (.m ds)) ∧ σ[i]? = some (some (.ref a))
def Av (P : Addr → Prop) (e : Env) (σ : L2.St) : Addr → Prop := fun a => P a ∨ isM e σ a

/-- ps: the places and addresses of the parameters that are lists to be changed -/
structure StRel (g : G) (P : Addr → Prop) (ps : List (Nat × Addr)) (e : Env) (σ : L2.St) (H : Hp) : Prop where
  len : e.length = σ.length
  vv : ∀ (i : Nat) (d : D), e[i]? = some (some (.v d)) → ∃ v, σ[i]? = some (some v) ∧ Rep g H (Av P e σ) d v
  mm : ∀ (i : Nat) (ds : List D), e[i]? = some (some (.m ds)) → ∃ a vs, σ[i]? = some (some (.ref a)) ∧ H a = some (.lst vs) ∧ RepL g H (Av P e σ) ds vs ∧ ¬ P a
  inj : ∀ (i j : Nat) (a : Addr) (ds es : List D), e[i]? = some (some (.m ds)) → e[j]? = some (some (.m es)) → σ[i]? = some (some (.ref a)) → σ[j]? = some (some (.ref a)) → i = j
  prv : ∀ a, P a → ∃ o, H a = some o ∧ NC o
  par : ∀ p ∈ ps, σ[p.1]? = some (some (.ref p.2)) ∧ ∃ ds, e[p.1]? = some (some (.m ds))
  tb : LamX.Tabs g.T H

section
variable {g : G} {P P' : Addr → Prop} {ps : List (Nat × Addr)} {e e' : Env} {σ σ' : L2.St} {H H' : Hp}
theorem isM.there (s : StRel g P ps e σ H) {a : Addr} (h : isM e σ a) : ∃ vs, H a = some (.lst vs) := by
  obtain ⟨i, ds, h1, h2⟩ := h
  obtain ⟨b, vs, q1, q2, _⟩ := s.mm i ds h1
  rw [h2] at q1; cases q1
  exact ⟨vs, q2⟩
theorem Av.there (s : StRel g P ps e σ H) {a : Addr} (h : Av P e σ a) : ∃ o, H a = some o := by
  rcases h with h | h
  · exact let ⟨o, h, _⟩ := s.prv a h; ⟨o, h⟩
  · exact let ⟨_, h⟩ := h.there s; ⟨_, h⟩
theorem Av.nc (s : StRel g P ps e σ H) {a : Addr} (h : Av P e σ a) : ∃ o, H a = some o ∧ NC o := by
  rcases h with h | h
  · exact s.prv a h
  · exact let ⟨_, h⟩ := h.there s; ⟨_, h, nc_lst⟩
theorem StRel.fresh (s : StRel g P ps e σ H) {a : Addr} (h : H a = none) : ¬ Av P e σ a := fun z => by
  obtain ⟨o, q⟩ := Av.there s z
  rw [h] at q; cases q
/-- the heap grows by a new object -/
theorem kp_new {A : Addr → Prop} {a : Addr} {o : HO} (h : H a = none) : Kp A H A (upd H a o) := fun b u e n => by
  rw [upd_ne (ne_of_none e h)]
  exact ⟨e, n.1⟩
/-- all names stand, what is not a list of their own stays -/
theorem StRel.kp (s : StRel g P ps e σ H) (k : Kp (Av P e σ) H (Av P e σ) H') (hm : ∀ a, isM e σ a → H' a = H a) (hp : ∀ a, P a → H' a = H a) (ht : LamX.Tabs g.T H') : StRel g P ps e σ H' where
  tb := ht
  len := s.len
  vv := fun i d h => let ⟨v, h1, h2⟩ := s.vv i d h; ⟨v, h1, Rep.kp k _ _ h2⟩
  mm := fun i ds h => by
    obtain ⟨a, vs, h1, h2, h3, h4⟩ := s.mm i ds h
    exact ⟨a, vs, h1, by rw [hm a ⟨i, ds, h, h1⟩]; exact h2, RepL.kp k _ _ h3, h4⟩
  inj := s.inj
  prv := fun a h => by rw [hp a h]; exact s.prv a h
  par := s.par
theorem StRel.new (s : StRel g P ps e σ H) {a : Addr} {o : HO} (h : H a = none) : StRel g P ps e σ (upd H a o) :=
  s.kp (kp_new h) (fun b hb => upd_ne fun z => by
    obtain ⟨vs, q⟩ := hb.there s
    rw [z, h] at q; cases q) (fun b hb => upd_ne fun z => by
    obtain ⟨vs, q, _⟩ := s.prv b hb
    rw [z, h] at q; cases q) (tabs_new s.tb h)
/-- fewer things are set apart -/
theorem Rep.mono {A A' : Addr → Prop} (h : ∀ a, A' a → A a) {d : D} {v : V} (r : Rep g H A d v) : Rep g H A' d v := Rep.kp (fun _ _ q n => ⟨q, fun z => n.1 (h _ z)⟩) d v r
theorem RepL.mono {A A' : Addr → Prop} (h : ∀ a, A' a → A a) {d : List D} {v : List V} (r : RepL g H A d v) : RepL g H A' d v := RepL.kp (fun _ _ q n => ⟨q, fun z => n.1 (h _ z)⟩) d v r
theorem StRel.mono (s : StRel g P ps e σ H) (h : ∀ a, P' a → P a) : StRel g P' ps e σ H where
  len := s.len
  vv := fun i d q => let ⟨v, h1, h2⟩ := s.vv i d q; ⟨v, h1, Rep.mono (fun a z => z.elim (fun z => .inl (h a z)) .inr) h2⟩
  mm := fun i ds q => let ⟨a, vs, h1, h2, h3, h4⟩ := s.mm i ds q; ⟨a, vs, h1, h2, RepL.mono (fun a z => z.elim (fun z => .inl (h a z)) .inr) h3, fun z => h4 (h a z)⟩
  inj := s.inj
  prv := fun a q => s.prv a (h a q)
  par := s.par
  tb := s.tb
end

/-- an exception's fields in the heap -/
def RepF (g : G) (H : Hp) (A : Addr → Prop) : List (Str × D) → List (Str × V) → Prop
  | [], vs => vs = []
  | (n, d) :: ds, vs => ∃ v r, vs = (n, v) :: r ∧ Rep g H A d v ∧ RepF g H A ds r
def XRep (g : G) (H : Hp) (A : Addr → Prop) (x : Xc) (cls : Value) (d : Option Addr) : Prop :=
  cls = .ref (g.clA x.cls) ∧ (x.fs = [] → d = none) ∧ (x.fs ≠ [] → ∃ dd fs, d = some dd ∧ ¬ A dd ∧ H dd = some (.xd fs) ∧ RepF g H A x.fs fs)
theorem RepF.kp {g : G} {H H' : Hp} {A A' : Addr → Prop} (k : Kp A H A' H') : ∀ {l : List (Str × D)} {r : List (Str × V)}, RepF g H A l r → RepF g H' A' l r
  | [], _, h => h
  | (n, d) :: ds, _, ⟨v, r, e, h1, h2⟩ => ⟨v, r, e, Rep.kp k d v h1, RepF.kp k h2⟩
theorem XRep.kp {g : G} {H H' : Hp} {A A' : Addr → Prop} (k : Kp A H A' H') {x : Xc} {cls : Value} {d : Option Addr} (h : XRep g H A x cls d) : XRep g H' A' x cls d :=
  ⟨h.1, h.2.1, fun z => by
    obtain ⟨dd, fs, e, n, q, r⟩ := h.2.2 z
    exact ⟨dd, fs, e, (k _ _ q ⟨n, nt_xd⟩).2, (k _ _ q ⟨n, nt_xd⟩).1, r.kp k⟩⟩

/-- the state goes from one to another -/
structure Go (g : G) (P : Addr → Prop) (ps : List (Nat × Addr)) (e : Env) (σ : L2.St) (H : Hp) (e' : Env) (σ' : L2.St) (H' : Hp) : Prop where
  st : StRel g P ps e' σ' H'
  kp : Kp (Av P e σ) H (Av P e' σ') H'
  pr : ∀ a, P a → H' a = H a
theorem Go.refl {g P ps e σ H} (s : StRel g P ps e σ H) : Go g P ps e σ H e σ H := ⟨s, Kp.refl, fun _ _ => rfl⟩
theorem Go.trans {g P ps e σ H e1 σ1 H1 e2 σ2 H2} (a : Go g P ps e σ H e1 σ1 H1) (b : Go g P ps e1 σ1 H1 e2 σ2 H2) : Go g P ps e σ H e2 σ2 H2 :=
  ⟨b.st, a.kp.trans b.kp, fun c h => (b.pr c h).trans (a.pr c h)⟩
theorem Go.new {g P ps e σ H} (s : StRel g P ps e σ H) {a : Addr} {o : HO} (h : H a = none) : Go g P ps e σ H e σ (upd H a o) :=
  ⟨s.new h, kp_new h, fun b hb => upd_ne fun z => by
    obtain ⟨vs, q, _⟩ := s.prv b hb
    rw [z, h] at q; cases q⟩

/-- .. and a new list of one's own comes, at a -/
abbrev Pl (P : Addr → Prop) (a : Addr) : Addr → Prop := fun b => P b ∨ b = a
structure GoM (g : G) (P : Addr → Prop) (ps : List (Nat × Addr)) (e : Env) (σ : L2.St) (H : Hp) (a : Addr) (ds : List D) (e' : Env) (σ' : L2.St) (H' : Hp) : Prop where
  st : StRel g (Pl P a) ps e' σ' H'
  kp : Kp (Av P e σ) H (Av (Pl P a) e' σ') H'
  pr : ∀ a, P a → H' a = H a
  np : ¬ P a
  at_ : ∃ vs, H' a = some (.lst vs) ∧ RepL g H' (Av (Pl P a) e' σ') ds vs
theorem Av.mono {P P' : Addr → Prop} {e : Env} {σ : L2.St} {a : Addr} (h : ∀ a, P a → P' a) (x : Av P e σ a) : Av P' e σ a := x.elim (fun z => .inl (h a z)) .inr
theorem GoM.go {g P ps e σ H a ds e' σ' H'} (x : GoM g P ps e σ H a ds e' σ' H') : Go g P ps e σ H e' σ' H' :=
  ⟨x.st.mono fun _ z => .inl z, fun b o h n => ⟨(x.kp b o h n).1, fun z => (x.kp b o h n).2 (z.mono fun _ z => .inl z)⟩, x.pr⟩
theorem GoM.trans {g P ps e σ H e1 σ1 H1 a ds e2 σ2 H2} (x : Go g P ps e σ H e1 σ1 H1) (y : GoM g P ps e1 σ1 H1 a ds e2 σ2 H2) : GoM g P ps e σ H a ds e2 σ2 H2 :=
  ⟨y.st, x.kp.trans y.kp, fun c h => (y.pr c h).trans (x.pr c h), y.np, y.at_⟩
/-- it is shared from now on -/
theorem GoM.rep {g P ps e σ H a ds e' σ' H'} (x : GoM g P ps e σ H a ds e' σ' H') : Rep g H' (Av P e' σ') (.lst ds) (.ref a) := by
  obtain ⟨vs, h1, h2⟩ := x.at_
  refine ⟨a, vs, rfl, .inl ⟨fun z => ?_, .inl h1⟩, RepL.mono (fun b z => z.mono fun _ z => .inl z) h2⟩
  rcases z with z | ⟨i, es, q1, q2⟩
  · exact x.np z
  · obtain ⟨b, us, r1, _, _, r4⟩ := x.st.mm i es q1
    rw [q2] at r1; cases r1
    exact r4 (.inr rfl)
/-- a new list -/
theorem GoM.new {g P ps e σ H} (s : StRel g P ps e σ H) {a : Addr} {ds : List D} {vs : List V} (h : H a = none) (r : RepL g H (Av P e σ) ds vs) : GoM g P ps e σ H a ds e σ (upd H a (.lst vs)) := by
  have nA := s.fresh h
  have k : Kp (Av P e σ) H (Av (Pl P a) e σ) (upd H a (.lst vs)) := fun b o q n => by
    have nb : b ≠ a := ne_of_none q h
    rw [upd_ne nb]
    refine ⟨q, fun z => ?_⟩
    rcases z with (z | z) | z
    · exact n.1 (.inl z)
    · exact nb z
    · exact n.1 (.inr z)
  have nP : ¬ P a := fun z => nA (.inl z)
  refine ⟨⟨s.len, fun i d q => ?_, fun i es q => ?_, s.inj, fun b q => ?_, s.par, tabs_new s.tb h⟩, k, fun b q => upd_ne fun z => nP (z ▸ q), nP, vs, upd_same, RepL.kp k _ _ r⟩
  · obtain ⟨v, h1, h2⟩ := s.vv i d q
    exact ⟨v, h1, Rep.kp k _ _ h2⟩
  · obtain ⟨b, us, h1, h2, h3, h4⟩ := s.mm i es q
    have nb : b ≠ a := ne_of_none h2 h
    exact ⟨b, us, h1, by rw [upd_ne nb]; exact h2, RepL.kp k _ _ h3, fun z => z.elim h4 nb⟩
  · by_cases hb : b = a
    · rw [hb, upd_same]; exact ⟨_, rfl, nc_lst⟩
    · rw [upd_ne hb]
      rcases q with q | q
      · exact s.prv b q
      · exact absurd q hb

/-- an expression's reading -/
def tD (g : G) (P : Addr → Prop) (ps : List (Nat × Addr)) (W : WX) (f : Env → R D) : TE := fun σ H Q => ∃ e, StRel g P ps e σ H ∧ match f e with
  | .ok d e' => ∀ v H', Go g P ps e σ H e' σ H' → Rep g H' (Av P e' σ) d v → Q v H'
  | .exc x e' => ∀ cls d H', Go g P ps e σ H e' σ H' → XRep g H' (Av P e' σ) x cls d → W cls d σ H'
  | .bad => False
/-- a list of one's own comes -/
def tM (g : G) (P : Addr → Prop) (ps : List (Nat × Addr)) (W : WX) (f : Env → R (List D)) : TE := fun σ H Q => ∃ e, StRel g P ps e σ H ∧ match f e with
  | .ok ds e' => ∀ a H', GoM g P ps e σ H a ds e' σ H' → Q (.ref a) H'
  | .exc x e' => ∀ cls d H', Go g P ps e σ H e' σ H' → XRep g H' (Av P e' σ) x cls d → W cls d σ H'
  | .bad => False
def tB (g : G) (P : Addr → Prop) (ps : List (Nat × Addr)) (W : WX) (f : Env → R Bool) : TT := fun σ H Q => ∃ e, StRel g P ps e σ H ∧ match f e with
  | .ok b e' => ∀ H', Go g P ps e σ H e' σ H' → Q b H'
  | .exc x e' => ∀ cls d H', Go g P ps e σ H e' σ H' → XRep g H' (Av P e' σ) x cls d → W cls d σ H'
  | .bad => False
def tS (g : G) (P : Addr → Prop) (ps : List (Nat × Addr)) (W : WX) (f : Env → RS) : TS := fun Dn σ H => ∃ e, StRel g P ps e σ H ∧ match f e with
  | .nx e' => ∀ σ' H', Go g P ps e σ H e' σ' H' → Dn.nx σ' H'
  | .rt (.v d) e' => ∀ v σ' H', Go g P ps e σ H e' σ' H' → Rep g H' (Av P e' σ') d v → Dn.rt v H'
  | .rt (.m ds) e' => ∀ a σ' H', GoM g P ps e σ H a ds e' σ' H' → Dn.rt (.ref a) H'
  | .bk e' => ∀ σ' H', Go g P ps e σ H e' σ' H' → Dn.bk σ' H'
  | .ct e' => ∀ σ' H', Go g P ps e σ H e' σ' H' → Dn.ct σ' H'
  | .exc x e' => ∀ cls d σ' H', Go g P ps e σ H e' σ' H' → XRep g H' (Av P e' σ') x cls d → W cls d σ' H'
  | .bad => False
end DL
end

section
set_option Elab.async false
set_option linter.all false
set_option maxRecDepth 100000
set_option maxHeartbeats 4000000
namespace DL
open PySem PySem.Spec PyProof.Rows L2

section
variable {g : G} {P : Addr → Prop} {ps : List (Nat × Addr)} {W : WX} {e e1 : Env} {σ σ' : L2.St} {H H1 H' : Hp}
theorem StRel.same (s : StRel g P ps e σ H) (h : Same H H') : StRel g P ps e σ H' :=
  s.kp (fun a o q n => ⟨h a o q, n.1⟩) (fun a q => by
    obtain ⟨vs, z⟩ := q.there s
    rw [z, h _ _ z]) (fun a q => by
    obtain ⟨o, z, _⟩ := s.prv a q
    rw [z, h _ _ z]) (s.tb.ext h)
theorem Go.same (s : StRel g P ps e σ H) (h : Same H H') : Go g P ps e σ H e σ H' :=
  ⟨s.same h, fun a o q n => ⟨h a o q, n.1⟩, fun a q => by
    obtain ⟨o, z, _⟩ := s.prv a q
    rw [z, h _ _ z]⟩
theorem same_new {a : Addr} {o : HO} (h : H a = none) : Same H (upd H a o) := fun b u q => by
  rw [upd_ne (ne_of_none q h)]
  exact q
theorem kp_same {A : Addr → Prop} (h : Same H H') : Kp A H A H' := fun a o q n => ⟨h a o q, n.1⟩

/-- what is wanted behind an expression that tells r -/
def PR (g : G) (P : Addr → Prop) (ps : List (Nat × Addr)) (W : WX) (e : Env) (σ : L2.St) (H : Hp) {α : Type} (r : R α) (k : α → Env → Hp → Prop) : Prop := match r with
  | .ok a e' => ∀ H', Go g P ps e σ H e' σ H' → k a e' H'
  | .exc x e' => ∀ cls d H', Go g P ps e σ H e' σ H' → XRep g H' (Av P e' σ) x cls d → W cls d σ H'
  | .bad => False
def bnd {α β : Type} (x : R α) (f : α → Env → R β) : R β := match x with
  | .ok a e => f a e
  | .exc x e => .exc x e
  | .bad => .bad
@[simp] theorem bnd_ok {α β : Type} (a : α) (e : Env) (f : α → Env → R β) : bnd (.ok a e) f = f a e := rfl
@[simp] theorem bnd_exc {α β : Type} (x : Xc) (e : Env) (f : α → Env → R β) : bnd (.exc x e) f = .exc x e := rfl
@[simp] theorem bnd_bad {α β : Type} (f : α → Env → R β) : bnd .bad f = .bad := rfl
def opt {α : Type} (o : Option α) (e : Env) : R α := match o with
  | some a => .ok a e
  | none => .bad
@[simp] theorem opt_some {α : Type} (a : α) (e : Env) : opt (some a) e = .ok a e := rfl
@[simp] theorem opt_none {α : Type} (e : Env) : opt (none : Option α) e = .bad := rfl

theorem PR.mono {α : Type} {r : R α} {k k' : α → Env → Hp → Prop} (h : PR g P ps W e σ H r k) (m : ∀ a e' H', Go g P ps e σ H e' σ H' → k a e' H' → k' a e' H') : PR g P ps W e σ H r k' := by
  cases r with
  | ok a e' => exact fun H' q => m _ _ _ q (h H' q)
  | exc x e' => exact h
  | bad => exact h
theorem PR.shift {α : Type} {r : R α} {k : α → Env → Hp → Prop} (h : PR g P ps W e σ H r k) (q : Go g P ps e σ H e1 σ H1) : PR g P ps W e1 σ H1 r k := by
  cases r with
  | ok a e' => exact fun H' z => h H' (q.trans z)
  | exc x e' => exact fun cls d H' z => h cls d H' (q.trans z)
  | bad => exact h
theorem PR.bnd {α β : Type} {x : R α} {f : α → Env → R β} {k : β → Env → Hp → Prop} (h : PR g P ps W e σ H (bnd x f) k) : PR g P ps W e σ H x (fun a e1 H1 => PR g P ps W e1 σ H1 (f a e1) k) := by
  cases x with
  | ok a e' => exact fun H' z => PR.shift h z
  | exc x e' => exact h
  | bad => exact h
theorem PR.opt {α : Type} {o : Option α} {k : α → Env → Hp → Prop} (h : PR g P ps W e σ H (opt o e) k) : ∃ a, o = some a ∧ ∀ H', Go g P ps e σ H e σ H' → k a e H' := by
  cases o with
  | some a => exact ⟨a, rfl, h⟩
  | none => exact h.elim

theorem tD_eq {f : Env → R D} {Q : VK} : tD g P ps W f σ H Q ↔ ∃ e, StRel g P ps e σ H ∧ PR g P ps W e σ H (f e) (fun d e' H' => ∀ v, Rep g H' (Av P e' σ) d v → Q v H') := by
  constructor
  · rintro ⟨e, s, h⟩
    refine ⟨e, s, ?_⟩
    revert h
    cases f e with
    | ok a e' => exact fun h H' q v r => h v H' q r
    | exc x e' => exact fun h => h
    | bad => exact fun h => h
  · rintro ⟨e, s, h⟩
    refine ⟨e, s, ?_⟩
    revert h
    cases f e with
    | ok a e' => exact fun h v H' q r => h H' q v r
    | exc x e' => exact fun h => h
    | bad => exact fun h => h
theorem tB_eq {f : Env → R Bool} {Q : Bool → Hp → Prop} : tB g P ps W f σ H Q ↔ ∃ e, StRel g P ps e σ H ∧ PR g P ps W e σ H (f e) (fun b e' H' => Q b H') := by
  constructor
  · rintro ⟨e, s, h⟩
    refine ⟨e, s, ?_⟩
    revert h
    cases f e with
    | ok a e' => exact fun h => h
    | exc x e' => exact fun h => h
    | bad => exact fun h => h
  · rintro ⟨e, s, h⟩
    refine ⟨e, s, ?_⟩
    revert h
    cases f e with
    | ok a e' => exact fun h => h
    | exc x e' => exact fun h => h
    | bad => exact fun h => h
end

/-- the judgements -/
structure DE (g : G) (mp : List Nat) (X : Cx) (ex : Expr) (f : Env → R D) : Prop where
  run : ∀ (P : Addr → Prop) (ps : List (Nat × Addr)) (W : WX), ps.map (·.1) = mp → Takes X W → PE X ex (tD g P ps W f)
structure DM (g : G) (mp : List Nat) (X : Cx) (ex : Expr) (f : Env → R (List D)) : Prop where
  run : ∀ (P : Addr → Prop) (ps : List (Nat × Addr)) (W : WX), ps.map (·.1) = mp → Takes X W → PE X ex (tM g P ps W f)
structure DB (g : G) (mp : List Nat) (X : Cx) (ex : Expr) (f : Env → R Bool) : Prop where
  run : ∀ (P : Addr → Prop) (ps : List (Nat × Addr)) (W : WX), ps.map (·.1) = mp → Takes X W → PT X ex (tB g P ps W f)
structure DBW (g : G) (mp : List Nat) (X : Cx) (ex : Expr) (f : Env → R Bool) : Prop where
  run : ∀ (P : Addr → Prop) (ps : List (Nat × Addr)) (W : WX), ps.map (·.1) = mp → Takes X W → PW X ex (tB g P ps W f)
/-- arguments that are plain things -/
def tL (g : G) (P : Addr → Prop) (ps : List (Nat × Addr)) (W : WX) (f : Env → R (List D)) : TA := fun σ H Q => ∃ e, StRel g P ps e σ H ∧ PR g P ps W e σ H (f e) (fun ds e' H' => ∀ vs, RepL g H' (Av P e' σ) ds vs → Q vs H')
structure DA (g : G) (mp : List Nat) (X : Cx) (es : List Expr) (f : Env → R (List D)) : Prop where
  run : ∀ (P : Addr → Prop) (ps : List (Nat × Addr)) (W : WX), ps.map (·.1) = mp → Takes X W → PA X es (tL g P ps W f)

theorem pe_imp {X : Cx} {ex : Expr} {t t' : TE} (h : PE X ex t) (m : ∀ σ H Q, t' σ H Q → t σ H Q) : PE X ex t' := ⟨fun pins s σ H Q I q => h.run pins s σ H Q I (m σ H Q q)⟩
theorem pt_imp {X : Cx} {ex : Expr} {t t' : TT} (h : PT X ex t) (m : ∀ σ H Q, t' σ H Q → t σ H Q) : PT X ex t' := ⟨fun pins s σ H Q I q => h.run pins s σ H Q I (m σ H Q q)⟩
theorem pw_imp {X : Cx} {ex : Expr} {t t' : TT} (h : PW X ex t) (m : ∀ σ H Q, t' σ H Q → t σ H Q) : PW X ex t' := ⟨fun w pins s σ H Q I q => h.run w pins s σ H Q I (m σ H Q q)⟩
theorem pa_imp {X : Cx} {es : List Expr} {t t' : TA} (h : PA X es t) (m : ∀ σ H Q, t' σ H Q → t σ H Q) : PA X es t' := ⟨fun p pins s σ H Q I q => h.run p pins s σ H Q I (m σ H Q q)⟩
theorem ps_imp {X : Cx} {st : Stmt} {t t' : TS} (h : PS X st t) (m : ∀ σ H Q, t' Q σ H → t Q σ H) : PS X st t' := ⟨fun pins s σ H Q I q => h.run pins s σ H Q I (m σ H Q q)⟩
theorem pss_imp {X : Cx} {st : List Stmt} {t t' : TS} (h : PSs X st t) (m : ∀ σ H Q, t' Q σ H → t Q σ H) : PSs X st t' := ⟨fun pins s σ H Q I q => h.run pins s σ H Q I (m σ H Q q)⟩

def Tr (A : Addr → Prop) (H : Hp) : Prop := ∀ a, A a → ∃ o, H a = some o
theorem StRel.tr {g P ps e σ H} (s : StRel g P ps e σ H) : Tr (Av P e σ) H := fun _ h => Av.there s h
theorem Tr.fresh {A : Addr → Prop} {H : Hp} (t : Tr A H) {a : Addr} (h : H a = none) : ¬ A a := fun z => by
  obtain ⟨o, q⟩ := t a z
  rw [h] at q; cases q

/-! ### names, constants -/
def dVar (i : Nat) : Env → R D := fun e => match e[i]? with
  | some (some (.v d)) => .ok d e
  | _ => .bad
/-- a list of one's own is shared from now on -/
def dFrz (i : Nat) : Env → R D := fun e => match e[i]? with
  | some (some (.m ds)) => .ok (.lst ds) (e.set i (some (.v (.lst ds))))
  | _ => .bad
def dC (d : D) : Env → R D := fun e => .ok d e
section
variable {g : G} {mp : List Nat} {X : Cx} {x : Str} {pos : Pos}
theorem de_var (i : Nat) (hN : X.N[i]? = some x := by rfl) (hv : Vis X.env.scope x := by first | exact Or.inl rfl | exact Or.inr (Or.inl rfl) | exact Or.inr (Or.inr rfl)) (hd : (x == ("__debug__" : Str)) = false := by decide)
    (hcd : (x == ("__classdict__" : Str)) = false := by decide) : DE g mp X (.Name x pos) (dVar i) := ⟨fun P ps W hp tk => pe_imp (pe_var hN hv hd hcd) fun σ H Q h => by
  obtain ⟨e, s, h⟩ := tD_eq.mp h
  unfold dVar at h
  cases q : e[i]? with
  | none => rw [q] at h; exact h.elim
  | some o =>
    cases o with
    | none => rw [q] at h; exact h.elim
    | some sl =>
      cases sl with
      | m ds => rw [q] at h; exact h.elim
      | v d =>
        rw [q] at h
        obtain ⟨v, e1, r⟩ := s.vv i d q
        exact ⟨v, e1, h H (Go.refl s) v r⟩⟩
theorem StRel.frz {P ps e σ H} (s : StRel g P ps e σ H) {i : Nat} {ds : List D} (q : e[i]? = some (some (.m ds))) (hi : i ∉ ps.map (·.1)) :
    Go g P ps e σ H (e.set i (some (.v (.lst ds)))) σ H ∧ ∃ a, σ[i]? = some (some (.ref a)) ∧ Rep g H (Av P (e.set i (some (.v (.lst ds)))) σ) (.lst ds) (.ref a) := by
  obtain ⟨a, vs, h1, h2, h3, h4⟩ := s.mm i ds q
  have hl : i < e.length := by
    cases Nat.lt_or_ge i e.length with
    | inl h => exact h
    | inr h => rw [List.getElem?_eq_none h] at q; cases q
  have sub : ∀ b, isM (e.set i (some (.v (.lst ds)))) σ b → isM e σ b ∧ b ≠ a := by
    rintro b ⟨j, es, q1, q2⟩
    by_cases hj : i = j
    · subst hj
      rw [List.getElem?_set_self hl] at q1
      cases q1
    · rw [List.getElem?_set_ne hj] at q1
      refine ⟨⟨j, es, q1, q2⟩, fun z => ?_⟩
      subst z
      exact hj (s.inj i j b ds es q q1 h1 q2)
  have subA : ∀ b, Av P (e.set i (some (.v (.lst ds)))) σ b → Av P e σ b := fun b z => z.elim .inl fun z => .inr (sub b z).1
  have k : Kp (Av P e σ) H (Av P (e.set i (some (.v (.lst ds)))) σ) H := fun b o q n => ⟨q, fun z => n.1 (subA b z)⟩
  have rep : Rep g H (Av P (e.set i (some (.v (.lst ds)))) σ) (.lst ds) (.ref a) := by
    refine ⟨a, vs, rfl, .inl ⟨fun z => ?_, .inl h2⟩, RepL.mono subA h3⟩
    rcases z with z | z
    · exact h4 z
    · exact (sub a z).2 rfl
  refine ⟨⟨⟨by rw [List.length_set]; exact s.len, fun j d q' => ?_, fun j es q' => ?_, fun j l b es fs q1 q2 r1 r2 => ?_, s.prv, fun p hp => ?_, s.tb⟩, k, fun _ _ => rfl⟩, a, h1, rep⟩
  · by_cases hj : i = j
    · subst hj
      rw [List.getElem?_set_self hl] at q'
      cases q'
      exact ⟨_, h1, rep⟩
    · rw [List.getElem?_set_ne hj] at q'
      obtain ⟨v, z1, z2⟩ := s.vv j d q'
      exact ⟨v, z1, Rep.kp k _ _ z2⟩
  · by_cases hj : i = j
    · subst hj
      rw [List.getElem?_set_self hl] at q'
      cases q'
    · rw [List.getElem?_set_ne hj] at q'
      obtain ⟨b, us, z1, z2, z3, z4⟩ := s.mm j es q'
      exact ⟨b, us, z1, z2, RepL.kp k _ _ z3, z4⟩
  · by_cases hj : i = j
    · subst hj
      rw [List.getElem?_set_self hl] at q1
      cases q1
    · by_cases hl' : i = l
      · subst hl'
        rw [List.getElem?_set_self hl] at q2
        cases q2
      · rw [List.getElem?_set_ne hj] at q1
        rw [List.getElem?_set_ne hl'] at q2
        exact s.inj j l b es fs q1 q2 r1 r2
  · obtain ⟨z1, es, z2⟩ := s.par p hp
    have hj : i ≠ p.1 := fun z => hi (by rw [z]; exact List.mem_map_of_mem hp)
    exact ⟨z1, es, by rw [List.getElem?_set_ne hj]; exact z2⟩
theorem de_frz (i : Nat) (hi : i ∉ mp := by decide) (hN : X.N[i]? = some x := by rfl) (hv : Vis X.env.scope x := by first | exact Or.inl rfl | exact Or.inr (Or.inl rfl) | exact Or.inr (Or.inr rfl)) (hd : (x == ("__debug__" : Str)) = false := by decide)
    (hcd : (x == ("__classdict__" : Str)) = false := by decide) : DE g mp X (.Name x pos) (dFrz i) := ⟨fun P ps W hp tk => pe_imp (pe_var hN hv hd hcd) fun σ H Q h => by
  obtain ⟨e, s, h⟩ := tD_eq.mp h
  unfold dFrz at h
  cases q : e[i]? with
  | none => rw [q] at h; exact h.elim
  | some o =>
    cases o with
    | none => rw [q] at h; exact h.elim
    | some sl =>
      cases sl with
      | v ds => rw [q] at h; exact h.elim
      | m ds =>
        rw [q] at h
        obtain ⟨go, a, e1, r⟩ := s.frz q (by rw [hp]; exact hi)
        exact ⟨_, e1, h H go _ r⟩⟩
theorem de_c {ex : Expr} {v : V} {d : D} (h : PE X ex (tC v)) (r : ∀ H A, Rep g H A d v) : DE g mp X ex (dC d) := ⟨fun P ps W hp tk => pe_imp h fun σ H Q h => by
  obtain ⟨e, s, h⟩ := tD_eq.mp h
  exact h H (Go.refl s) v (r H _)⟩
theorem de_int {i j} : DE g mp X (.Constant (.int i) j pos) (dC (.int i)) := de_c pe_int fun _ _ => rfl
theorem de_bl {b j} : DE g mp X (.Constant (.bool b) j pos) (dC (.bl b)) := de_c pe_bl fun _ _ => rfl
theorem de_non {j} : DE g mp X (.Constant .none j pos) (dC .non) := de_c pe_non fun _ _ => rfl
theorem de_str {z j} : DE g mp X (.Constant (.str z) j pos) (dC (.str z)) := de_c pe_str fun _ _ => rfl
end

/-! ### operators -/
def Op1 (g : G) (r : V → Hp → VK → Prop) (F : D → Option D) : Prop :=
  ∀ (A : Addr → Prop) (H : Hp) (x : V) (a d : D) (Q : VK), Tr A H → Rep g H A a x → F a = some d → (∀ v H', Same H H' → Rep g H' A d v → Q v H') → r x H Q
def Op2 (g : G) (r : R2) (F : D → D → Option D) : Prop :=
  ∀ (A : Addr → Prop) (H : Hp) (x y : V) (a b d : D) (Q : VK), Tr A H → Rep g H A a x → Rep g H A b y → F a b = some d → (∀ v H', Same H H' → Rep g H' A d v → Q v H') → r x y H Q
def OpC (g : G) (r : List V → Hp → VK → Prop) (F : List D → Option D) : Prop :=
  ∀ (A : Addr → Prop) (H : Hp) (xs : List V) (as : List D) (d : D) (Q : VK), Tr A H → RepL g H A as xs → F as = some d → (∀ v H', Same H H' → Rep g H' A d v → Q v H') → r xs H Q
def dUn (F : D → Option D) (fa : Env → R D) : Env → R D := fun e => bnd (fa e) fun a e1 => opt (F a) e1
def dBin (F : D → D → Option D) (fa fb : Env → R D) : Env → R D := fun e => bnd (fa e) fun a e1 => bnd (fb e1) fun b e2 => opt (F a b) e2
def dCal (F : List D → Option D) (fs : Env → R (List D)) : Env → R D := fun e => bnd (fs e) fun as e1 => opt (F as) e1
/-- a bool, of a D -/
def asB : D → Option Bool
  | .bl b => some b
  | _ => none
def dTest (f : Env → R D) : Env → R Bool := fun e => bnd (f e) fun d e1 => opt (asB d) e1
section
variable {g : G} {mp : List Nat} {X : Cx} {a b c : Expr} {fa fb fc : Env → R D} {pos : Pos}
theorem tD_un {P ps W} {r : V → Hp → VK → Prop} {F : D → Option D} (hF : Op1 g r F) {σ H Q} (h : tD g P ps W (dUn F fa) σ H Q) : tD g P ps W fa σ H fun x H1 => r x H1 Q := by
  obtain ⟨e, s, h⟩ := tD_eq.mp h
  refine tD_eq.mpr ⟨e, s, h.bnd.mono fun d e1 H1 go1 k v rv => ?_⟩
  obtain ⟨d', q, k⟩ := PR.opt k
  exact hF _ _ _ _ _ _ go1.st.tr rv q fun v' H' sm rv' => k H' (Go.same go1.st sm) v' rv'
theorem tD_bin {P ps W} {r : R2} {F : D → D → Option D} (hF : Op2 g r F) {σ H Q} (h : tD g P ps W (dBin F fa fb) σ H Q) : tOp r (tD g P ps W fa) (tD g P ps W fb) σ H Q := by
  obtain ⟨e, s, h⟩ := tD_eq.mp h
  refine tD_eq.mpr ⟨e, s, h.bnd.mono fun d e1 H1 go1 k v rv => ?_⟩
  refine tD_eq.mpr ⟨e1, go1.st, k.bnd.mono fun d2 e2 H2 go2 k v2 rv2 => ?_⟩
  obtain ⟨d', q, k⟩ := PR.opt k
  exact hF _ _ _ _ _ _ _ _ go2.st.tr (Rep.kp go2.kp _ _ rv) rv2 q fun v' H' sm rv' => k H' (Go.same go2.st sm) v' rv'
theorem tD_cal {P ps W} {r : List V → Hp → VK → Prop} {F : List D → Option D} {fs : Env → R (List D)} (hF : OpC g r F) {σ H Q} (h : tD g P ps W (dCal F fs) σ H Q) : tCB r (tL g P ps W fs) σ H Q := by
  obtain ⟨e, s, h⟩ := tD_eq.mp h
  refine ⟨e, s, h.bnd.mono fun d e1 H1 go1 k v rv => ?_⟩
  obtain ⟨d', q, k⟩ := PR.opt k
  exact hF _ _ _ _ _ _ go1.st.tr rv q fun v' H' sm rv' => k H' (Go.same go1.st sm) v' rv'
theorem de_un {op : UnaryOp} {r : V → Hp → VK → Prop} {F : D → Option D} (ho : UnR X (unaryOp op) r) (hF : Op1 g r F) (ha : DE g mp X a fa) : DE g mp X (.UnaryOp op a pos) (dUn F fa) :=
  ⟨fun P ps W hp tk => pe_imp (pe_un ho (ha.run P ps W hp tk)) fun σ H Q h => tD_un hF h⟩
theorem de_bin {op : Operator} {r : R2} {F : D → D → Option D} (ho : OpR X (binaryOp op) r) (hF : Op2 g r F) (ha : DE g mp X a fa) (hb : DE g mp X b fb) : DE g mp X (.BinOp a op b pos) (dBin F fa fb) :=
  ⟨fun P ps W hp tk => pe_imp (pe_op ho (ha.run P ps W hp tk) (hb.run P ps W hp tk)) fun σ H Q h => tD_bin hF h⟩
theorem de_cmp {op : CmpOp} {r : R2} {F : D → D → Option D} (ho : OpR X (compareOp op) r) (hF : Op2 g r F) (ha : DE g mp X a fa) (hb : DE g mp X b fb) (hm : behindInMarks op b = false) : DE g mp X (.Compare a [op] [b] pos) (dBin F fa fb) :=
  ⟨fun P ps W hp tk => pe_imp (pe_cmpR ho (ha.run P ps W hp tk) (hb.run P ps W hp tk) hm) fun σ H Q h => tD_bin hF h⟩
theorem tD_test {P ps W} {f : Env → R D} {σ H Q} (h : tB g P ps W (dTest f) σ H Q) : tD g P ps W f σ H fun x H' => ∃ k, x = .bl k ∧ Q k H' := by
  obtain ⟨e, s, h⟩ := tB_eq.mp h
  refine tD_eq.mpr ⟨e, s, h.bnd.mono fun d e1 H1 go1 k v rv => ?_⟩
  obtain ⟨d', q, k⟩ := PR.opt k
  cases d with
  | bl b =>
    cases q
    exact ⟨_, rv, k _ (Go.refl go1.st)⟩
  | _ => cases q
theorem db_cmp {op : CmpOp} {r : R2} {F : D → D → Option D} (ho : OpR X (compareOp op) r) (hF : Op2 g r F) (ha : DE g mp X a fa) (hb : DE g mp X b fb) (hm : behindInMarks op b = false) : DB g mp X (.Compare a [op] [b] pos) (dTest (dBin F fa fb)) :=
  ⟨fun P ps W hp tk => pt_imp (pt_cmpR ho (ha.run P ps W hp tk) (hb.run P ps W hp tk) hm) fun σ H Q h => tD_bin hF (tD_test h)⟩
theorem db_val (he : ∀ whole, isTrue a X.env whole = (do let v ← whole; standAt a.pos; holding [v] (truthy v))) (ha : DE g mp X a fa) : DB g mp X a (dTest fa) :=
  ⟨fun P ps W hp tk => pt_imp (pt_val (ha.run P ps W hp tk) he) fun σ H Q h => tD_test h⟩
/-! ### a op b op' c -/
def dChain (F F' : D → D → Option D) (fa fb fc : Env → R D) : Env → R D := fun e => bnd (fa e) fun x e1 => bnd (fb e1) fun y e2 => bnd (opt ((F x y).bind asB) e2) fun k e2 => if k = true then bnd (fc e2) fun z e3 => opt (F' y z) e3 else .ok (.bl false) e2
theorem asB_some {o : Option D} {k : Bool} (h : o.bind asB = some k) : o = some (.bl k) := by
  cases o with
  | none => cases h
  | some d => cases d <;> first | (cases h; rfl) | cases h
theorem tD_chain {P ps W} {r r' : R2} {F F' : D → D → Option D} (hF : Op2 g r F) (hF' : Op2 g r' F') {σ H Q} (h : tD g P ps W (dChain F F' fa fb fc) σ H Q) : tChain r r' (tD g P ps W fa) (tD g P ps W fb) (tD g P ps W fc) σ H Q := by
  obtain ⟨e, s, h⟩ := tD_eq.mp h
  refine tD_eq.mpr ⟨e, s, h.bnd.mono fun d e1 H1 go1 k v rv => ?_⟩
  refine tD_eq.mpr ⟨e1, go1.st, k.bnd.mono fun d2 e2 H2 go2 k v2 rv2 => ?_⟩
  obtain ⟨c, q, k⟩ := PR.opt k.bnd
  refine hF _ _ _ _ _ _ _ _ go2.st.tr (Rep.kp go2.kp _ _ rv) rv2 (asB_some q) fun v' H' sm rv' => ⟨c, rv', ?_⟩
  have gs := Go.same go2.st sm
  have k := k H' gs
  cases c with
  | true =>
    rw [if_pos rfl] at k ⊢
    refine tD_eq.mpr ⟨e2, gs.st, k.bnd.mono fun d3 e3 H3 go3 k v3 rv3 => ?_⟩
    obtain ⟨d', q', k⟩ := PR.opt k
    exact hF' _ _ _ _ _ _ _ _ go3.st.tr (Rep.kp (gs.kp.trans go3.kp) _ _ rv2) rv3 q' fun v' H' sm rv' => k H' (Go.same go3.st sm) v' rv'
  | false =>
    rw [if_neg Bool.false_ne_true] at k ⊢
    exact k H' (Go.refl gs.st) _ rfl
theorem de_chain {op op' : CmpOp} {r r' : R2} {F F' : D → D → Option D} (ho : OpR X (compareOp op) r) (ho' : OpR X (compareOp op') r') (hF : Op2 g r F) (hF' : Op2 g r' F') (ha : DE g mp X a fa) (hb : DE g mp X b fb) (hc : DE g mp X c fc)
    (hm : lastMarks [op, op'] [b, c] = false := by with_unfolding_all rfl) : DE g mp X (.Compare a [op, op'] [b, c] pos) (dChain F F' fa fb fc) :=
  ⟨fun P ps W hp tk => pe_imp (pe_chain ho ho' (ha.run P ps W hp tk) (hb.run P ps W hp tk) (hc.run P ps W hp tk) hm) fun σ H Q h => tD_chain hF hF' h⟩
theorem db_chain {op op' : CmpOp} {r r' : R2} {F F' : D → D → Option D} (ho : OpR X (compareOp op) r) (ho' : OpR X (compareOp op') r') (hF : Op2 g r F) (hF' : Op2 g r' F') (ha : DE g mp X a fa) (hb : DE g mp X b fb) (hc : DE g mp X c fc)
    (hm : lastMarks [op, op'] [b, c] = false := by with_unfolding_all rfl) : DB g mp X (.Compare a [op, op'] [b, c] pos) (dTest (dChain F F' fa fb fc)) :=
  ⟨fun P ps W hp tk => pt_imp (pt_chain ho ho' (ha.run P ps W hp tk) (hb.run P ps W hp tk) (hc.run P ps W hp tk) hm) fun σ H Q h => tD_chain hF hF' (tD_test h)⟩

/-! ### and, or, not -/
def dAnd (fa fb : Env → R D) : Env → R D := fun e => bnd (dTest fa e) fun k e1 => if k = true then fb e1 else .ok (.bl false) e1
def dOr (fa fb : Env → R D) : Env → R D := fun e => bnd (dTest fa e) fun k e1 => if k = true then .ok (.bl true) e1 else fb e1
def dNot (fa : Env → R D) : Env → R D := fun e => bnd (dTest fa e) fun k e1 => .ok (.bl (!k)) e1
def bAnd (fa fb : Env → R Bool) : Env → R Bool := fun e => bnd (fa e) fun k e1 => if k = true then fb e1 else .ok false e1
def bOr (fa fb : Env → R Bool) : Env → R Bool := fun e => bnd (fa e) fun k e1 => if k = true then .ok true e1 else fb e1
def bNot (fa : Env → R Bool) : Env → R Bool := fun e => bnd (fa e) fun k e1 => .ok (!k) e1
def dIf (ft : Env → R Bool) (fa fb : Env → R D) : Env → R D := fun e => bnd (ft e) fun k e1 => if k = true then fa e1 else fb e1
variable {rest : List Expr} {ta tb : Env → R Bool}
theorem tD_of {P ps W} {f : Env → R D} {σ H Q} {e : Env} (s : StRel g P ps e σ H) (h : PR g P ps W e σ H (f e) (fun d e' H' => ∀ v, Rep g H' (Av P e' σ) d v → Q v H')) : tD g P ps W f σ H Q := tD_eq.mpr ⟨e, s, h⟩
theorem tB_of {P ps W} {f : Env → R Bool} {σ H Q} {e : Env} (s : StRel g P ps e σ H) (h : PR g P ps W e σ H (f e) (fun b e' H' => Q b H')) : tB g P ps W f σ H Q := tB_eq.mpr ⟨e, s, h⟩
theorem de_one {op} (h : DE g mp X a fa) : DE g mp X (.BoolOp op [a] pos) fa := ⟨fun P ps W hp tk => pe_one (h.run P ps W hp tk)⟩
theorem de_and (ha : DE g mp X a fa) (hb : DE g mp X (.BoolOp .And (b :: rest) pos) fb) : DE g mp X (.BoolOp .And (a :: b :: rest) pos) (dAnd fa fb) :=
  ⟨fun P ps W hp tk => pe_imp (pe_and (ha.run P ps W hp tk) (hb.run P ps W hp tk)) fun σ H Q h => by
    obtain ⟨e, s, h⟩ := tD_eq.mp h
    have h1 := tD_test (tB_of (Q := fun k H1 => if k = true then tD g P ps W fb σ H1 Q else Q (.bl false) H1) s (h.bnd.mono fun k e1 H1 go1 z => by
      cases k with
      | true => rw [if_pos rfl] at z ⊢; exact tD_of go1.st z
      | false => rw [if_neg Bool.false_ne_true] at z ⊢; exact z _ (Go.refl go1.st) _ rfl))
    exact h1⟩
theorem de_or (ha : DE g mp X a fa) (hb : DE g mp X (.BoolOp .Or (b :: rest) pos) fb) : DE g mp X (.BoolOp .Or (a :: b :: rest) pos) (dOr fa fb) :=
  ⟨fun P ps W hp tk => pe_imp (pe_or (ha.run P ps W hp tk) (hb.run P ps W hp tk)) fun σ H Q h => by
    obtain ⟨e, s, h⟩ := tD_eq.mp h
    have h1 := tD_test (tB_of (Q := fun k H1 => if k = true then Q (.bl true) H1 else tD g P ps W fb σ H1 Q) s (h.bnd.mono fun k e1 H1 go1 z => by
      cases k with
      | false => rw [if_neg Bool.false_ne_true] at z ⊢; exact tD_of go1.st z
      | true => rw [if_pos rfl] at z ⊢; exact z _ (Go.refl go1.st) _ rfl))
    exact h1⟩
theorem de_not (ha : DE g mp X a fa) : DE g mp X (.UnaryOp .Not a pos) (dNot fa) :=
  ⟨fun P ps W hp tk => pe_imp (pe_not (ha.run P ps W hp tk)) fun σ H Q h => by
    obtain ⟨e, s, h⟩ := tD_eq.mp h
    exact tD_test (tB_of (Q := fun k H1 => Q (.bl (!k)) H1) s (h.bnd.mono fun k e1 H1 go1 z => z _ (Go.refl go1.st) _ rfl))⟩
theorem dbw_and1 (ha : DB g mp X a ta) : DBW g mp X (.BoolOp .And [a] pos) ta := ⟨fun P ps W hp tk => pw_and1 (ha.run P ps W hp tk)⟩
theorem dbw_or1 (ha : DB g mp X a ta) : DBW g mp X (.BoolOp .Or [a] pos) ta := ⟨fun P ps W hp tk => pw_or1 (ha.run P ps W hp tk)⟩
theorem dbw_and (ha : DB g mp X a ta) (hb : DBW g mp X (.BoolOp .And (b :: rest) pos) tb) : DBW g mp X (.BoolOp .And (a :: b :: rest) pos) (bAnd ta tb) :=
  ⟨fun P ps W hp tk => pw_imp (pw_and (ha.run P ps W hp tk) (hb.run P ps W hp tk)) fun σ H Q h => by
    obtain ⟨e, s, h⟩ := tB_eq.mp h
    exact tB_of s (h.bnd.mono fun k e1 H1 go1 z => by
      cases k with
      | true => rw [if_pos rfl] at z ⊢; exact tB_of go1.st z
      | false => rw [if_neg Bool.false_ne_true] at z ⊢; exact z _ (Go.refl go1.st))⟩
theorem dbw_or (ha : DB g mp X a ta) (hb : DBW g mp X (.BoolOp .Or (b :: rest) pos) tb) : DBW g mp X (.BoolOp .Or (a :: b :: rest) pos) (bOr ta tb) :=
  ⟨fun P ps W hp tk => pw_imp (pw_or (ha.run P ps W hp tk) (hb.run P ps W hp tk)) fun σ H Q h => by
    obtain ⟨e, s, h⟩ := tB_eq.mp h
    exact tB_of s (h.bnd.mono fun k e1 H1 go1 z => by
      cases k with
      | false => rw [if_neg Bool.false_ne_true] at z ⊢; exact tB_of go1.st z
      | true => rw [if_pos rfl] at z ⊢; exact z _ (Go.refl go1.st))⟩
theorem db_w (h : DBW g mp X a ta) : DB g mp X a ta := ⟨fun P ps W hp tk => (h.run P ps W hp tk).pt⟩
theorem db_not (ha : DB g mp X a ta) : DB g mp X (.UnaryOp .Not a pos) (bNot ta) :=
  ⟨fun P ps W hp tk => pt_imp (pt_not (ha.run P ps W hp tk)) fun σ H Q h => by
    obtain ⟨e, s, h⟩ := tB_eq.mp h
    exact tB_of s (h.bnd.mono fun k e1 H1 go1 z => z _ (Go.refl go1.st))⟩
theorem de_ifExp (ht : DB g mp X c ta) (ha : DE g mp X a fa) (hb : DE g mp X b fb) : DE g mp X (.IfExp c a b pos) (dIf ta fa fb) :=
  ⟨fun P ps W hp tk => pe_imp (pe_ifExp (ht.run P ps W hp tk) (ha.run P ps W hp tk) (hb.run P ps W hp tk)) fun σ H Q h => by
    obtain ⟨e, s, h⟩ := tD_eq.mp h
    exact tB_of s (h.bnd.mono fun k e1 H1 go1 z => by
      cases k with
      | true => rw [if_pos rfl] at z ⊢; exact tD_of go1.st z
      | false => rw [if_neg Bool.false_ne_true] at z ⊢; exact tD_of go1.st z)⟩
/-! ### truth -/
def truthD : D → Option Bool
  | .non => some false
  | .bl b => some b
  | .int i => some (i != 0)
  | .str y => if y.length ≤ 16777216 then some ((y.length : Int) != 0) else none
  | .tup xs => some (!xs.isEmpty)
  | .lst xs => some (!xs.isEmpty)
  | .dct ks xs => some (!ks.isEmpty)
  | _ => none
def dTruth (f : Env → R D) : Env → R Bool := fun e => bnd (f e) fun d e1 => opt (truthD d) e1
theorem RepL.isEmpty {H : Hp} {A : Addr → Prop} {ds : List D} {vs : List V} (r : RepL g H A ds vs) : vs.isEmpty = ds.isEmpty := by
  cases ds with
  | nil => rw [show vs = [] from r]; rfl
  | cons d ds => obtain ⟨v, q, e, _⟩ := r; rw [e]; rfl
theorem truth_ok {H : Hp} {A : Addr → Prop} {d : D} {v : V} {k : Bool} (hK : X.K = g.K) (r : Rep g H A d v) (h : truthD d = some k) : TruV X.K v H k := by
  cases d with
  | non => cases h; rw [show v = .non from r]; rfl
  | bl b => have e : b = k := Option.some.inj h; subst e; rw [show v = .bl b from r]; rfl
  | int i => cases h; rw [show v = .int i from r]; rfl
  | str y =>
    rw [show v = .str y from r]
    have h : (if y.length ≤ 16777216 then some ((y.length : Int) != 0) else none) = some k := h
    split at h
    · rename_i q; exact ⟨by rw [sizeLine_eq]; exact q, (Option.some.inj h).symm⟩
    · cases h
  | tup ds =>
    cases h
    obtain ⟨a, vs, e, q, r⟩ := r
    rw [e]
    exact .inr (.inl ⟨vs, by rw [hK]; exact q.sq, by rw [r.isEmpty]⟩)
  | lst ds =>
    cases h
    obtain ⟨a, vs, e, q, r⟩ := r
    rw [e]
    exact .inl ⟨vs, by rw [hK]; exact q.sq, by rw [r.isEmpty]⟩
  | dct ks ds =>
    cases h
    obtain ⟨a, vs, e, ⟨_, q⟩, l, r⟩ := r
    rw [e]
    refine .inr (.inr ⟨_, q, ?_⟩)
    cases ks with
    | nil => rfl
    | cons k ks => cases vs with
      | nil => cases l
      | cons v vs => rfl
  | fn n => cases h
  | cl n => cases h
  | ty n => cases h
  | th r x => cases h
  | xc n ns ds => cases h
theorem db_truth (hK : X.K = g.K) (he : ∀ whole, isTrue a X.env whole = (do let v ← whole; standAt a.pos; holding [v] (truthy v))) (ha : DE g mp X a fa) : DB g mp X a (dTruth fa) :=
  ⟨fun P ps W hp tk => pt_imp (pt_truth (ha.run P ps W hp tk) he) fun σ H Q h => by
    obtain ⟨e, s, h⟩ := tB_eq.mp h
    refine tD_of s (h.bnd.mono fun d e1 H1 go1 k v rv => ?_)
    obtain ⟨b, q, k⟩ := PR.opt k
    exact ⟨b, truth_ok hK rv q, k _ (Go.refl go1.st)⟩⟩

/-! ### arguments, displays -/
def dNil : Env → R (List D) := fun e => .ok [] e
def dCons (fa : Env → R D) (fs : Env → R (List D)) : Env → R (List D) := fun e => bnd (fa e) fun d e1 => bnd (fs e1) fun ds e2 => .ok (d :: ds) e2
def dTup (fs : Env → R (List D)) : Env → R D := fun e => bnd (fs e) fun ds e1 => if ds.length ≤ 1000 then .ok (.tup ds) e1 else .bad
def mLst (fs : Env → R (List D)) : Env → R (List D) := fun e => bnd (fs e) fun ds e1 => if ds.length ≤ 1000 then .ok ds e1 else .bad
variable {es : List Expr} {fs : Env → R (List D)}
theorem da_nil : DA g mp X [] dNil := ⟨fun P ps W hp tk => pa_imp pa_nil fun σ H Q ⟨e, s, h⟩ => h _ (Go.refl s) [] rfl⟩
theorem da_cons (ha : DE g mp X a fa) (hr : DA g mp X es fs) (hs : starEach (a :: es) X.env = (false, eval a X.env) :: starEach es X.env := by rfl) : DA g mp X (a :: es) (dCons fa fs) :=
  ⟨fun P ps W hp tk => pa_imp (pa_cons (ha.run P ps W hp tk) (hr.run P ps W hp tk) hs) fun σ H Q ⟨e, s, h⟩ => by
    refine tD_of s (h.bnd.mono fun d e1 H1 go1 k v rv => ?_)
    exact ⟨e1, go1.st, k.bnd.mono fun ds e2 H2 go2 k vs rvs => k _ (Go.refl go2.st) _ ⟨v, vs, rfl, Rep.kp go2.kp _ _ rv, rvs⟩⟩⟩
theorem kp_laid {A : Addr → Prop} {H : Hp} {a : Addr} {o : HO} (h : H a = none) : Kp A H A (upd H a o) := kp_new h
theorem rep_tup {A : Addr → Prop} {H : Hp} {p : Addr} {ds : List D} {vs : List V} (n : ¬ A p) (h : H p = none) (r : RepL g H A ds vs) : Rep g (upd H p (.tup vs)) A (.tup ds) (.ref p) :=
  ⟨p, vs, rfl, .inl ⟨n, .inl upd_same⟩, RepL.kp (kp_new h) _ _ r⟩
theorem rep_lst {A : Addr → Prop} {H : Hp} {p : Addr} {ds : List D} {vs : List V} (n : ¬ A p) (h : H p = none) (r : RepL g H A ds vs) : Rep g (upd H p (.lst vs)) A (.lst ds) (.ref p) :=
  ⟨p, vs, rfl, .inl ⟨n, .inl upd_same⟩, RepL.kp (kp_new h) _ _ r⟩
theorem le_line {n : Nat} (h : n ≤ 1000) : n ≤ sizeLine := by rw [sizeLine_eq]; omega
theorem de_tup {x1} (h : DA g mp X es fs) : DE g mp X (.Tuple es x1 pos) (dTup fs) :=
  ⟨fun P ps W hp tk => pe_imp (pe_tup (h.run P ps W hp tk)) fun σ H Q q => by
    obtain ⟨e, s, q⟩ := tD_eq.mp q
    refine ⟨e, s, q.bnd.mono fun ds e1 H1 go1 k vs rvs => ?_⟩
    by_cases hl : ds.length ≤ 1000
    · rw [if_pos hl] at k
      refine ⟨by rw [← rvs.length]; exact le_line hl, fun p hp => ?_⟩
      exact k _ (Go.new go1.st hp) _ (rep_tup (go1.st.fresh hp) hp rvs)
    · rw [if_neg hl] at k
      exact k.elim⟩
/-- a list's own rule from what comes -/
def dM (f : Env → R (List D)) : Env → R D := fun e => bnd (f e) fun ds e1 => .ok (.lst ds) e1
theorem de_m (h : DM g mp X a fs) : DE g mp X a (dM fs) :=
  ⟨fun P ps W hp tk => pe_imp (h.run P ps W hp tk) fun σ H Q q => by
    obtain ⟨e, s, q⟩ := tD_eq.mp q
    refine ⟨e, s, ?_⟩
    have q := q.bnd
    revert q
    cases fs e with
    | ok ds e1 => exact fun q a H' gm => q H' gm.go H' (Go.refl gm.go.st) _ gm.rep
    | exc x e1 => exact fun q => q
    | bad => exact fun q => q⟩
theorem tM_of {P ps W} {f f' : Env → R (List D)} {σ H Q} {e : Env} (s : StRel g P ps e σ H) {k : List D → Env → Hp → Prop} (h : PR g P ps W e σ H (f e) k) (m : ∀ ds e1 a H', f e = .ok ds e1 → GoM g P ps e σ H a ds e1 σ H' → Q (.ref a) H') : tM g P ps W f σ H Q := by
  refine ⟨e, s, ?_⟩
  revert h m
  cases f e with
  | ok ds e1 => exact fun h m a H' gm => m ds e1 a H' rfl gm
  | exc x e1 => exact fun h m => h
  | bad => exact fun h m => h
/-- what is wanted of a list of one's own -/
def PM (g : G) (P : Addr → Prop) (ps : List (Nat × Addr)) (W : WX) (e : Env) (σ : L2.St) (H : Hp) (r : R (List D)) (Q : VK) : Prop := match r with
  | .ok ds e' => ∀ a H', GoM g P ps e σ H a ds e' σ H' → Q (.ref a) H'
  | .exc x e' => ∀ cls d H', Go g P ps e σ H e' σ H' → XRep g H' (Av P e' σ) x cls d → W cls d σ H'
  | .bad => False
theorem tM_eq {P ps W} {f : Env → R (List D)} {σ H Q} : tM g P ps W f σ H Q ↔ ∃ e, StRel g P ps e σ H ∧ PM g P ps W e σ H (f e) Q := by
  constructor
  · rintro ⟨e, s, h⟩
    refine ⟨e, s, ?_⟩
    revert h
    cases f e with
    | ok a e' => exact fun h => h
    | exc x e' => exact fun h => h
    | bad => exact fun h => h
  · rintro ⟨e, s, h⟩
    refine ⟨e, s, ?_⟩
    revert h
    cases f e with
    | ok a e' => exact fun h => h
    | exc x e' => exact fun h => h
    | bad => exact fun h => h
theorem PM.shift {P ps W e σ H e1 H1} {r : R (List D)} {Q : VK} (h : PM g P ps W e σ H r Q) (q : Go g P ps e σ H e1 σ H1) : PM g P ps W e1 σ H1 r Q := by
  cases r with
  | ok ds e' => exact fun a H' z => h a H' (GoM.trans q z)
  | exc x e' => exact fun c d H' z => h c d H' (q.trans z)
  | bad => exact h
theorem PM.bnd {P ps W e σ H} {α : Type} {x : R α} {f : α → Env → R (List D)} {Q : VK} (h : PM g P ps W e σ H (bnd x f) Q) : PR g P ps W e σ H x (fun a e1 H1 => PM g P ps W e1 σ H1 (f a e1) Q) := by
  cases x with
  | ok a e' => exact fun H' z => PM.shift h z
  | exc x e' => exact h
  | bad => exact h
theorem dm_lst (h : DA g mp X es fs) : DM g mp X (.List es pos) (mLst fs) :=
  ⟨fun P ps W hp tk => pe_imp (pe_lst (h.run P ps W hp tk)) fun σ H Q q => by
    obtain ⟨e, s, q⟩ := tM_eq.mp q
    refine ⟨e, s, q.bnd.mono fun ds e1 H1 go1 k vs rvs => ?_⟩
    by_cases hl : ds.length ≤ 1000
    · rw [if_pos hl] at k
      exact ⟨by rw [← rvs.length]; exact le_line hl, fun p hp => k _ _ (GoM.new go1.st hp rvs)⟩
    · rw [if_neg hl] at k
      exact k.elim⟩
end
end DL
end

section
set_option Elab.async false
set_option linter.all false
set_option maxRecDepth 100000
set_option maxHeartbeats 4000000
namespace DL
open PySem PySem.Spec PyProof.Rows L2

/-! ### what the operators do to plain things -/
def addD : D → D → Option D
  | .int i, .int j => some (.int (i + j))
  | .str a, .str b => if a.length + b.length ≤ 16777216 then some (.str (a ++ b)) else none
  | .tup xs, .tup ys => if xs.length + ys.length ≤ 16777216 then some (.tup (xs ++ ys)) else none
  | _, _ => none
def subD : D → D → Option D
  | .int i, .int j => some (.int (i - j))
  | _, _ => none
def small64 (i : Int) : Bool := decide (-(2 ^ 64) < i) && decide (i < 2 ^ 64)
def mulD : D → D → Option D
  | .int i, .int j => if small64 i || small64 j || decide (i.natAbs.log2 + j.natAbs.log2 < 1000000) then some (.int (i * j)) else none
  | _, _ => none
def fdivD : D → D → Option D
  | .int i, .int j => if 0 < j ∧ j.natAbs.log2 < 9000 then some (.int (i / j)) else none
  | _, _ => none
def modD : D → D → Option D
  | .int i, .int j => if 0 < j then some (.int (i % j)) else none
  | _, _ => none
def powD : D → D → Option D
  | .int i, .int j => if 0 ≤ j ∧ j ≤ 64 ∧ i.natAbs.log2 < 1000000 then some (.int (i ^ j.toNat)) else none
  | _, _ => none
def negD : D → Option D
  | .int i => some (.int (-i))
  | _ => none
def cmpI (p : Int → Int → Bool) : D → D → Option D
  | .int i, .int j => some (.bl (p i j))
  | _, _ => none
abbrev ltD := cmpI fun i j => decide (i < j)
abbrev leD := cmpI fun i j => decide (i ≤ j)
abbrev gtD := cmpI fun i j => decide (j < i)
abbrev geD := cmpI fun i j => decide (j ≤ i)
def isNon : D → Bool
  | .non => true
  | _ => false
def isND : D → D → Option D
  | x, .non => some (.bl (isNon x))
  | _, _ => none
def notND : D → D → Option D
  | x, .non => some (.bl (!isNon x))
  | _, _ => none

section
variable {g : G} {X : Cx}
theorem o2_rI {C : Int → Int → Prop} {gg : Int → Int → Int} {F : D → D → Option D} (hF : ∀ a b d, F a b = some d → ∃ i j, a = .int i ∧ b = .int j ∧ C i j ∧ d = .int (gg i j)) : Op2 g (rI C fun i j => .int (gg i j)) F :=
  fun A H x y a b d Q _ ra rb h k => by
    obtain ⟨i, j, rfl, rfl, hc, rfl⟩ := hF _ _ _ h
    exact ⟨i, j, ra, rb, hc, k _ _ (Same.refl H) rfl⟩
theorem o2_rI0 {gg : Int → Int → Int} {F : D → D → Option D} (hF : ∀ a b d, F a b = some d → ∃ i j, a = .int i ∧ b = .int j ∧ d = .int (gg i j)) : Op2 g (rI0 fun i j => .int (gg i j)) F :=
  fun A H x y a b d Q _ ra rb h k => by
    obtain ⟨i, j, rfl, rfl, rfl⟩ := hF _ _ _ h
    exact ⟨i, j, ra, rb, k _ _ (Same.refl H) rfl⟩
theorem o2_rB0 {gg : Int → Int → Bool} : Op2 g (rI0 fun i j => .bl (gg i j)) (cmpI gg) :=
  fun A H x y a b d Q _ ra rb h k => by
    cases a <;> first | (cases h; done) | skip
    cases b <;> first | (cases h; done) | skip
    cases h
    exact ⟨_, _, ra, rb, k _ _ (Same.refl H) rfl⟩
/-- + -/
def rAdd (K : PySem.W.Frag) : R2 := fun x y H Q => (rI0 fun i j => V.int (i + j)) x y H Q ∨ (fun x y H (Q : VK) => ∃ i j, x = V.str i ∧ y = V.str j ∧ i.length + j.length ≤ sizeLine ∧ Q (.str (i ++ j)) H) x y H Q ∨ rCatA K x y H Q
theorem op_addX : OpR X (binaryOp .Add) (rAdd X.K) := op_add.or (op_add_str.or op_catA)
theorem o2_add (hK : X.K = g.K) : Op2 g (rAdd X.K) addD := fun A H x y a b d Q tr ra rb h k => by
  cases a <;> first | (cases h; done) | skip
  case int i =>
    cases b <;> first | (cases h; done) | skip
    cases h
    exact .inl ⟨_, _, ra, rb, k _ _ (Same.refl H) rfl⟩
  case str z =>
    cases b <;> first | (cases h; done) | skip
    rename_i z2
    have h : (if z.length + z2.length ≤ 16777216 then some (D.str (z ++ z2)) else none) = some d := h
    split at h
    · cases h
      rename_i q
      exact .inr (.inl ⟨_, _, ra, rb, by rw [sizeLine_eq]; exact q, k _ _ (Same.refl H) rfl⟩)
    · cases h
  case tup xs =>
    cases b <;> first | (cases h; done) | skip
    rename_i ys
    have h : (if xs.length + ys.length ≤ 16777216 then some (D.tup (xs ++ ys)) else none) = some d := h
    split at h
    · cases h
      rename_i q
      obtain ⟨p, vs, rfl, hq, r⟩ := ra
      obtain ⟨p2, vs2, rfl, hq2, r2⟩ := rb
      refine .inr (.inr ⟨p, p2, vs, vs2, rfl, rfl, by rw [hK]; exact hq.sq, by rw [hK]; exact hq2.sq, by rw [sizeLine_eq, ← r.length, ← r2.length]; exact q, fun e => ?_, fun _ e => ?_, fun _ _ l hl => ?_⟩)
      · have e1 : xs = [] := by
          have := r.length
          rw [e] at this
          exact List.length_eq_zero_iff.mp this
        subst e1
        exact k _ _ (Same.refl H) ⟨p2, vs2, rfl, hq2, r2⟩
      · have e1 : ys = [] := by
          have := r2.length
          rw [e] at this
          exact List.length_eq_zero_iff.mp this
        subst e1
        rw [List.append_nil] at k
        exact k _ _ (Same.refl H) ⟨p, vs, rfl, hq, r⟩
      · exact k _ _ (same_new hl) (rep_tup (tr.fresh hl) hl (r.append r2))
    · cases h
theorem o2_sub : Op2 g (rI0 fun i j => .int (i - j)) subD := o2_rI0 fun a b d h => by
  cases a <;> first | (cases h; done) | skip
  cases b <;> first | (cases h; done) | skip
  cases h
  exact ⟨_, _, rfl, rfl, rfl⟩
theorem op_mulX : OpR X (binaryOp .Mult) (rI IntMulOk fun i j => .int (i * j)) := opI fun _ _ _ _ _ _ _ hc q => mul_int q hc
theorem small_ok {i : Int} (h : small64 i = true) : Builtin.Int.intBits i ≤ 64 := by
  unfold small64 at h
  rw [Bool.and_eq_true, decide_eq_true_eq, decide_eq_true_eq] at h
  exact intBits_le_64 h.1 h.2
theorem o2_mul : Op2 g (rI IntMulOk fun i j => .int (i * j)) mulD := o2_rI fun a b d h => by
  cases a <;> first | (cases h; done) | skip
  rename_i i
  cases b <;> first | (cases h; done) | skip
  rename_i j
  have h : (if (small64 i || small64 j || decide (i.natAbs.log2 + j.natAbs.log2 < 1000000)) = true then some (D.int (i * j)) else none) = some d := h
  split at h
  · cases h
    rename_i q
    refine ⟨_, _, rfl, rfl, ?_, rfl⟩
    rw [Bool.or_eq_true, Bool.or_eq_true, decide_eq_true_eq] at q
    rcases q with (q | q) | q
    · exact .of_left (small_ok q)
    · exact .of_right (small_ok q)
    · exact CMulW.ok q
  · cases h
theorem o2_fdiv : Op2 g (rI CDivW fun i j => .int (i / j)) fdivD := o2_rI fun a b d h => by
  cases a <;> first | (cases h; done) | skip
  rename_i i
  cases b <;> first | (cases h; done) | skip
  rename_i j
  have h : (if 0 < j ∧ j.natAbs.log2 < 9000 then some (D.int (i / j)) else none) = some d := h
  split at h
  · cases h
    rename_i q
    exact ⟨_, _, rfl, rfl, q, rfl⟩
  · cases h
theorem o2_mod : Op2 g (rI (fun _ j => 0 < j) fun i j => .int (i % j)) modD := o2_rI fun a b d h => by
  cases a <;> first | (cases h; done) | skip
  rename_i i
  cases b <;> first | (cases h; done) | skip
  rename_i j
  have h : (if 0 < j then some (D.int (i % j)) else none) = some d := h
  split at h
  · cases h
    rename_i q
    exact ⟨_, _, rfl, rfl, q, rfl⟩
  · cases h
def CPowX (i j : Int) : Prop := 0 ≤ j ∧ j ≤ 64 ∧ i.natAbs.log2 < 1000000
theorem op_powX : OpR X (binaryOp .Pow) (rI CPowX fun i j => .int (i ^ j.toNat)) := opI fun i j _ _ _ _ _ hc q => by
  refine pow_int hc.1 ?_ q
  have h1 : (Builtin.Int.intBits i : Int) ≤ 1000000 := by
    unfold Builtin.Int.intBits
    have := hc.2.2
    split <;> omega
  have h2 := hc.1
  have h3 := hc.2.1
  have h4 : (Builtin.Int.intBits i : Int) * j ≤ 1000000 * 64 := Int.mul_le_mul h1 h3 h2 (by decide)
  have h5 : (1000000 * 64 : Int) ≤ 2 ^ 27 := by decide
  omega
theorem o2_pow : Op2 g (rI CPowX fun i j => .int (i ^ j.toNat)) powD := o2_rI fun a b d h => by
  cases a <;> first | (cases h; done) | skip
  rename_i i
  cases b <;> first | (cases h; done) | skip
  rename_i j
  have h : (if 0 ≤ j ∧ j ≤ 64 ∧ i.natAbs.log2 < 1000000 then some (D.int (i ^ j.toNat)) else none) = some d := h
  split at h
  · cases h
    rename_i q
    exact ⟨_, _, rfl, rfl, q, rfl⟩
  · cases h
theorem o1_neg : Op1 g (rU fun i => .int (-i)) negD := fun A H x a d Q _ ra h k => by
  cases a <;> first | (cases h; done) | skip
  cases h
  exact ⟨_, ra, k _ _ (Same.refl H) rfl⟩
theorem isNon_ok {H A} {d : D} {v : V} (r : Rep g H A d v) : decide (v = .non) = isNon d := by
  cases d with
  | non => rw [show v = .non from r]; rfl
  | bl b => rw [show v = .bl b from r]; rfl
  | int i => rw [show v = .int i from r]; rfl
  | str z => rw [show v = .str z from r]; rfl
  | tup ds => obtain ⟨a, vs, e, _⟩ := r; rw [e]; rfl
  | lst ds => obtain ⟨a, vs, e, _⟩ := r; rw [e]; rfl
  | dct ks ds => obtain ⟨a, vs, e, _⟩ := r; rw [e]; rfl
  | fn n => rw [show v = .ref _ from r]; rfl
  | cl n => rw [show v = .ref _ from r]; rfl
  | ty n => rw [show v = .ty n from r]; rfl
  | th r' x => obtain ⟨t, _, e, _⟩ := r; rw [e]; rfl
  | xc n ns ds => obtain ⟨t, _, e, _⟩ := r; rw [e]; rfl
theorem o2_isN : Op2 g (fun x y H Q => y = .non ∧ Q (.bl (decide (x = .non))) H) isND := fun A H x y a b d Q _ ra rb h k => by
  cases b <;> first | (cases a <;> cases h; done) | skip
  cases h
  exact ⟨rb, by rw [isNon_ok ra]; exact k _ _ (Same.refl H) rfl⟩
theorem o2_notN : Op2 g (fun x y H Q => y = .non ∧ Q (.bl (!decide (x = .non))) H) notND := fun A H x y a b d Q _ ra rb h k => by
  cases b <;> first | (cases a <;> cases h; done) | skip
  cases h
  exact ⟨rb, by rw [isNon_ok ra]; exact k _ _ (Same.refl H) rfl⟩
end

/-! ### == of plain things -/
mutual
def eqv : D → D → Bool
  | .non, .non => true
  | .bl a, .bl b => a == b
  | .bl a, .int j => (if a then 1 else 0) == j
  | .int i, .bl b => i == (if b then 1 else 0)
  | .int i, .int j => i == j
  | .str x, .str y => x == y
  | .lst xs, .lst ys => eqvL xs ys
  | .tup xs, .tup ys => eqvL xs ys
  | _, _ => false
def eqvL : List D → List D → Bool
  | [], [] => true
  | x :: xs, y :: ys => eqv x y && eqvL xs ys
  | _, _ => false
end
mutual
/-- how deep; 100 where it is no plain thing -/
def dep : D → Nat
  | .non | .bl _ | .int _ => 0
  | .str x => if x.cps.all (· < 0x110000) then 0 else 100
  | .tup xs | .lst xs => depL xs + 1
  | _ => 100
def depL : List D → Nat
  | [] => 0
  | x :: xs => max (dep x) (depL xs)
end
mutual
def toP : D → PyData
  | .bl b => .bool b
  | .int i => .int i
  | .str x => .str x
  | .tup xs => .tuple (toPL xs)
  | .lst xs => .list (toPL xs)
  | _ => .none
def toPL : List D → List PyData
  | [] => []
  | x :: xs => toP x :: toPL xs
end
def eqD (a b : D) : Option D := if dep a ≤ 60 ∧ dep b ≤ 60 then some (.bl (eqv a b)) else none
def neD (a b : D) : Option D := if dep a ≤ 60 ∧ dep b ≤ 60 then some (.bl (!eqv a b)) else none
mutual
theorem eqv_toP : ∀ a b : D, dep a ≤ 99 → dep b ≤ 99 → PyData.eqv (toP a) (toP b) = eqv a b
  | .non, b, _, hb => by
    cases b <;> first | rfl | (simp only [dep] at hb; omega) | (unfold toP PyData.eqv eqv; rfl) | simp [toP, PyData.eqv, eqv]
  | .bl _, b, _, hb => by
    cases b <;> first | rfl | (simp only [dep] at hb; omega) | simp [toP, PyData.eqv, eqv]
  | .int _, b, _, hb => by
    cases b <;> first | rfl | (simp only [dep] at hb; omega) | simp [toP, PyData.eqv, eqv]
  | .str _, b, _, hb => by
    cases b <;> first | rfl | (simp only [dep] at hb; omega) | simp [toP, PyData.eqv, eqv]
  | .tup xs, b, ha, hb => by
    cases b <;> first | (simp only [dep] at hb; omega) | (simp [toP, PyData.eqv, eqv]; done) | skip
    rename_i ys
    simp only [dep] at ha hb
    simp only [toP, PyData.eqv, eqv]
    exact eqvL_toP xs ys (by omega) (by omega)
  | .lst xs, b, ha, hb => by
    cases b <;> first | (simp only [dep] at hb; omega) | (simp [toP, PyData.eqv, eqv]; done) | skip
    rename_i ys
    simp only [dep] at ha hb
    simp only [toP, PyData.eqv, eqv]
    exact eqvL_toP xs ys (by omega) (by omega)
  | .dct _ _, _, ha, _ => by simp only [dep] at ha; omega
  | .fn _, _, ha, _ => by simp only [dep] at ha; omega
  | .cl _, _, ha, _ => by simp only [dep] at ha; omega
  | .ty _, _, ha, _ => by simp only [dep] at ha; omega
  | .th _ _, _, ha, _ => by simp only [dep] at ha; omega
  | .xc _ _ _, _, ha, _ => by simp only [dep] at ha; omega
theorem eqvL_toP : ∀ xs ys : List D, depL xs ≤ 99 → depL ys ≤ 99 → PyData.eqvAll (toPL xs) (toPL ys) = eqvL xs ys
  | [], [], _, _ => rfl
  | [], _ :: _, _, _ => rfl
  | _ :: _, [], _, _ => rfl
  | x :: xs, y :: ys, ha, hb => by
    simp only [depL] at ha hb
    simp only [toPL, PyData.eqvAll, eqvL]
    rw [eqv_toP x y (by omega) (by omega), eqvL_toP xs ys (by omega) (by omega)]
end
mutual
theorem shape_toP : ∀ a : D, dep a ≤ 99 → (toP a).canLay0 = true ∧ (toP a).depth = dep a
  | .non, _ => ⟨rfl, rfl⟩
  | .bl _, _ => ⟨rfl, rfl⟩
  | .int _, _ => ⟨rfl, rfl⟩
  | .str x, h => by
    simp only [dep] at h
    split at h
    · rename_i q
      refine ⟨q, ?_⟩
      simp only [toP, PyData.depth, dep]
      rw [if_pos q]
    · omega
  | .tup xs, h => by
    simp only [dep] at h
    obtain ⟨h1, h2⟩ := shapeL_toP xs (by omega)
    exact ⟨by simp only [toP, PyData.canLay0]; exact h1, by simp only [toP, PyData.depth, dep]; rw [h2]⟩
  | .lst xs, h => by
    simp only [dep] at h
    obtain ⟨h1, h2⟩ := shapeL_toP xs (by omega)
    exact ⟨by simp only [toP, PyData.canLay0]; exact h1, by simp only [toP, PyData.depth, dep]; rw [h2]⟩
  | .dct _ _, h => by simp only [dep] at h; omega
  | .fn _, h => by simp only [dep] at h; omega
  | .cl _, h => by simp only [dep] at h; omega
  | .ty _, h => by simp only [dep] at h; omega
  | .th _ _, h => by simp only [dep] at h; omega
  | .xc _ _ _, h => by simp only [dep] at h; omega
theorem shapeL_toP : ∀ xs : List D, depL xs ≤ 99 → PyData.canLayAll0 (toPL xs) = true ∧ PyData.depthAll (toPL xs) = depL xs
  | [], _ => ⟨rfl, rfl⟩
  | x :: xs, h => by
    simp only [depL] at h
    obtain ⟨a1, a2⟩ := shape_toP x (by omega)
    obtain ⟨b1, b2⟩ := shapeL_toP xs (by omega)
    exact ⟨by simp only [toPL, PyData.canLayAll0]; rw [a1, b1]; rfl, by simp only [toPL, PyData.depthAll, depL]; rw [a2, b2]⟩
end
theorem shaped_toP {a : D} (h : dep a ≤ 60) : SeqAt.shaped (toP a) = true := by
  obtain ⟨h1, h2⟩ := shape_toP a (by omega)
  unfold SeqAt.shaped
  rw [h1, Bool.true_and]
  exact decide_eq_true (by rw [h2]; omega)
section
variable {g : G} {X : Cx} {H : Hp} {A : Addr → Prop}
mutual
theorem dp_of (hK : X.K = g.K) : ∀ (d : D) (v : V), dep d ≤ 99 → Rep g H A d v → Dp X.K H v (toP d)
  | .non, v, _, r => by rw [show v = .non from r]; exact .non
  | .bl b, v, _, r => by rw [show v = .bl b from r]; exact .bl b
  | .int i, v, _, r => by rw [show v = .int i from r]; exact .int i
  | .str x, v, _, r => by rw [show v = .str x from r]; exact .str x
  | .tup ds, v, h, ⟨a, vs, e, q, r⟩ => by
    rw [e]
    simp only [dep] at h
    exact .tup (by rw [hK]; exact q.sq) (dpL_of hK ds vs (by omega) r)
  | .lst ds, v, h, ⟨a, vs, e, q, r⟩ => by
    rw [e]
    simp only [dep] at h
    exact .lst (by rw [hK]; exact q.sq) (dpL_of hK ds vs (by omega) r)
  | .dct _ _, _, h, _ => by simp only [dep] at h; omega
  | .fn _, _, h, _ => by simp only [dep] at h; omega
  | .cl _, _, h, _ => by simp only [dep] at h; omega
  | .ty _, _, h, _ => by simp only [dep] at h; omega
  | .th _ _, _, h, _ => by simp only [dep] at h; omega
  | .xc _ _ _, _, h, _ => by simp only [dep] at h; omega
theorem dpL_of (hK : X.K = g.K) : ∀ (ds : List D) (vs : List V), depL ds ≤ 99 → RepL g H A ds vs → DpAll X.K H vs (toPL ds)
  | [], vs, _, r => by rw [show vs = [] from r]; exact .nil
  | d :: ds, vs, h, ⟨v, r, e, h1, h2⟩ => by
    rw [e]
    simp only [depL] at h
    exact .cons (dp_of hK d v (by omega) h1) (dpL_of hK ds r (by omega) h2)
end
theorem o2_eq (hK : X.K = g.K) : Op2 g (rEqD X.K) eqD := fun A H x y a b d Q _ ra rb h k => by
  unfold eqD at h
  split at h
  · cases h
    rename_i q
    refine ⟨toP a, toP b, dp_of hK a x (by omega) ra, dp_of hK b y (by omega) rb, shaped_toP q.1, shaped_toP q.2, ?_⟩
    rw [eqv_toP a b (by omega) (by omega)]
    exact k _ _ (Same.refl H) rfl
  · cases h
theorem o2_ne (hK : X.K = g.K) : Op2 g (rNeD X.K) neD := fun A H x y a b d Q _ ra rb h k => by
  unfold neD at h
  split at h
  · cases h
    rename_i q
    refine ⟨toP a, toP b, dp_of hK a x (by omega) ra, dp_of hK b y (by omega) rb, shaped_toP q.1, shaped_toP q.2, ?_⟩
    rw [eqv_toP a b (by omega) (by omega)]
    exact k _ _ (Same.refl H) rfl
  · cases h
end
end DL
end

section
set_option Elab.async false
set_option linter.all false
set_option maxRecDepth 100000
set_option maxHeartbeats 4000000
namespace DL
open PySem PySem.Spec PyProof.Rows L2

/-! ### a[b] -/
theorem RepL.atI {g : G} {H : Hp} {A : Addr → Prop} {ds : List D} {vs : List V} {i : Int} {d : D} (r : RepL g H A ds vs) (h : atI ds i = some d) : ∃ v, atI vs i = some v ∧ Rep g H A d v := by
  unfold L2.atI at h ⊢
  rw [← r.length]
  cases q : ixN ds.length i with
  | none => rw [q] at h; cases h
  | some j =>
    rw [q] at h
    exact RepL.at r h
def keyD : D → Option Key
  | .int i => some (.inl i)
  | .str x => some (.inr x)
  | _ => none
def lookK : List Key → List D → Key → Option D
  | k :: ks, d :: ds, q => if k = q then some d else lookK ks ds q
  | _, _, _ => none
theorem lookK_ok {g : G} {H : Hp} {A : Addr → Prop} : ∀ {ks : List Key} {ds : List D} {vs : List V} {q : Key}, ks.length = vs.length → RepL g H A ds vs →
    match lookK ks ds q with
    | some d => ∃ v, valV (ks.zip vs) q = some v ∧ Rep g H A d v
    | none => valV (ks.zip vs) q = none
  | [], _, _, _, _, _ => by simp [lookK, valV]
  | k :: ks, ds, [], q, h, _ => by cases h
  | k :: ks, [], v :: vs, q, _, r => by cases (show v :: vs = [] from r)
  | k :: ks, d :: ds, v :: vs, q, h, ⟨v', r', e, h1, h2⟩ => by
    cases e
    unfold lookK
    by_cases z : k = q
    · rw [if_pos z]
      exact ⟨v, valV_pos (p := (k, v)) z, h1⟩
    · rw [if_neg z]
      have := lookK_ok (ks := ks) (ds := ds) (vs := vs) (q := q) (by simpa using h) h2
      rw [show valV ((k :: ks).zip (v :: vs)) q = valV (ks.zip vs) q from valV_neg (p := (k, v)) z]
      exact this
def ixD : D → D → Option D
  | .lst xs, .int i => atI xs i
  | .tup xs, .int i => atI xs i
  | .str z, .int i => if z.length ≤ 16777216 then (atI z.cps.toList i).map fun c => .str ⟨#[c]⟩ else none
  | .dct ks ds, k => (keyD k).bind (lookK ks ds)
  | _, _ => none
def rIxDct : R2 := fun x y H Q => ∃ a v, x = .ref a ∧ DGet H a y (some v) ∧ Q v H
def rInDct (neg : Bool) : R2 := fun x y H Q => ∃ a o, y = .ref a ∧ DGet H a x o ∧ Q (.bl (if neg then !o.isSome else o.isSome)) H
section
variable {g : G} {X : Cx}
theorem ix_dct (hu : X.A.units + 1 < cLine) : IxR X rIxDct := by
  intro value slice pins s σ H x y v u Q I rx ry h hs
  obtain ⟨a, w', rfl, dg, q⟩ := h
  cases rx
  exact tail_any (dict_typeIs I dg) PySem.F.slot_dict_getitem.lookup (d_getItem hu I dg ry fun w2 s' I' r => ⟨_, H, I', r, q⟩) hs
def rIxA (K : PySem.W.Frag) : R2 := fun x y H Q => rIx K x y H Q ∨ rIxDct x y H Q
theorem ix_all (hu : X.A.units + 1 < cLine) : IxR X (rIxA X.K) := ix_seq.or (ix_dct hu)
theorem keyD_some {d : D} {k : Key} {v : V} {H A} (h : keyD d = some k) (r : Rep g H A d v) : v = kV k := by
  cases d <;> first | (cases h; done) | skip
  · cases h; exact r
  · cases h; exact r
theorem o2_ix (hK : X.K = g.K) : Op2 g (rIxA X.K) ixD := fun A H x y a b d Q tr ra rb h k => by
  cases a <;> first | (cases b <;> cases h; done) | skip
  case str z =>
    cases b <;> first | (cases h; done) | skip
    rename_i i
    have h : (if z.length ≤ 16777216 then (atI z.cps.toList i).map fun c => D.str ⟨#[c]⟩ else none) = some d := h
    split at h
    · rename_i hz
      cases q : atI z.cps.toList i with
      | none => rw [q] at h; cases h
      | some c =>
        rw [q] at h
        cases h
        exact .inl (.inr (.inr ⟨z, i, c, ra, rb, by rw [sizeLine_eq]; exact hz, q, k _ _ (Same.refl H) rfl⟩))
    · cases h
  case tup xs =>
    cases b <;> first | (cases h; done) | skip
    obtain ⟨p, vs, rfl, hq, r⟩ := ra
    obtain ⟨v, hv, rv⟩ := r.atI h
    exact .inl (.inr (.inl ⟨p, vs, _, v, rfl, rb, by rw [hK]; exact hq.sq, hv, k _ _ (Same.refl H) rv⟩))
  case lst xs =>
    cases b <;> first | (cases h; done) | skip
    obtain ⟨p, vs, rfl, hq, r⟩ := ra
    obtain ⟨v, hv, rv⟩ := r.atI h
    exact .inl (.inl ⟨p, vs, _, v, rfl, rb, by rw [hK]; exact hq.sq, hv, k _ _ (Same.refl H) rv⟩)
  case dct ks ds =>
    have h : (keyD b).bind (lookK ks ds) = some d := h
    cases q : keyD b with
    | none => rw [q] at h; cases h
    | some kk =>
      rw [q] at h
      have h : lookK ks ds kk = some d := h
      obtain ⟨p, vs, rfl, ⟨_, hq⟩, hl, r⟩ := ra
      have := lookK_ok (q := kk) hl r
      rw [h] at this
      obtain ⟨v, hv, rv⟩ := this
      rw [keyD_some q rb]
      exact .inr ⟨p, v, rfl, .inl ⟨_, kk, .inl hq, rfl, hv.symm⟩, k _ _ (Same.refl H) rv⟩
/-! ### in, not in -/
def flatD : D → Bool
  | .non | .bl _ | .int _ | .str _ => true
  | _ => false
def inD : D → D → Option Bool
  | x, .tup ys => if flatD x && ys.all flatD then some (ys.any fun y => eqv y x) else none
  | x, .lst ys => if flatD x && ys.all flatD then some (ys.any fun y => eqv y x) else none
  | x, .dct ks ds => (keyD x).map fun k => (lookK ks ds k).isSome
  | _, _ => none
def yesD (x y : D) : Option D := (inD x y).map D.bl
def noD (x y : D) : Option D := (inD x y).map fun b => D.bl (!b)
theorem flat_ok {d : D} {v : V} {H A} (r : Rep g H A d v) (h : flatD d = true) : flatV v = true := by
  cases d <;> first | (cases h; done) | skip
  · rw [show v = .non from r]; rfl
  · rw [show v = .bl _ from r]; rfl
  · rw [show v = .int _ from r]; rfl
  · rw [show v = .str _ from r]; rfl
theorem eqV_ok {a b : D} {v u : V} {H A} (r : Rep g H A a v) (r' : Rep g H A b u) (h : flatD a = true) (h' : flatD b = true) : eqV v u = eqv a b := by
  cases a <;> first | (cases h; done) | skip
  all_goals cases b <;> first | (cases h'; done) | skip
  all_goals (rw [show v = _ from r, show u = _ from r']; first | rfl | (unfold eqv eqV; rfl) | simp [eqv, eqV])
theorem any_ok {b : D} {u : V} {H A} (r' : Rep g H A b u) (h' : flatD b = true) : ∀ {ds : List D} {vs : List V}, RepL g H A ds vs → ds.all flatD = true → vs.all flatV = true ∧ inV u vs = ds.any fun y => eqv y b
  | [], vs, r, _ => by rw [show vs = [] from r]; exact ⟨rfl, rfl⟩
  | d :: ds, vs, ⟨v, q, e, h1, h2⟩, f => by
    rw [e]
    rw [List.all_cons, Bool.and_eq_true] at f
    obtain ⟨a1, a2⟩ := any_ok r' h' h2 f.2
    refine ⟨by rw [List.all_cons, flat_ok h1 f.1, a1]; rfl, ?_⟩
    unfold inV at a2 ⊢
    rw [List.any_cons, List.any_cons, a2, eqV_ok h1 r' f.1 h']
theorem op_inDct (hu : X.A.units + 1 < cLine) : OpR X (compareOp .In) (rInDct false) := by
  intro pins s σ H x y v u Q I rx ry h
  obtain ⟨a, o, rfl, dg, q⟩ := h
  cases ry
  exact d_in hu I dg rx fun s' I' => ⟨.bl _, H, I', rfl, q⟩
theorem op_notInDct (hu : X.A.units + 1 < cLine) : OpR X (compareOp .NotIn) (rInDct true) := by
  intro pins s σ H x y v u Q I rx ry h
  obtain ⟨a, o, rfl, dg, q⟩ := h
  cases ry
  exact d_notIn hu I dg rx fun s' I' => ⟨.bl _, H, I', rfl, q⟩
def rInA (K : PySem.W.Frag) (neg : Bool) : R2 := fun x y H Q => rIn K neg x y H Q ∨ rInDct neg x y H Q
theorem op_inA (hu : X.A.units + 1 < cLine) : OpR X (compareOp .In) (rInA X.K false) := op_in_seq.or (op_inDct hu)
theorem op_notInA (hu : X.A.units + 1 < cLine) : OpR X (compareOp .NotIn) (rInA X.K true) := op_notIn_seq.or (op_notInDct hu)
theorem o2_inX (hK : X.K = g.K) (neg : Bool) : Op2 g (rInA X.K neg) fun x y => (inD x y).map fun b => D.bl (if neg then !b else b) := fun A H x y a b d Q tr ra rb h k => by
  cases q : inD a b with
  | none => simp [q] at h
  | some r =>
    simp only [q, Option.map_some, Option.some.injEq] at h
    subst h
    cases b <;> first | (cases q; done) | skip
    case tup ys =>
      have q : (if (flatD a && ys.all flatD) = true then some (ys.any fun y => eqv y a) else none) = some r := q
      split at q
      · rename_i hf
        rw [Bool.and_eq_true] at hf
        cases q
        obtain ⟨p, vs, rfl, hq, rr⟩ := rb
        obtain ⟨a1, a2⟩ := any_ok ra hf.1 rr hf.2
        exact .inl ⟨p, vs, rfl, .inr (by rw [hK]; exact hq.sq), flat_ok ra hf.1, a1, by rw [a2]; exact k _ _ (Same.refl H) rfl⟩
      · cases q
    case lst ys =>
      have q : (if (flatD a && ys.all flatD) = true then some (ys.any fun y => eqv y a) else none) = some r := q
      split at q
      · rename_i hf
        rw [Bool.and_eq_true] at hf
        cases q
        obtain ⟨p, vs, rfl, hq, rr⟩ := rb
        obtain ⟨a1, a2⟩ := any_ok ra hf.1 rr hf.2
        exact .inl ⟨p, vs, rfl, .inl (by rw [hK]; exact hq.sq), flat_ok ra hf.1, a1, by rw [a2]; exact k _ _ (Same.refl H) rfl⟩
      · cases q
    case dct ks ds =>
      have q : ((keyD a).map fun k => (lookK ks ds k).isSome) = some r := q
      cases z : keyD a with
      | none => rw [z] at q; cases q
      | some kk =>
        rw [z] at q
        cases q
        obtain ⟨p, vs, rfl, ⟨_, hq⟩, hl, rr⟩ := rb
        have := lookK_ok (q := kk) hl rr
        have e : (valV (ks.zip vs) kk).isSome = (lookK ks ds kk).isSome := by
          cases y : lookK ks ds kk with
          | none => rw [y] at this; rw [this]; rfl
          | some dd => rw [y] at this; obtain ⟨v, hv, _⟩ := this; rw [hv]; rfl
        rw [keyD_some z ra]
        exact .inr ⟨p, _, rfl, .inl ⟨_, kk, .inl hq, rfl, rfl⟩, by rw [e]; exact k _ _ (Same.refl H) rfl⟩
theorem o2_in (hK : X.K = g.K) : Op2 g (rInA X.K false) yesD := o2_inX hK false
theorem o2_notIn (hK : X.K = g.K) : Op2 g (rInA X.K true) noD := o2_inX hK true
end

/-! ### isinstance, of built-in types -/
def tyD : D → Option String
  | .non => some "NoneType"
  | .bl _ => some "bool"
  | .int _ => some "int"
  | .str _ => some "str"
  | .tup _ => some "tuple"
  | .lst _ => some "list"
  | .dct _ _ => some "dict"
  | _ => none
/-- t is T or right under it, of the kinds that are asked -/
def isTy (t T : String) : Bool := t == T || (t == "bool" && T == "int")
def okTy (T : String) : Prop := T = "int" ∨ T = "bool" ∨ T = "str" ∨ T = "tuple" ∨ T = "list" ∨ T = "dict"
instance (T : String) : Decidable (okTy T) := by unfold okTy; infer_instance
def isiD1 (d : D) (T : String) : Option D := if okTy T then (tyD d).map fun t => .bl (isTy t T) else none
def isiD : List D → Option D
  | [d, .ty T] => isiD1 d T
  | _ => none
theorem kit_of_ty {t T : String} (ht : t = "NoneType" ∨ t = "bool" ∨ t = "int" ∨ t = "str" ∨ t = "tuple" ∨ t = "list" ∨ t = "dict") (hT : T = "int" ∨ T = "bool" ∨ T = "str" ∨ T = "tuple" ∨ T = "list" ∨ T = "dict") :
    kitB t T = some (isTy t T) := by
  rcases ht with rfl | rfl | rfl | rfl | rfl | rfl | rfl <;> rcases hT with rfl | rfl | rfl | rfl | rfl | rfl <;> decide +kernel
section
variable {g : G} {X : Cx}
theorem tyX_ok (hK : X.K = g.K) {d : D} {v : V} {H A} {t : String} (r : Rep g H A d v) (h : tyD d = some t) : TyX X.K H v (.type t) ∧ (t = "NoneType" ∨ t = "bool" ∨ t = "int" ∨ t = "str" ∨ t = "tuple" ∨ t = "list" ∨ t = "dict") := by
  cases d <;> first | (cases h; done) | skip
  case non => cases h; rw [show v = .non from r]; exact ⟨.base .non, .inl rfl⟩
  case bl b => cases h; rw [show v = .bl b from r]; exact ⟨.base (.bl b), .inr (.inl rfl)⟩
  case int i => cases h; rw [show v = .int i from r]; exact ⟨.base (.int i), .inr (.inr (.inl rfl))⟩
  case str z => cases h; rw [show v = .str z from r]; exact ⟨.base (.str z), .inr (.inr (.inr (.inl rfl)))⟩
  case tup ds =>
    cases h
    obtain ⟨a, vs, e, q, _⟩ := r
    rw [e]
    refine ⟨?_, .inr (.inr (.inr (.inr (.inl rfl))))⟩
    rcases q with ⟨_, q | ⟨o, q⟩⟩ | ⟨o, its, n, q, hc, _⟩
    · exact .base (.tup q)
    · exact .fTuple q
    · exact .kTuple (by rw [hK]; exact q) hc
  case lst ds =>
    cases h
    obtain ⟨a, vs, e, q, _⟩ := r
    rw [e]
    refine ⟨?_, .inr (.inr (.inr (.inr (.inr (.inl rfl)))))⟩
    rcases q with ⟨_, q | ⟨o, q⟩⟩ | ⟨o, its, n, q, hc, _⟩
    · exact .base (.lst q)
    · exact .base (.frz q)
    · exact .kList (by rw [hK]; exact q) hc
  case dct ks ds =>
    cases h
    obtain ⟨a, vs, e, ⟨_, q⟩, _⟩ := r
    rw [e]
    exact ⟨.base (.dK q), .inr (.inr (.inr (.inr (.inr (.inr rfl)))))⟩
theorem isiD_some : ∀ {as : List D} {d : D}, isiD as = some d → ∃ a T, as = [a, .ty T] ∧ okTy T ∧ ∃ t, tyD a = some t ∧ d = .bl (isTy t T)
  | [], _, h => by cases h
  | [_], _, h => by cases h
  | _ :: _ :: _ :: _, _, h => by simp [isiD] at h
  | [a, b], d, h => by
    cases b <;> first | (cases h; done) | skip
    rename_i T
    refine ⟨a, T, rfl, ?_⟩
    rw [isiD, isiD1] at h
    split at h
    · rename_i hT
      refine ⟨hT, ?_⟩
      cases z : tyD a with
      | none => rw [z] at h; cases h
      | some t => rw [z] at h; cases h; exact ⟨t, rfl, rfl⟩
    · cases h
theorem oc_isi (hK : X.K = g.K) : OpC g (rIsi X.K) isiD := fun A H xs as d Q tr r h k => by
  obtain ⟨a, T, rfl, hT, t, z, rfl⟩ := isiD_some h
  obtain ⟨v, r1, rfl, ra, u, r2, rfl, rb, rfl⟩ := r
  obtain ⟨t1, t2⟩ := tyX_ok hK ra z
  have rb : u = .ty T := rb
  subst rb
  exact ⟨v, .ty T, .type t, .type T, isTy t T, rfl, .ty T, t1, kit_ty (kit_of_ty t2 hT), k (.bl (isTy t T)) H (Same.refl H) rfl⟩
end

/-! ### built-in functions -/
def on1 (F : D → Option D) : List D → Option D
  | [a] => F a
  | _ => none
def on2 (F : D → D → Option D) : List D → Option D
  | [a, b] => F a b
  | _ => none
theorem on1_some {F : D → Option D} : ∀ {as : List D} {d : D}, on1 F as = some d → ∃ a, as = [a] ∧ F a = some d
  | [], _, h => by cases h
  | [a], _, h => ⟨a, rfl, h⟩
  | _ :: _ :: _, _, h => by simp [on1] at h
theorem on2_some {F : D → D → Option D} : ∀ {as : List D} {d : D}, on2 F as = some d → ∃ a b, as = [a, b] ∧ F a b = some d
  | [], _, h => by cases h
  | [a], _, h => by cases h
  | [a, b], _, h => ⟨a, b, rfl, h⟩
  | _ :: _ :: _ :: _, _, h => by simp [on2] at h
def absD : D → Option D
  | .int i => some (.int (if i < 0 then -i else i))
  | _ => none
def intD : D → Option D
  | .int i => some (.int i)
  | .bl k => some (.int (if k then 1 else 0))
  | _ => none
def max2D : D → D → Option D
  | .int i, .int j => some (.int (if j > i then j else i))
  | _, _ => none
def min2D : D → D → Option D
  | .int i, .int j => some (.int (if j < i then j else i))
  | _, _ => none
def lenD : D → Option D
  | .tup xs => some (.int xs.length)
  | .lst xs => some (.int xs.length)
  | .str z => if z.length ≤ 16777216 then some (.int z.length) else none
  | _ => none
def tupD : D → Option D
  | .tup xs => some (.tup xs)
  | .lst xs => some (.tup xs)
  | _ => none
def boolsOf : List D → Option (List Bool)
  | [] => some []
  | .bl b :: ds => (boolsOf ds).map (b :: ·)
  | _ => none
def allD : D → Option D
  | .lst xs => (boolsOf xs).map fun bs => .bl (bs.all id)
  | _ => none
def anyD : D → Option D
  | .lst xs => (boolsOf xs).map fun bs => .bl (bs.any id)
  | _ => none
def intsOf : List D → Option (List Int)
  | [] => some []
  | .int b :: ds => (intsOf ds).map (b :: ·)
  | _ => none
def sumD : D → Option D
  | .lst xs => (intsOf xs).map fun bs => .int bs.sum
  | _ => none
section
variable {g : G} {X : Cx} {H : Hp} {A : Addr → Prop}
theorem boolsOf_ok : ∀ {ds : List D} {vs : List V} {bs : List Bool}, RepL g H A ds vs → boolsOf ds = some bs → vs = bs.map V.bl
  | [], vs, bs, r, h => by cases h; exact r
  | d :: ds, vs, bs, ⟨v, q, e, h1, h2⟩, h => by
    cases d <;> first | (cases h; done) | skip
    rename_i b
    rw [boolsOf] at h
    cases z : boolsOf ds with
    | none => rw [z] at h; cases h
    | some cs =>
      rw [z] at h
      cases h
      rw [e, show v = .bl b from h1, boolsOf_ok h2 z]
      rfl
theorem intsOf_ok : ∀ {ds : List D} {vs : List V} {bs : List Int}, RepL g H A ds vs → intsOf ds = some bs → vs = bs.map V.int
  | [], vs, bs, r, h => by cases h; exact r
  | d :: ds, vs, bs, ⟨v, q, e, h1, h2⟩, h => by
    cases d <;> first | (cases h; done) | skip
    rename_i b
    rw [intsOf] at h
    cases z : intsOf ds with
    | none => rw [z] at h; cases h
    | some cs =>
      rw [z] at h
      cases h
      rw [e, show v = .int b from h1, intsOf_ok h2 z]
      rfl
def rOn1 (r : V → Hp → VK → Prop) : List V → Hp → VK → Prop := fun xs H Q => ∃ x, xs = [x] ∧ r x H Q
theorem oc_on1 {r : List V → Hp → VK → Prop} {F : D → Option D} (h : ∀ (A : Addr → Prop) (H : Hp) (x : V) (a d : D) (Q : VK), Tr A H → Rep g H A a x → F a = some d → (∀ v H', Same H H' → Rep g H' A d v → Q v H') → r [x] H Q) : OpC g r (on1 F) := fun A H xs as d Q tr rs e k => by
  obtain ⟨a, rfl, e⟩ := on1_some e
  obtain ⟨v, r1, rfl, ra, rfl⟩ := rs
  exact h A H v a d Q tr ra e k
theorem oc_on2 {r : List V → Hp → VK → Prop} {F : D → D → Option D} (h : ∀ (A : Addr → Prop) (H : Hp) (x y : V) (a b d : D) (Q : VK), Tr A H → Rep g H A a x → Rep g H A b y → F a b = some d → (∀ v H', Same H H' → Rep g H' A d v → Q v H') → r [x, y] H Q) : OpC g r (on2 F) := fun A H xs as d Q tr rs e k => by
  obtain ⟨a, b, rfl, e⟩ := on2_some e
  obtain ⟨v, r1, rfl, ra, v2, r2, rfl, rb, rfl⟩ := rs
  exact h A H v v2 a b d Q tr ra rb e k
theorem oc_abs : OpC g (fun xs H Q => ∃ i, xs = [.int i] ∧ Q (.int (if i < 0 then -i else i)) H) (on1 absD) := oc_on1 fun A H x a d Q tr ra h k => by
  cases a <;> first | (cases h; done) | skip
  cases h
  have ra : x = .int _ := ra
  subst ra
  exact ⟨_, rfl, k _ _ (Same.refl H) rfl⟩
theorem oc_int : OpC g (fun xs H Q => (∃ i, xs = [.int i] ∧ Q (.int i) H) ∨ ∃ k, xs = [.bl k] ∧ Q (.int (if k then 1 else 0)) H) (on1 intD) := oc_on1 fun A H x a d Q tr ra h k => by
  cases a <;> first | (cases h; done) | skip
  · cases h
    have ra : x = .bl _ := ra
    subst ra
    exact .inr ⟨_, rfl, k _ _ (Same.refl H) rfl⟩
  · cases h
    have ra : x = .int _ := ra
    subst ra
    exact .inl ⟨_, rfl, k _ _ (Same.refl H) rfl⟩
theorem oc_max2 : OpC g (fun xs H Q => ∃ i j, xs = [.int i, .int j] ∧ Q (.int (if j > i then j else i)) H) (on2 max2D) := oc_on2 fun A H x y a b d Q tr ra rb h k => by
  cases a <;> first | (cases h; done) | skip
  cases b <;> first | (cases h; done) | skip
  cases h
  have ra : x = .int _ := ra
  have rb : y = .int _ := rb
  subst ra rb
  exact ⟨_, _, rfl, k _ _ (Same.refl H) rfl⟩
theorem oc_min2 : OpC g (fun xs H Q => ∃ i j, xs = [.int i, .int j] ∧ Q (.int (if j < i then j else i)) H) (on2 min2D) := oc_on2 fun A H x y a b d Q tr ra rb h k => by
  cases a <;> first | (cases h; done) | skip
  cases b <;> first | (cases h; done) | skip
  cases h
  have ra : x = .int _ := ra
  have rb : y = .int _ := rb
  subst ra rb
  exact ⟨_, _, rfl, k _ _ (Same.refl H) rfl⟩
theorem oc_len (hK : X.K = g.K) : OpC g (fun xs H Q => ∃ x n, xs = [x] ∧ LenV X.K x H n ∧ Q (.int n) H) (on1 lenD) := oc_on1 fun A H x a d Q tr ra h k => by
  cases a <;> first | (cases h; done) | skip
  case tup ds =>
    cases h
    obtain ⟨p, vs, rfl, hq, rr⟩ := ra
    exact ⟨_, ds.length, rfl, .inr ⟨vs, by rw [hK]; exact hq.sq, rr.length⟩, k _ _ (Same.refl H) rfl⟩
  case lst ds =>
    cases h
    obtain ⟨p, vs, rfl, hq, rr⟩ := ra
    exact ⟨_, ds.length, rfl, .inl ⟨vs, by rw [hK]; exact hq.sq, rr.length⟩, k _ _ (Same.refl H) rfl⟩
  case str z =>
    rw [lenD] at h
    split at h
    · cases h
      rename_i q
      have ra : x = .str z := ra
      subst ra
      exact ⟨_, z.length, rfl, ⟨by rw [sizeLine_eq]; exact q, rfl⟩, k _ _ (Same.refl H) rfl⟩
    · cases h
theorem oc_tup (hK : X.K = g.K) : OpC g (fun xs H Q => ∃ p ys, xs = [.ref p] ∧ ((SqL X.K H p ys ∧ ∀ l, H l = none → Q (.ref l) (upd H l (.tup ys))) ∨ (SqT X.K H p ys ∧ Q (.ref p) H))) (on1 tupD) := oc_on1 fun A H x a d Q tr ra h k => by
  cases a <;> first | (cases h; done) | skip
  case tup ds =>
    cases h
    obtain ⟨p, vs, rfl, hq, rr⟩ := ra
    exact ⟨p, vs, rfl, .inr ⟨by rw [hK]; exact hq.sq, k _ _ (Same.refl H) ⟨p, vs, rfl, hq, rr⟩⟩⟩
  case lst ds =>
    cases h
    obtain ⟨p, vs, rfl, hq, rr⟩ := ra
    exact ⟨p, vs, rfl, .inl ⟨by rw [hK]; exact hq.sq, fun l hl => k _ _ (same_new hl) (rep_tup (tr.fresh hl) hl rr)⟩⟩
theorem oc_all (hK : X.K = g.K) : OpC g (rAll X.K) (on1 allD) := oc_on1 fun A H x a d Q tr ra h k => by
  cases a <;> first | (cases h; done) | skip
  rename_i ds
  obtain ⟨p, vs, rfl, hq, rr⟩ := ra
  rw [allD] at h
  cases z : boolsOf ds with
  | none => rw [z] at h; cases h
  | some bs =>
    rw [z] at h
    cases h
    exact ⟨p, bs, rfl, by rw [hK, ← boolsOf_ok rr z]; exact hq.sq, k _ _ (Same.refl H) rfl⟩
theorem oc_any (hK : X.K = g.K) : OpC g (rAny X.K) (on1 anyD) := oc_on1 fun A H x a d Q tr ra h k => by
  cases a <;> first | (cases h; done) | skip
  rename_i ds
  obtain ⟨p, vs, rfl, hq, rr⟩ := ra
  rw [anyD] at h
  cases z : boolsOf ds with
  | none => rw [z] at h; cases h
  | some bs =>
    rw [z] at h
    cases h
    exact ⟨p, bs, rfl, by rw [hK, ← boolsOf_ok rr z]; exact hq.sq, k _ _ (Same.refl H) rfl⟩
theorem oc_sum (hK : X.K = g.K) : OpC g (rSum X.K) (on1 sumD) := oc_on1 fun A H x a d Q tr ra h k => by
  cases a <;> first | (cases h; done) | skip
  rename_i ds
  obtain ⟨p, vs, rfl, hq, rr⟩ := ra
  rw [sumD] at h
  cases z : intsOf ds with
  | none => rw [z] at h; cases h
  | some bs =>
    rw [z] at h
    cases h
    exact ⟨p, bs, rfl, by rw [hK, ← intsOf_ok rr z]; exact hq.sq, k _ _ (Same.refl H) rfl⟩
variable {mp : List Nat} {e : Expr} {es : List Expr} {fs : Env → R (List D)} {x : Str} {p pos : Pos} {id T : String} {r : List V → Hp → VK → Prop} {F : List D → Option D}
theorem de_callB (hc : CallR X (.builtin id) r) (hF : OpC g r F) (hg : Gl X x) (hm : X.mg x = none) (hv : bootBuiltins x = some (.builtin id)) (ha : DA g mp X (e :: es) fs) (hn : x ≠ "__name__" := by decide) (hdb : (x == ("__debug__" : Str)) = false := by decide)
    (he : starEach (e :: es) X.env = (false, eval e X.env) :: starEach es X.env := by rfl) (hpl : (backTo pos (starEach es X.env)).any (·.1) = false := by rfl) : DE g mp X (.Call (.Name x p) (e :: es) [] pos) (dCal F fs) :=
  ⟨fun P ps W hp tk => pe_imp (pe_callB hc hg hm hv (ha.run P ps W hp tk) hn hdb he hpl) fun σ H Q h => tD_cal hF h⟩
theorem de_callTy (hc : CallR X (.type T) r) (hF : OpC g r F) (hg : Gl X x) (hm : X.mg x = none) (hv : bootBuiltins x = some (.type T)) (ha : DA g mp X (e :: es) fs) (hn : x ≠ "__name__" := by decide) (hdb : (x == ("__debug__" : Str)) = false := by decide)
    (he : starEach (e :: es) X.env = (false, eval e X.env) :: starEach es X.env := by rfl) (hpl : (backTo pos (starEach es X.env)).any (·.1) = false := by rfl) : DE g mp X (.Call (.Name x p) (e :: es) [] pos) (dCal F fs) :=
  ⟨fun P ps W hp tk => pe_imp (pe_callTy hc hg hm hv (ha.run P ps W hp tk) hn hdb he hpl) fun σ H Q h => tD_cal hF h⟩
theorem de_ix (hK : X.K = g.K) (hu : X.A.units + 1 < cLine) {a b : Expr} {fa fb : Env → R D} (ha : DE g mp X a fa) (hb : DE g mp X b fb) (hs : PlainIx b := by exact fun _ _ => rfl) : DE g mp X (.Subscript a b pos) (dBin ixD fa fb) :=
  ⟨fun P ps W hp tk => pe_imp (pe_ix (ix_all hu) (ha.run P ps W hp tk) (hb.run P ps W hp tk) hs) fun σ H Q h => tD_bin (o2_ix hK) h⟩
/-- a built-in type's name as a value -/
theorem de_ty (hg : Gl X x) (hm : X.mg x = none) (hv : bootBuiltins x = some (.type T)) (hn : x ≠ "__name__" := by decide) (hd : (x == ("__debug__" : Str)) = false := by decide) : DE g mp X (.Name x pos) (dC (.ty T)) :=
  de_c (pe_bltn hg hm hv (v := .ty T) rfl hn hd) fun _ _ => rfl
end
end DL
end

section
set_option Elab.async false
set_option linter.all false
set_option maxRecDepth 100000
set_option maxHeartbeats 4000000
namespace DL
open PySem PySem.Spec PyProof.Rows L2

/-! ### statements: what is wanted behind them -/
def PRS (g : G) (P : Addr → Prop) (ps : List (Nat × Addr)) (W : WX) (e : Env) (σ : L2.St) (H : Hp) (r : RS) (Dn : Ends) : Prop := match r with
  | .nx e' => ∀ σ' H', Go g P ps e σ H e' σ' H' → Dn.nx σ' H'
  | .rt (.v d) e' => ∀ v σ' H', Go g P ps e σ H e' σ' H' → Rep g H' (Av P e' σ') d v → Dn.rt v H'
  | .rt (.m ds) e' => ∀ a σ' H', GoM g P ps e σ H a ds e' σ' H' → Dn.rt (.ref a) H'
  | .bk e' => ∀ σ' H', Go g P ps e σ H e' σ' H' → Dn.bk σ' H'
  | .ct e' => ∀ σ' H', Go g P ps e σ H e' σ' H' → Dn.ct σ' H'
  | .exc x e' => ∀ cls d σ' H', Go g P ps e σ H e' σ' H' → XRep g H' (Av P e' σ') x cls d → W cls d σ' H'
  | .bad => False
theorem tS_eq {g P ps W} {f : Env → RS} {Dn : Ends} {σ H} : tS g P ps W f Dn σ H ↔ ∃ e, StRel g P ps e σ H ∧ PRS g P ps W e σ H (f e) Dn := by
  constructor
  · rintro ⟨e, s, h⟩
    refine ⟨e, s, ?_⟩
    revert h
    cases f e with
    | rt s e' => cases s <;> exact fun h => h
    | _ => exact fun h => h
  · rintro ⟨e, s, h⟩
    refine ⟨e, s, ?_⟩
    revert h
    cases f e with
    | rt s e' => cases s <;> exact fun h => h
    | _ => exact fun h => h
def sB {α : Type} (x : R α) (f : α → Env → RS) : RS := match x with
  | .ok a e => f a e
  | .exc x e => .exc x e
  | .bad => .bad
@[simp] theorem sB_ok {α : Type} (a : α) (e : Env) (f : α → Env → RS) : sB (.ok a e) f = f a e := rfl
@[simp] theorem sB_exc {α : Type} (x : Xc) (e : Env) (f : α → Env → RS) : sB (.exc x e) f = .exc x e := rfl
@[simp] theorem sB_bad {α : Type} (f : α → Env → RS) : sB .bad f = .bad := rfl
def sO {α : Type} (o : Option α) (f : α → RS) : RS := match o with
  | some a => f a
  | none => .bad
@[simp] theorem sO_some {α : Type} (a : α) (f : α → RS) : sO (some a) f = f a := rfl
@[simp] theorem sO_none {α : Type} (f : α → RS) : sO none f = .bad := rfl
/-- one behind another -/
def sq (r : RS) (f : Env → RS) : RS := match r with
  | .nx e => f e
  | r => r
@[simp] theorem sq_nx (e : Env) (f : Env → RS) : sq (.nx e) f = f e := rfl
@[simp] theorem sq_rt (s : Slot) (e : Env) (f : Env → RS) : sq (.rt s e) f = .rt s e := rfl
@[simp] theorem sq_bk (e : Env) (f : Env → RS) : sq (.bk e) f = .bk e := rfl
@[simp] theorem sq_ct (e : Env) (f : Env → RS) : sq (.ct e) f = .ct e := rfl
@[simp] theorem sq_exc (x : Xc) (e : Env) (f : Env → RS) : sq (.exc x e) f = .exc x e := rfl
@[simp] theorem sq_bad (f : Env → RS) : sq .bad f = .bad := rfl

section
variable {g : G} {P : Addr → Prop} {ps : List (Nat × Addr)} {W : WX} {e e1 : Env} {σ σ1 : L2.St} {H H1 : Hp} {Dn Dn' : Ends}
theorem GoM.pre {a ds e2 σ2 H2} (x : Go g P ps e σ H e1 σ1 H1) (y : GoM g P ps e1 σ1 H1 a ds e2 σ2 H2) : GoM g P ps e σ H a ds e2 σ2 H2 := GoM.trans x y
theorem PRS.shift {r : RS} (h : PRS g P ps W e σ H r Dn) (q : Go g P ps e σ H e1 σ1 H1) : PRS g P ps W e1 σ1 H1 r Dn := by
  cases r with
  | nx e' => exact fun σ' H' z => h _ _ (q.trans z)
  | rt s e' => cases s with
    | v d => exact fun v σ' H' z => h _ _ _ (q.trans z)
    | m ds => exact fun a σ' H' z => h _ _ _ (GoM.pre q z)
  | bk e' => exact fun σ' H' z => h _ _ (q.trans z)
  | ct e' => exact fun σ' H' z => h _ _ (q.trans z)
  | exc x e' => exact fun c d σ' H' z => h _ _ _ _ (q.trans z)
  | bad => exact h
theorem PRS.sB {α : Type} {x : R α} {f : α → Env → RS} (h : PRS g P ps W e σ H (sB x f) Dn) : PR g P ps W e σ H x (fun a e1 H1 => PRS g P ps W e1 σ H1 (f a e1) Dn) := by
  cases x with
  | ok a e' => exact fun H' z => PRS.shift h z
  | exc x e' => exact fun c d H' z r => h c d σ H' z r
  | bad => exact h
theorem PRS.sO {α : Type} {o : Option α} {f : α → RS} (h : PRS g P ps W e σ H (sO o f) Dn) : ∃ a, o = some a ∧ PRS g P ps W e σ H (f a) Dn := by
  cases o with
  | some a => exact ⟨a, rfl, h⟩
  | none => exact h.elim
theorem PRS.sq {r : RS} {f : Env → RS} (h : PRS g P ps W e σ H (sq r f) Dn) : PRS g P ps W e σ H r { Dn with nx := fun σ' H' => tS g P ps W f Dn σ' H' } := by
  cases r with
  | nx e' => exact fun σ' H' z => tS_eq.mpr ⟨e', z.st, PRS.shift h z⟩
  | rt s e' => cases s <;> exact h
  | bk e' => exact h
  | ct e' => exact h
  | exc x e' => exact h
  | bad => exact h
end

structure DS (g : G) (mp : List Nat) (X : Cx) (st : Stmt) (f : Env → RS) : Prop where
  run : ∀ (P : Addr → Prop) (ps : List (Nat × Addr)) (W : WX), ps.map (·.1) = mp → Takes X W → PS X st (tS g P ps W f)
structure DSs (g : G) (mp : List Nat) (X : Cx) (st : List Stmt) (f : Env → RS) : Prop where
  run : ∀ (P : Addr → Prop) (ps : List (Nat × Addr)) (W : WX), ps.map (·.1) = mp → Takes X W → PSs X st (tS g P ps W f)
def sNx : Env → RS := fun e => .nx e
def sSeq (a b : Env → RS) : Env → RS := fun e => sq (a e) b
def sIf (t : Env → R Bool) (a b : Env → RS) : Env → RS := fun e => sB (t e) fun k e1 => if k = true then a e1 else b e1
def sRet (f : Env → R D) : Env → RS := fun e => sB (f e) fun d e1 => .rt (.v d) e1
def sRetM (f : Env → R (List D)) : Env → RS := fun e => sB (f e) fun ds e1 => .rt (.m ds) e1
def sRetN : Env → RS := fun e => .rt (.v .non) e
def sEx (f : Env → R D) : Env → RS := fun e => sB (f e) fun _ e1 => .nx e1
def sBk : Env → RS := fun e => .bk e
def sCt : Env → RS := fun e => .ct e
section
variable {g : G} {mp : List Nat} {X : Cx} {st : Stmt} {sts : List Stmt} {f h : Env → RS} {ex : Expr} {fe : Env → R D} {pos : Pos}
theorem dss_nil : DSs g mp X [] sNx := ⟨fun P ps W hp tk => pss_imp pss_nil fun σ H Q q => by
  obtain ⟨e, s, q⟩ := tS_eq.mp q
  exact q _ _ (Go.refl s)⟩
theorem dss_one (a : DS g mp X st f) : DSs g mp X [st] f := ⟨fun P ps W hp tk => pss_one (a.run P ps W hp tk)⟩
theorem dss_cons (a : DS g mp X st f) (b : DSs g mp X sts h) : DSs g mp X (st :: sts) (sSeq f h) := ⟨fun P ps W hp tk => pss_imp (pss_cons (a.run P ps W hp tk) (b.run P ps W hp tk)) fun σ H Q q => by
  obtain ⟨e, s, q⟩ := tS_eq.mp q
  exact tS_eq.mpr ⟨e, s, q.sq⟩⟩
theorem ds_if {t : Env → R Bool} {a b : List Stmt} (ht : DB g mp X ex t) (ha : DSs g mp X a f) (hb : DSs g mp X b h) : DS g mp X (.If ex a b pos) (sIf t f h) := ⟨fun P ps W hp tk => ps_imp (ps_if (ht.run P ps W hp tk) (ha.run P ps W hp tk) (hb.run P ps W hp tk)) fun σ H Q q => by
  obtain ⟨e, s, q⟩ := tS_eq.mp q
  refine tB_of s (q.sB.mono fun k e1 H1 go1 z => ?_)
  cases k with
  | true => rw [if_pos rfl] at z ⊢; exact tS_eq.mpr ⟨e1, go1.st, z⟩
  | false => rw [if_neg Bool.false_ne_true] at z ⊢; exact tS_eq.mpr ⟨e1, go1.st, z⟩⟩
theorem ds_ret (he : DE g mp X ex fe) : DS g mp X (.Return (some ex) pos) (sRet fe) := ⟨fun P ps W hp tk => ps_imp (ps_ret (he.run P ps W hp tk)) fun σ H Q q => by
  obtain ⟨e, s, q⟩ := tS_eq.mp q
  exact tD_of s (q.sB.mono fun d e1 H1 go1 z v rv => z v _ _ (Go.refl go1.st) rv)⟩
theorem ds_retN : DS g mp X (.Return none pos) sRetN := ⟨fun P ps W hp tk => ps_imp ps_retN fun σ H Q q => by
  obtain ⟨e, s, q⟩ := tS_eq.mp q
  exact q .non _ _ (Go.refl s) rfl⟩
theorem ds_retM {fm : Env → R (List D)} (he : DM g mp X ex fm) : DS g mp X (.Return (some ex) pos) (sRetM fm) := ⟨fun P ps W hp tk => ps_imp (ps_ret (he.run P ps W hp tk)) fun σ H Q q => by
  obtain ⟨e, s, q⟩ := tS_eq.mp q
  refine ⟨e, s, ?_⟩
  unfold sRetM at q
  revert q
  cases fm e with
  | ok ds e1 => exact fun q a H' gm => q a σ H' gm
  | exc x e1 => exact fun q c d H' z r => q c d σ H' z r
  | bad => exact fun q => q⟩
theorem ds_ex (he : DE g mp X ex fe) (hs : swapsWith ex none pos.line X.env = pure false := by rfl) : DS g mp X (.Expr ex pos) (sEx fe) := ⟨fun P ps W hp tk => ps_imp (ps_expr (he.run P ps W hp tk) hs) fun σ H Q q => by
  obtain ⟨e, s, q⟩ := tS_eq.mp q
  exact tD_of s (q.sB.mono fun d e1 H1 go1 z v rv => z _ _ (Go.refl go1.st))⟩
theorem ds_pass : DS g mp X (.Pass pos) sNx := ⟨fun P ps W hp tk => ps_imp ps_pass fun σ H Q q => by
  obtain ⟨e, s, q⟩ := tS_eq.mp q
  exact q _ _ (Go.refl s)⟩
theorem ds_bk : DS g mp X (.Break pos) sBk := ⟨fun P ps W hp tk => ps_imp ps_break fun σ H Q q => by
  obtain ⟨e, s, q⟩ := tS_eq.mp q
  exact q _ _ (Go.refl s)⟩
theorem ds_ct : DS g mp X (.Continue pos) sCt := ⟨fun P ps W hp tk => ps_imp ps_continue fun σ H Q q => by
  obtain ⟨e, s, q⟩ := tS_eq.mp q
  exact q _ _ (Go.refl s)⟩
end

/-! ### names stored -/
section
variable {g : G} {P : Addr → Prop} {ps : List (Nat × Addr)} {e : Env} {σ : L2.St} {H : Hp}
theorem set_get {α : Type} {l : List α} {i j : Nat} {a b : α} (h : (l.set i a)[j]? = some b) : (i = j ∧ a = b ∧ i < l.length) ∨ (i ≠ j ∧ l[j]? = some b) := by
  by_cases hj : i = j
  · subst hj
    by_cases hl : i < l.length
    · rw [List.getElem?_set_self hl] at h
      cases h
      exact .inl ⟨rfl, rfl, hl⟩
    · rw [List.getElem?_eq_none (by rw [List.length_set]; omega)] at h
      cases h
  · rw [List.getElem?_set_ne hj] at h
    exact .inr ⟨hj, h⟩
theorem StRel.setv (s : StRel g P ps e σ H) {i : Nat} {d : D} {v : V} (r : Rep g H (Av P e σ) d v) (hi : i ∉ ps.map (·.1)) : Go g P ps e σ H (e.set i (some (.v d))) (σ.set i (some v)) H := by
  have sub : ∀ b, isM (e.set i (some (.v d))) (σ.set i (some v)) b → isM e σ b := by
    rintro b ⟨j, es, q1, q2⟩
    rcases set_get q1 with ⟨_, z, _⟩ | ⟨hj, q1⟩
    · cases z
    · rw [List.getElem?_set_ne hj] at q2
      exact ⟨j, es, q1, q2⟩
  have subA : ∀ b, Av P (e.set i (some (.v d))) (σ.set i (some v)) b → Av P e σ b := fun b z => z.elim .inl fun z => .inr (sub b z)
  refine ⟨⟨by rw [List.length_set, List.length_set]; exact s.len, fun j d' q => ?_, fun j es q => ?_, fun j l b es fs q1 q2 r1 r2 => ?_, s.prv, fun p hp => ?_, s.tb⟩, fun b o q n => ⟨q, fun z => n.1 (subA b z)⟩, fun _ _ => rfl⟩
  · rcases set_get q with ⟨rfl, z, hl⟩ | ⟨hj, q⟩
    · cases z
      exact ⟨v, by rw [List.getElem?_set_self (by rw [← s.len]; exact hl)], Rep.mono subA r⟩
    · obtain ⟨v', h1, h2⟩ := s.vv j d' q
      exact ⟨v', by rw [List.getElem?_set_ne hj]; exact h1, Rep.mono subA h2⟩
  · rcases set_get q with ⟨rfl, z, hl⟩ | ⟨hj, q⟩
    · cases z
    · obtain ⟨b, us, h1, h2, h3, h4⟩ := s.mm j es q
      exact ⟨b, us, by rw [List.getElem?_set_ne hj]; exact h1, h2, RepL.mono subA h3, h4⟩
  · rcases set_get q1 with ⟨_, z, _⟩ | ⟨hj, q1⟩
    · cases z
    rcases set_get q2 with ⟨_, z, _⟩ | ⟨hl, q2⟩
    · cases z
    rw [List.getElem?_set_ne hj] at r1
    rw [List.getElem?_set_ne hl] at r2
    exact s.inj j l b es fs q1 q2 r1 r2
  · obtain ⟨h1, ds, h2⟩ := s.par p hp
    have hj : i ≠ p.1 := fun z => hi (by rw [z]; exact List.mem_map_of_mem hp)
    exact ⟨by rw [List.getElem?_set_ne hj]; exact h1, ds, by rw [List.getElem?_set_ne hj]; exact h2⟩
/-- a new list of one's own is stored -/
theorem GoM.setm {e0 σ0 H0 a ds} (x : GoM g P ps e0 σ0 H0 a ds e σ H) {i : Nat} (hl : i < σ.length) (hi : i ∉ ps.map (·.1)) : Go g P ps e0 σ0 H0 (e.set i (some (.m ds))) (σ.set i (some (.ref a))) H := by
  have s := x.st
  have sub : ∀ b, isM (e.set i (some (.m ds))) (σ.set i (some (.ref a))) b → isM e σ b ∨ b = a := by
    rintro b ⟨j, es, q1, q2⟩
    rcases set_get q1 with ⟨rfl, z, _⟩ | ⟨hj, q1⟩
    · rw [List.getElem?_set_self hl] at q2
      cases q2
      exact .inr rfl
    · rw [List.getElem?_set_ne hj] at q2
      exact .inl ⟨j, es, q1, q2⟩
  have subA : ∀ b, Av P (e.set i (some (.m ds))) (σ.set i (some (.ref a))) b → Av (Pl P a) e σ b := fun b z => z.elim (fun z => .inl (.inl z)) fun z => (sub b z).elim .inr fun z => .inl (.inr z)
  refine ⟨⟨by rw [List.length_set, List.length_set]; exact s.len, fun j d' q => ?_, fun j es q => ?_, fun j l b es fs q1 q2 r1 r2 => ?_, fun b q => s.prv b (.inl q), fun p hp => ?_, s.tb⟩, fun b o q n => ⟨(x.kp b o q n).1, fun z => (x.kp b o q n).2 (subA b z)⟩, x.pr⟩
  · rcases set_get q with ⟨_, z, _⟩ | ⟨hj, q⟩
    · cases z
    · obtain ⟨v', h1, h2⟩ := s.vv j d' q
      exact ⟨v', by rw [List.getElem?_set_ne hj]; exact h1, Rep.mono subA h2⟩
  · rcases set_get q with ⟨rfl, z, _⟩ | ⟨hj, q⟩
    · cases z
      obtain ⟨vs, h1, h2⟩ := x.at_
      exact ⟨a, vs, by rw [List.getElem?_set_self hl], h1, RepL.mono subA h2, x.np⟩
    · obtain ⟨b, us, h1, h2, h3, h4⟩ := s.mm j es q
      exact ⟨b, us, by rw [List.getElem?_set_ne hj]; exact h1, h2, RepL.mono subA h3, fun z => h4 (.inl z)⟩
  · have key : ∀ (j : Nat) (es : List D), i ≠ j → e[j]? = some (some (.m es)) → σ[j]? = some (some (.ref a)) → False := fun j es hj q r => by
      obtain ⟨b, us, h1, _, _, h4⟩ := s.mm j es q
      rw [r] at h1
      cases h1
      exact h4 (.inr rfl)
    rcases set_get q1 with ⟨rfl, z, _⟩ | ⟨hj, q1⟩
    · rw [List.getElem?_set_self hl] at r1
      cases r1
      rcases set_get q2 with ⟨z2, _, _⟩ | ⟨hl2, q2⟩
      · exact z2
      · rw [List.getElem?_set_ne hl2] at r2
        exact (key l fs hl2 q2 r2).elim
    · rw [List.getElem?_set_ne hj] at r1
      rcases set_get q2 with ⟨rfl, z, _⟩ | ⟨hl2, q2⟩
      · rw [List.getElem?_set_self hl] at r2
        cases r2
        exact (key j es hj q1 r1).elim
      · rw [List.getElem?_set_ne hl2] at r2
        exact s.inj j l b es fs q1 q2 r1 r2
  · obtain ⟨h1, es, h2⟩ := s.par p hp
    have hj : i ≠ p.1 := fun z => hi (by rw [z]; exact List.mem_map_of_mem hp)
    exact ⟨by rw [List.getElem?_set_ne hj]; exact h1, es, by rw [List.getElem?_set_ne hj]; exact h2⟩
/-- a list of one's own is changed -/
theorem StRel.updm (s : StRel g P ps e σ H) {i : Nat} {a : Addr} {ds es : List D} {us : List V} (q : e[i]? = some (some (.m ds))) (hσ : σ[i]? = some (some (.ref a))) (r : RepL g H (Av P e σ) es us) : Go g P ps e σ H (e.set i (some (.m es))) σ (upd H a (.lst us)) := by
  obtain ⟨a', vs, h1, h2, h3, h4⟩ := s.mm i ds q
  rw [hσ] at h1
  cases h1
  have hl : i < e.length := by
    cases Nat.lt_or_ge i e.length with
    | inl h => exact h
    | inr h => rw [List.getElem?_eq_none h] at q; cases q
  have same : ∀ b, isM (e.set i (some (.m es))) σ b ↔ isM e σ b := by
    intro b
    constructor
    · rintro ⟨j, fs, q1, q2⟩
      rcases set_get q1 with ⟨rfl, z, _⟩ | ⟨hj, q1⟩
      · exact ⟨i, ds, q, q2⟩
      · exact ⟨j, fs, q1, q2⟩
    · rintro ⟨j, fs, q1, q2⟩
      by_cases hj : i = j
      · subst hj
        exact ⟨i, es, List.getElem?_set_self hl, q2⟩
      · exact ⟨j, fs, by rw [List.getElem?_set_ne hj]; exact q1, q2⟩
  have sameA : ∀ b, Av P (e.set i (some (.m es))) σ b → Av P e σ b := fun b z => z.elim .inl fun z => .inr ((same b).mp z)
  have ha : isM e σ a := ⟨i, ds, q, hσ⟩
  have k : Kp (Av P e σ) H (Av P (e.set i (some (.m es))) σ) (upd H a (.lst us)) := fun b o z n => by
    have nb : b ≠ a := fun w => n.1 (by rw [w]; exact .inr ha)
    exact ⟨by rw [upd_ne nb]; exact z, fun w => n.1 (sameA b w)⟩
  have pr : ∀ b, P b → upd H a (.lst us) b = H b := fun b z => upd_ne fun w => h4 (by rw [← w]; exact z)
  refine ⟨⟨by rw [List.length_set]; exact s.len, fun j d' z => ?_, fun j fs z => ?_, fun j l b fs gs q1 q2 r1 r2 => ?_, fun b z => by rw [pr b z]; exact s.prv b z, fun p hp => ?_, tabs_upd s.tb h2⟩, k, pr⟩
  · rcases set_get z with ⟨_, w, _⟩ | ⟨hj, z⟩
    · cases w
    · obtain ⟨v', z1, z2⟩ := s.vv j d' z
      exact ⟨v', z1, Rep.kp k _ _ z2⟩
  · rcases set_get z with ⟨rfl, w, _⟩ | ⟨hj, z⟩
    · cases w
      exact ⟨a, us, hσ, upd_same, RepL.kp k _ _ r, h4⟩
    · obtain ⟨b, ws, z1, z2, z3, z4⟩ := s.mm j fs z
      have nb : b ≠ a := fun w => hj (s.inj i j a ds fs q z hσ (by rw [← w]; exact z1))
      exact ⟨b, ws, z1, by rw [upd_ne nb]; exact z2, RepL.kp k _ _ z3, z4⟩
  · have o : ∀ (j : Nat) (fs : List D), (e.set i (some (.m es)))[j]? = some (some (.m fs)) → ∃ fs', e[j]? = some (some (.m fs')) := fun j fs z => by
      rcases set_get z with ⟨rfl, w, _⟩ | ⟨hj, z⟩
      · exact ⟨ds, q⟩
      · exact ⟨fs, z⟩
    obtain ⟨fs', z1⟩ := o j fs q1
    obtain ⟨gs', z2⟩ := o l gs q2
    exact s.inj j l b fs' gs' z1 z2 r1 r2
  · obtain ⟨z1, fs, z2⟩ := s.par p hp
    refine ⟨z1, ?_⟩
    by_cases hj : i = p.1
    · exact ⟨es, by rw [← hj]; exact List.getElem?_set_self hl⟩
    · exact ⟨fs, by rw [List.getElem?_set_ne hj]; exact z2⟩
end

/-! ### targets -/
/-- but for these places the slots are as they were -/
def Only1 (sl : List Nat) (σ σ' : L2.St) : Prop := σ'.length = σ.length ∧ ∀ j, j ∉ sl → σ'[j]? = σ[j]?
theorem Only1.refl (sl : List Nat) (σ : L2.St) : Only1 sl σ σ := ⟨rfl, fun _ _ => rfl⟩
theorem Only1.trans {sl : List Nat} {σ σ1 σ2 : L2.St} (a : Only1 sl σ σ1) (b : Only1 sl σ1 σ2) : Only1 sl σ σ2 := ⟨b.1.trans a.1, fun j h => (b.2 j h).trans (a.2 j h)⟩
theorem Only1.mono {sl sl' : List Nat} {σ σ1 : L2.St} (a : Only1 sl σ σ1) (h : ∀ j ∈ sl, j ∈ sl') : Only1 sl' σ σ1 := ⟨a.1, fun j z => a.2 j fun w => z (h j w)⟩
def tG (g : G) (P : Addr → Prop) (ps : List (Nat × Addr)) (sl : List Nat) (t : D → Env → Option Env) : TG := fun v σ H Q => ∃ e d, StRel g P ps e σ H ∧ Rep g H (Av P e σ) d v ∧ ∃ e', t d e = some e' ∧ ∀ σ' H', Go g P ps e σ H e' σ' H' → Only1 sl σ σ' → Q σ' H'
def tGs (g : G) (P : Addr → Prop) (ps : List (Nat × Addr)) (sl : List Nat) (t : List D → Env → Option Env) : TGs := fun vs σ H Q => ∃ e ds, StRel g P ps e σ H ∧ RepL g H (Av P e σ) ds vs ∧ ∃ e', t ds e = some e' ∧ ∀ σ' H', Go g P ps e σ H e' σ' H' → Only1 sl σ σ' → Q σ' H'
structure DG (g : G) (mp : List Nat) (X : Cx) (tg : Expr) (sl : List Nat) (t : D → Env → Option Env) : Prop where
  run : ∀ (P : Addr → Prop) (ps : List (Nat × Addr)), ps.map (·.1) = mp → PG X tg (tG g P ps sl t)
structure DGs (g : G) (mp : List Nat) (X : Cx) (tg : List Expr) (sl : List Nat) (t : List D → Env → Option Env) : Prop where
  run : ∀ (P : Addr → Prop) (ps : List (Nat × Addr)), ps.map (·.1) = mp → PGs X tg (tGs g P ps sl t)
theorem pg_imp {X : Cx} {tg : Expr} {t t' : TG} (h : PG X tg t) (m : ∀ v σ H Q, t' v σ H Q → t v σ H Q) : PG X tg t' := ⟨fun pins s σ H v u Q I r q => h.run pins s σ H v u Q I r (m v σ H Q q)⟩
theorem pgs_imp {X : Cx} {tg : List Expr} {t t' : TGs} (h : PGs X tg t) (m : ∀ v σ H Q, t' v σ H Q → t v σ H Q) : PGs X tg t' := ⟨fun pins s σ H v u Q I r q => h.run pins s σ H v u Q I r (m v σ H Q q)⟩
def gtN (i : Nat) : D → Env → Option Env := fun d e => some (e.set i (some (.v d)))
def gtNil : List D → Env → Option Env := fun ds e => if ds.isEmpty then some e else none
def gtCons (t : D → Env → Option Env) (u : List D → Env → Option Env) : List D → Env → Option Env := fun ds e => match ds with
  | d :: r => (t d e).bind (u r)
  | [] => none
def gtTup (n : Nat) (t : List D → Env → Option Env) : D → Env → Option Env := fun d e => match d with
  | .tup ds => if ds.length = n then t ds e else none
  | _ => none
def sAsg (fe : Env → R D) (t : D → Env → Option Env) : Env → RS := fun e => sB (fe e) fun d e1 => sO (t d e1) fun e2 => .nx e2
section
variable {g : G} {mp : List Nat} {X : Cx} {x : Str} {pos : Pos} {tg : Expr} {tgs : List Expr}
theorem dg_name (i : Nat) (hN : X.N.Nodup) (hm : i ∉ mp := by decide) (hi : X.N[i]? = some x := by rfl) (hx : Loc X.env.scope x := by first | exact Or.inl rfl | exact Or.inr rfl) (hf : X.fn x = true ∨ X.env.scope.names.lookup x = some .local := by first | exact .inl rfl | exact .inr rfl | assumption) : DG g mp X (.Name x pos) [i] (gtN i) :=
  ⟨fun P ps hp => pg_imp (pg_name hN hi hx hf) fun v σ H Q ⟨e, d, s, r, e', q, k⟩ => by
    cases q
    exact k _ _ (s.setv r (by rw [hp]; exact hm)) ⟨List.length_set, fun j z => List.getElem?_set_ne fun w => z (by rw [w]; exact List.mem_singleton.mpr rfl)⟩⟩
theorem dgs_nil : DGs g mp X [] [] gtNil := ⟨fun P ps hp => pgs_imp pgs_nil fun vs σ H Q ⟨e, ds, s, r, e', q, k⟩ => by
  unfold gtNil at q
  cases ds with
  | nil => cases q; exact ⟨r, k _ _ (Go.refl s) (Only1.refl _ _)⟩
  | cons d ds => cases q⟩
theorem dgs_cons {sl sl2 : List Nat} {t : D → Env → Option Env} {u : List D → Env → Option Env} (a : DG g mp X tg sl t) (b : DGs g mp X tgs sl2 u) (hs : (assignEach (tg :: tgs) X.env).map (·.2) = assign tg X.env :: (assignEach tgs X.env).map (·.2) := by rfl) : DGs g mp X (tg :: tgs) (sl ++ sl2) (gtCons t u) :=
  ⟨fun P ps hp => pgs_imp (pgs_cons (a.run P ps hp) (b.run P ps hp) hs) fun vs σ H Q ⟨e, ds, s, r, e', q, k⟩ => by
    unfold gtCons at q
    cases ds with
    | nil => cases q
    | cons d ds =>
      obtain ⟨v, rr, rfl, r1, r2⟩ := r
      have q : (t d e).bind (u ds) = some e' := q
      cases z : t d e with
      | none => rw [z] at q; cases q
      | some e1 =>
        rw [z] at q
        refine ⟨v, rr, rfl, e, d, s, r1, e1, z, fun σ1 H1 go1 o1 => ⟨e1, ds, go1.st, RepL.kp go1.kp _ _ r2, e', q, fun σ' H' go2 o2 => k _ _ (go1.trans go2) ((o1.mono fun j z => List.mem_append_left _ z).trans (o2.mono fun j z => List.mem_append_right _ z))⟩⟩⟩
theorem dg_tup {sl : List Nat} {t : List D → Env → Option Env} {n : Nat} {k : Nat} (hK : X.K = g.K) (hc : X.calm = true) (h : DGs g mp X tgs sl t) (hn : (assignEach tgs X.env).length = n := by rfl) (hst : (assignEach tgs X.env).findIdx? (·.1) = none := by rfl) : DG g mp X (.Tuple tgs k pos) sl (gtTup n t) :=
  ⟨fun P ps hp => pg_imp (pg_tup hc (h.run P ps hp) hn hst) fun v σ H Q ⟨e, d, s, r, e', q, kk⟩ => by
    cases d <;> first | (cases q; done) | skip
    rename_i ds
    obtain ⟨a, vs, rfl, hq, rr⟩ := r
    have q : (if ds.length = n then t ds e else none) = some e' := q
    split at q
    · rename_i hl
      exact ⟨a, vs, rfl, by rw [hK]; exact hq.sq, by rw [← rr.length]; exact hl, e, ds, s, rr, e', q, kk⟩
    · cases q⟩
theorem ds_asg {sl : List Nat} {ex : Expr} {fe : Env → R D} {t : D → Env → Option Env} (he : DE g mp X ex fe) (hg : DG g mp X tg sl t) (hs : swapsWithSole [tg] ex pos.line X.env = pure false := by rfl) (hw : swappedStores [tg] ex X.env = pure none := by rfl)
    (h1 : (assignEach [tg] X.env).map (·.2) = [assign tg X.env] := by rfl) : DS g mp X (.Assign [tg] ex pos) (sAsg fe t) :=
  ⟨fun P ps W hp tk => ps_imp (ps_asg (he.run P ps W hp tk) (hg.run P ps hp) hs hw h1) fun σ H Q q => by
    obtain ⟨e, s, q⟩ := tS_eq.mp q
    refine tD_of s (q.sB.mono fun d e1 H1 go1 z v rv => ?_)
    obtain ⟨e2, y, z⟩ := z.sO
    exact ⟨e1, d, go1.st, rv, e2, y, fun σ' H' go2 _ => z _ _ go2⟩⟩
/-- x = a new list of one's own -/
def sAsgM (i : Nat) (fm : Env → R (List D)) : Env → RS := fun e => sB (fm e) fun ds e1 => .nx (e1.set i (some (.m ds)))
theorem ds_asgM (i : Nat) {pos' : Pos} {ex : Expr} {fm : Env → R (List D)} (hN : X.N.Nodup) (he : DM g mp X ex fm) (hm : i ∉ mp := by decide) (hi : X.N[i]? = some x := by rfl) (hx : Loc X.env.scope x := by first | exact Or.inl rfl | exact Or.inr rfl)
    (hs : swapsWith ex (some (.Name x pos')) pos.line X.env = pure false := by rfl) (hf : X.fn x = true ∨ X.env.scope.names.lookup x = some .local := by first | exact .inl rfl | exact .inr rfl | assumption) : DS g mp X (.Assign [.Name x pos'] ex pos) (sAsgM i fm) :=
  ⟨fun P ps W hp tk => ⟨fun pins s0 σ H Dn I q => (ps_set hN hi hx (he.run P ps W hp tk) hs hf).run pins s0 σ H Dn I (by
    obtain ⟨e, s, q⟩ := tS_eq.mp q
    have hl : i < σ.length := by
      rw [I.len]
      exact (List.getElem?_eq_some_iff.mp hi).1
    refine ⟨e, s, ?_⟩
    unfold sAsgM at q
    revert q
    cases fm e with
    | ok ds e1 => exact fun q a H' gm => q _ _ (gm.setm hl (by rw [hp]; exact hm))
    | exc x e1 => exact fun q c d H' z r => q c d σ H' z r
    | bad => exact fun q => q)⟩⟩
end
end DL
end

section
set_option Elab.async false
set_option linter.all false
set_option maxRecDepth 100000
set_option maxHeartbeats 4000000
namespace DL
open PySem PySem.Spec PyProof.Rows L2

/-! ### a list of one's own, read and changed by its name -/
/-- the items of the list that slot i holds -/
def mAt (e : Env) (i : Nat) : Option (List D) := match e[i]? with
  | some (some (.m ds)) => some ds
  | _ => none
theorem mAt_some {e : Env} {i : Nat} {ds : List D} (h : mAt e i = some ds) : e[i]? = some (some (.m ds)) := by
  unfold mAt at h
  split at h
  · cases h; assumption
  · cases h
def dIxM (i : Nat) (fi : Env → R D) : Env → R D := fun e => bnd (opt (mAt e i) e) fun _ e => bnd (fi e) fun k e1 => bnd (opt (mAt e1 i) e1) fun ds e1 => opt (ixD (.lst ds) k) e1
def dLenM (i : Nat) : Env → R D := fun e => bnd (opt (mAt e i) e) fun ds e => .ok (.int ds.length) e
def dTupM (i : Nat) : Env → R D := fun e => bnd (opt (mAt e i) e) fun ds e => .ok (.tup ds) e
def sSetM (i : Nat) (fi fv : Env → R D) : Env → RS := fun e => sB (fv e) fun d e1 => sB (opt (mAt e1 i) e1) fun _ e1 => sB (fi e1) fun k e2 => sB (opt (mAt e2 i) e2) fun ds e2 => match k with
  | .int n => sO (ixN ds.length n) fun j => .nx (e2.set i (some (.m (ds.set j d))))
  | _ => .bad
def sApp (i : Nat) (fv : Env → R D) : Env → RS := fun e => sB (opt (mAt e i) e) fun _ e => sB (fv e) fun d e1 => sB (opt (mAt e1 i) e1) fun ds e1 => if ds.length < 16777216 then .nx (e1.set i (some (.m (ds ++ [d])))) else .bad
section
variable {g : G} {mp : List Nat} {X : Cx} {x : Str} {pos : Pos} {a b : Expr} {fa fb : Env → R D}
theorem PR.optM {P ps W e σ H} {α β : Type} {o : Option α} {f : α → Env → R β} {k : β → Env → Hp → Prop} (s : StRel g P ps e σ H) (h : PR g P ps W e σ H (DL.bnd (DL.opt o e) f) k) : ∃ d, o = some d ∧ PR g P ps W e σ H (f d e) k := by
  obtain ⟨d, q, h⟩ := PR.opt h.bnd
  exact ⟨d, q, h _ (Go.refl s)⟩
theorem PRS.optM {P ps W e σ H} {α : Type} {o : Option α} {f : α → Env → RS} {Dn : Ends} (s : StRel g P ps e σ H) (h : PRS g P ps W e σ H (DL.sB (DL.opt o e) f) Dn) : ∃ d, o = some d ∧ PRS g P ps W e σ H (f d e) Dn := by
  obtain ⟨d, q, h⟩ := PR.opt h.sB
  exact ⟨d, q, h _ (Go.refl s)⟩
theorem de_ixM (i : Nat) (hb : DE g mp X b fb) (hs : PlainIx b := by exact fun _ _ => rfl) (hN : X.N[i]? = some x := by rfl) (hv : Vis X.env.scope x := by first | exact Or.inl rfl | exact Or.inr (Or.inl rfl) | exact Or.inr (Or.inr rfl)) (hd : (x == ("__debug__" : Str)) = false := by decide)
    (hcd : (x == ("__classdict__" : Str)) = false := by decide) {p : Pos} : DE g mp X (.Subscript (.Name x p) b pos) (dIxM i fb) :=
  ⟨fun P ps W hp tk => pe_imp (pe_ix ix_list (pe_var hN hv hd hcd) (hb.run P ps W hp tk) hs) fun σ H Q h => by
    obtain ⟨e, s, h⟩ := tD_eq.mp h
    obtain ⟨ds0, q0, h⟩ := PR.optM s h
    obtain ⟨a, vs0, hσ, _⟩ := s.mm i ds0 (mAt_some q0)
    refine ⟨.ref a, hσ, tD_of s (h.bnd.mono fun k e1 H1 go1 z v rv => ?_)⟩
    obtain ⟨ds, q1, z⟩ := PR.optM go1.st z
    obtain ⟨a', vs, hσ', hH, hr, _⟩ := go1.st.mm i ds (mAt_some q1)
    rw [hσ] at hσ'
    cases hσ'
    obtain ⟨d, q2, z2⟩ := PR.opt z
    clear z h
    cases k <;> first | (cases q2; done) | skip
    obtain ⟨w, hw, rw'⟩ := hr.atI q2
    exact ⟨a, vs, _, w, rfl, rv, .inl (.inl hH), hw, z2 _ (Go.refl go1.st) _ rw'⟩⟩
theorem de_lenM (i : Nat) (hg : Gl X "len") (hm : X.mg "len" = none) (hN : X.N[i]? = some x := by rfl) (hv : Vis X.env.scope x := by first | exact Or.inl rfl | exact Or.inr (Or.inl rfl) | exact Or.inr (Or.inr rfl)) (hd : (x == ("__debug__" : Str)) = false := by decide)
    (hcd : (x == ("__classdict__" : Str)) = false := by decide) {p p2 : Pos} : DE g mp X (.Call (.Name "len" p) [.Name x p2] [] pos) (dLenM i) :=
  ⟨fun P ps W hp tk => pe_imp (pe_callB call_len hg hm PySem.boot_len (pa_cons (pe_var hN hv hd hcd) pa_nil)) fun σ H Q h => by
    obtain ⟨e, s, h⟩ := tD_eq.mp h
    obtain ⟨ds, q0, h⟩ := PR.optM s h
    obtain ⟨a, vs, hσ, hH, hr, _⟩ := s.mm i ds (mAt_some q0)
    exact ⟨.ref a, hσ, _, ds.length, rfl, .inl ⟨vs, .inl (.inl hH), by rw [hr.length]⟩, h _ (Go.refl s) _ rfl⟩⟩
theorem de_tupM (i : Nat) (hg : Gl X "tuple") (hm : X.mg "tuple" = none) (hN : X.N[i]? = some x := by rfl) (hv : Vis X.env.scope x := by first | exact Or.inl rfl | exact Or.inr (Or.inl rfl) | exact Or.inr (Or.inr rfl)) (hd : (x == ("__debug__" : Str)) = false := by decide)
    (hcd : (x == ("__classdict__" : Str)) = false := by decide) {p p2 : Pos} : DE g mp X (.Call (.Name "tuple" p) [.Name x p2] [] pos) (dTupM i) :=
  ⟨fun P ps W hp tk => pe_imp (pe_callTy call_tuple_of hg hm boot_tuple (pa_cons (pe_var hN hv hd hcd) pa_nil)) fun σ H Q h => by
    obtain ⟨e, s, h⟩ := tD_eq.mp h
    obtain ⟨ds, q0, h⟩ := PR.optM s h
    obtain ⟨a, vs, hσ, hH, hr, _⟩ := s.mm i ds (mAt_some q0)
    exact ⟨.ref a, hσ, a, vs, rfl, .inl ⟨.inl (.inl hH), fun l hl => h _ (Go.new s hl) _ (rep_tup (s.fresh hl) hl hr)⟩⟩⟩
theorem ds_setM (i : Nat) {ex : Expr} {fv : Env → R D} (hb : DE g mp X b fb) (he : DE g mp X ex fv) (hN : X.N[i]? = some x := by rfl) (hv : Vis X.env.scope x := by first | exact Or.inl rfl | exact Or.inr (Or.inl rfl) | exact Or.inr (Or.inr rfl)) (hd : (x == ("__debug__" : Str)) = false := by decide)
    (hcd : (x == ("__classdict__" : Str)) = false := by decide) {p p2 : Pos} (ha : ∀ v, assign (.Subscript (.Name x p) b p2) X.env v = (do
      let ov ← holding [v] (eval (.Name x p) X.env)
      let iv ← holding [v, ov] (eval b X.env)
      standAt p2
      holding [v, ov, iv] (setItem ov iv v)
      release [v, ov, iv] []) := by intro _; rfl) (hs : swapsWithSole [.Subscript (.Name x p) b p2] ex pos.line X.env = pure false := by rfl) (hw : swappedStores [.Subscript (.Name x p) b p2] ex X.env = pure none := by rfl)
    (h1 : (assignEach [.Subscript (.Name x p) b p2] X.env).map (·.2) = [assign (.Subscript (.Name x p) b p2) X.env] := by rfl) : DS g mp X (.Assign [.Subscript (.Name x p) b p2] ex pos) (sSetM i fb fv) :=
  ⟨fun P ps W hp tk => ps_imp (ps_asg (he.run P ps W hp tk) (pg_sub (pe_var hN hv hd hcd) (hb.run P ps W hp tk) set_list ha) hs hw h1) fun σ H Q q => by
    obtain ⟨e, s, q⟩ := tS_eq.mp q
    refine tD_of s (q.sB.mono fun d e1 H1 go1 z v rv => ?_)
    obtain ⟨ds0, q0, z⟩ := PRS.optM go1.st z
    obtain ⟨a, vs0, hσ, _⟩ := go1.st.mm i ds0 (mAt_some q0)
    refine ⟨.ref a, hσ, tD_of go1.st (z.sB.mono fun k e2 H2 go2 z u ru => ?_)⟩
    obtain ⟨ds, q1, z⟩ := PRS.optM go2.st z
    obtain ⟨a', vs, hσ', hH, hr, _⟩ := go2.st.mm i ds (mAt_some q1)
    rw [hσ] at hσ'
    cases hσ'
    cases k <;> first | exact z.elim | skip
    obtain ⟨j, q2, z2⟩ := PRS.sO z
    exact ⟨a, vs, _, j, rfl, ru, hH, by rw [← hr.length]; exact q2, z2 _ _ (go2.st.updm (mAt_some q1) hσ (hr.set j (Rep.kp go2.kp _ _ rv)))⟩⟩
theorem ds_app (i : Nat) {ex : Expr} {fv : Env → R D} {p apos cpos : Pos} (he : DE g mp X ex fv) (hN : X.N[i]? = some x := by rfl) (hv : Vis X.env.scope x := by first | exact Or.inl rfl | exact Or.inr (Or.inl rfl) | exact Or.inr (Or.inr rfl)) (hd : (x == ("__debug__" : Str)) = false := by decide)
    (hcd : (x == ("__classdict__" : Str)) = false := by decide) (hbase : attributeBase (.Name x p) "append" X.env (eval (.Name x p) X.env) = eval (.Name x p) X.env := by rfl)
    (hfew : ((backTo cpos (starEach (ex :: []) X.env)).all (fun x => !x.1) && (backToKw cpos (keywordEach [] X.env)).all (fun x => x.1.isSome)
      && decide ((ex :: []).length + ([] : List Keyword).length + (if ([] : List Keyword).isEmpty then 0 else 1) < 30)) = true := by rfl)
    (hline : (apos.endLine == cpos.line) = true := by rfl) (hst : starEach (ex :: []) X.env = (false, eval ex X.env) :: starEach [] X.env := by rfl) (hplain : (backTo cpos (starEach [] X.env)).any (·.1) = false := by rfl)
    (hs : swapsWith (.Call (.Attribute (.Name x p) "append" apos) [ex] [] cpos) none pos.line X.env = pure false := by rfl) : DS g mp X (.Expr (.Call (.Attribute (.Name x p) "append" apos) [ex] [] cpos) pos) (sApp i fv) :=
  ⟨fun P ps W hp tk => ps_imp (ps_expr (pe_bm PySem.F.plainAttrs_list PySem.F.slot_list_append PySem.F.type_list_append mt_append (pe_var hN hv hd hcd) (pa_cons (he.run P ps W hp tk) pa_nil hst) hbase hfew hline hst hplain) hs) fun σ H Q q => by
    obtain ⟨e, s, q⟩ := tS_eq.mp q
    obtain ⟨ds0, q0, z⟩ := PRS.optM s q
    obtain ⟨a, vs0, hσ, hH0, _⟩ := s.mm i ds0 (mAt_some q0)
    refine ⟨.ref a, hσ, .inl ⟨rfl, _, .inl (.inl hH0)⟩, tD_of s (z.sB.mono fun d e1 H1 go1 z v rv => ?_)⟩
    obtain ⟨ds, q1, z⟩ := PRS.optM go1.st z
    obtain ⟨a', vs, hσ', hH, hr, _⟩ := go1.st.mm i ds (mAt_some q1)
    rw [hσ] at hσ'
    cases hσ'
    by_cases hl : ds.length < 16777216
    · rw [if_pos hl] at z
      exact ⟨a, vs, v, rfl, rfl, hH, by rw [sizeLine_eq, ← hr.length]; exact hl, z _ _ (go1.st.updm (mAt_some q1) hσ (hr.append ⟨v, [], rfl, rv, rfl⟩))⟩
    · rw [if_neg hl] at z
      exact z.elim⟩
end

/-! ### new lists -/
/-- list(x) of a list or a tuple -/
def mList (f : Env → R D) : Env → R (List D) := fun e => bnd (f e) fun d e1 => match d with
  | .tup ds => .ok ds e1
  | .lst ds => .ok ds e1
  | _ => .bad
/-- the places of a slice -/
def cutD {α : Type} (xs : List α) (lo hi : Option Int) : List α := (xs.drop (HT.sIx xs.length 0 lo)).take (HT.sIx xs.length xs.length hi - HT.sIx xs.length 0 lo)
theorem RepL.cut {g : G} {H : Hp} {A : Addr → Prop} {ds : List D} {vs : List V} (r : RepL g H A ds vs) (lo hi : Option Int) : RepL g H A (cutD ds lo hi) (cutV vs lo hi) := by
  unfold cutD cutV
  rw [← r.length]
  exact (r.drop _).take _
def asI : D → Option Int
  | .int i => some i
  | _ => none
def pNo : Env → R (Option Int) := fun e => .ok none e
def pSome (f : Env → R D) : Env → R (Option Int) := fun e => bnd (f e) fun d e1 => bnd (opt (asI d) e1) fun i e1 => .ok (some i) e1
def tPO (g : G) (P : Addr → Prop) (ps : List (Nat × Addr)) (W : WX) (f : Env → R (Option Int)) : TO := fun σ H Q => ∃ e, StRel g P ps e σ H ∧ PR g P ps W e σ H (f e) (fun o e' H' => Q o H')
structure DO (g : G) (mp : List Nat) (X : Cx) (ex : Option Expr) (f : Env → R (Option Int)) : Prop where
  run : ∀ (P : Addr → Prop) (ps : List (Nat × Addr)) (W : WX), ps.map (·.1) = mp → Takes X W → PO X ex (tPO g P ps W f)
theorem po_imp {X : Cx} {ex : Option Expr} {t t' : TO} (h : PO X ex t) (m : ∀ σ H Q, t' σ H Q → t σ H Q) : PO X ex t' := ⟨fun pins s σ H Q I q => h.run pins s σ H Q I (m σ H Q q)⟩
/-- t[lo:hi] of a tuple -/
def dSlT (f : Env → R D) (lo hi : Env → R (Option Int)) : Env → R D := fun e => bnd (f e) fun d e1 => bnd (lo e1) fun l e2 => bnd (hi e2) fun h e3 => match d with
  | .tup ds => .ok (.tup (cutD ds l h)) e3
  | _ => .bad
/-- xs[lo:hi] of a list: a new one -/
def mSlL (f : Env → R D) (lo hi : Env → R (Option Int)) : Env → R (List D) := fun e => bnd (f e) fun d e1 => bnd (lo e1) fun l e2 => bnd (hi e2) fun h e3 => match d with
  | .lst ds => .ok (cutD ds l h) e3
  | _ => .bad
/-- xs + ys of lists -/
def mCat (fa fb : Env → R D) : Env → R (List D) := fun e => bnd (fa e) fun a e1 => bnd (fb e1) fun b e2 => match a, b with
  | .lst xs, .lst ys => if xs.length + ys.length ≤ 16777216 then .ok (xs ++ ys) e2 else .bad
  | _, _ => .bad
theorem HT_sIx_take {α : Type} (xs : List α) (lo hi : Option Int) (h : HT.sIx xs.length 0 lo = 0 ∧ HT.sIx xs.length xs.length hi = xs.length) : cutD xs lo hi = xs := by
  unfold cutD
  rw [h.1, h.2]
  simp
section
variable {g : G} {mp : List Nat} {X : Cx} {x : Str} {pos p2 : Pos} {a b : Expr} {fa fb : Env → R D} {lo hi : Option Expr} {fl fh : Env → R (Option Int)}
theorem do_none : DO g mp X none pNo := ⟨fun P ps W hp tk => po_imp po_none fun σ H Q ⟨e, s, h⟩ => h _ (Go.refl s)⟩
theorem do_some (ha : DE g mp X a fa) : DO g mp X (some a) (pSome fa) := ⟨fun P ps W hp tk => po_imp (po_some (ha.run P ps W hp tk)) fun σ H Q ⟨e, s, h⟩ => by
  refine tD_of s (h.bnd.mono fun d e1 H1 go1 z v rv => ?_)
  obtain ⟨i, q, z2⟩ := PR.optM go1.st z
  clear z h
  cases d <;> first | (cases q; done) | skip
  cases q
  exact ⟨_, rv, z2 _ (Go.refl go1.st)⟩⟩
theorem de_slT (hK : X.K = g.K) (ha : DE g mp X a fa) (hl : DO g mp X lo fl) (hh : DO g mp X hi fh) : DE g mp X (.Subscript a (.Slice lo hi none p2) pos) (dSlT fa fl fh) := ⟨fun P ps W hp tk => pe_imp (pe_slice sl_tupA (ha.run P ps W hp tk) (hl.run P ps W hp tk) (hh.run P ps W hp tk)) fun σ H Q h => by
  obtain ⟨e, s, h⟩ := tD_eq.mp h
  refine tD_of s (h.bnd.mono fun d e1 H1 go1 z v rv => ⟨e1, go1.st, z.bnd.mono fun l e2 H2 go2 z2 => ⟨e2, go2.st, z2.bnd.mono fun u e3 H3 go3 z3 => ?_⟩⟩)
  have rv := Rep.kp (go2.kp.trans go3.kp) _ _ rv
  clear z z2 h
  cases d <;> first | exact z3.elim | skip
  rename_i ds
  obtain ⟨p, vs, rfl, hq, rr⟩ := rv
  refine ⟨p, vs, rfl, by rw [hK]; exact hq.sq, fun w => ?_, fun _ p hp => ?_⟩
  · rw [← rr.length] at w
    have z4 := z3 _ (Go.refl go3.st) (.ref p)
    rw [HT_sIx_take _ l u w] at z4
    exact z4 ⟨p, vs, rfl, hq, rr⟩
  · exact z3 _ (Go.new go3.st hp) _ (rep_tup (go3.st.fresh hp) hp (rr.cut l u))⟩
theorem dm_slL (hK : X.K = g.K) (ha : DE g mp X a fa) (hl : DO g mp X lo fl) (hh : DO g mp X hi fh) : DM g mp X (.Subscript a (.Slice lo hi none p2) pos) (mSlL fa fl fh) := ⟨fun P ps W hp tk => pe_imp (pe_slice sl_list (ha.run P ps W hp tk) (hl.run P ps W hp tk) (hh.run P ps W hp tk)) fun σ H Q h => by
  obtain ⟨e, s, h⟩ := tM_eq.mp h
  refine tD_of s (h.bnd.mono fun d e1 H1 go1 z v rv => ⟨e1, go1.st, z.bnd.mono fun l e2 H2 go2 z2 => ⟨e2, go2.st, z2.bnd.mono fun u e3 H3 go3 z3 => ?_⟩⟩)
  have rv := Rep.kp (go2.kp.trans go3.kp) _ _ rv
  clear z z2 h
  cases d <;> first | exact z3.elim | skip
  obtain ⟨p, vs, rfl, hq, rr⟩ := rv
  exact ⟨p, vs, rfl, by rw [hK]; exact hq.sq, fun p hp => z3 _ _ (GoM.new go3.st hp (rr.cut l u))⟩⟩
theorem dm_list (hK : X.K = g.K) (hg : Gl X "list") (hm : X.mg "list" = none) {p : Pos} (ha : DE g mp X a fa) (he : starEach (a :: []) X.env = (false, eval a X.env) :: starEach [] X.env := by rfl) (hpl : (backTo pos (starEach [] X.env)).any (·.1) = false := by rfl) :
    DM g mp X (.Call (.Name "list" p) [a] [] pos) (mList fa) := ⟨fun P ps W hp tk => pe_imp (pe_callTy call_list_of hg hm boot_list (pa_cons (ha.run P ps W hp tk) pa_nil he) (by decide) (by decide) he hpl) fun σ H Q h => by
  obtain ⟨e, s, h⟩ := tM_eq.mp h
  refine tD_of s (h.bnd.mono fun d e1 H1 go1 z v rv => ?_)
  clear h
  cases d <;> first | exact z.elim | skip
  · obtain ⟨p, vs, rfl, hq, rr⟩ := rv
    exact ⟨p, vs, rfl, .inr (by rw [hK]; exact hq.sq), fun l hl => z _ _ (GoM.new go1.st hl rr)⟩
  · obtain ⟨p, vs, rfl, hq, rr⟩ := rv
    exact ⟨p, vs, rfl, .inl (by rw [hK]; exact hq.sq), fun l hl => z _ _ (GoM.new go1.st hl rr)⟩⟩
/-- xs + ys, of lists that are tracked or frozen -/
def rCatR (K : PySem.W.Frag) : R2 := fun x y H Q => ∃ l b xs zs, x = .ref l ∧ y = .ref b ∧ SqL K H l xs ∧ SqL K H b zs ∧ xs.length + zs.length ≤ sizeLine ∧ ∀ p, H p = none → Q (.ref p) (upd H p (.lst (xs ++ zs)))
theorem op_catR : OpR X (binaryOp .Add) (rCatR X.K) := by
  intro pins s σ H x y v u Q I rx ry h
  obtain ⟨l, b, xs, zs, rfl, rfl, hH, hB, hz, q⟩ := h
  cases rx
  cases ry
  obtain ⟨its, r, ⟨⟨c1, d1, t1, s1⟩, n1, ho, hc, hd, hs⟩, z⟩ := I.list hH
  obtain ⟨its2, r2, ⟨⟨c2, d2, t2, s2⟩, n2, ho2, hc2, hd2, hs2⟩, z2⟩ := I.list hB
  simp only at hc hd hs hc2 hd2 hs2
  subst hc hd hs hc2 hd2 hs2
  have ea : its.toArray ++ its2.toArray = (its ++ its2).toArray := by simp
  have l1 := r.length
  have l2 := r2.length
  refine concat_meets ⟨_, ho, rfl⟩ ⟨_, ho2, rfl⟩ noFill_list_add seq_list_add PySem.F.slot_list_add PySem.F.entry_list_add (PySem.F.args_list_add_2 _ _) (list_addW l b its.toArray its2.toArray n1 n2 none none s1 s2 (by rw [List.size_toArray, List.size_toArray]; omega)) ⟨ho, ho2, ?_⟩
  rw [ea]
  exact ⟨.ref _, _, I.lnew (t' := s.toks) (r.append r2) (by rw [List.length_append]; omega), rfl, q _ I.fresh⟩
theorem dm_cat (hK : X.K = g.K) (ha : DE g mp X a fa) (hb : DE g mp X b fb) : DM g mp X (.BinOp a .Add b pos) (mCat fa fb) := ⟨fun P ps W hp tk => pe_imp (pe_op op_catR (ha.run P ps W hp tk) (hb.run P ps W hp tk)) fun σ H Q h => by
  obtain ⟨e, s, h⟩ := tM_eq.mp h
  refine tD_of s (h.bnd.mono fun d e1 H1 go1 z v rv => tD_of go1.st (z.bnd.mono fun d2 e2 H2 go2 z2 v2 rv2 => ?_))
  have rv' := Rep.kp go2.kp _ _ rv
  clear z h rv
  cases d <;> first | exact z2.elim | skip
  cases d2 <;> first | exact z2.elim | skip
  rename_i xs ys
  obtain ⟨p, vs, rfl, hq, rr⟩ := rv'
  obtain ⟨p2, vs2, rfl, hq2, rr2⟩ := rv2
  have z2 : PM g P ps W e2 σ H2 (if xs.length + ys.length ≤ 16777216 then .ok (xs ++ ys) e2 else .bad) Q := z2
  split at z2
  · rename_i hz
    exact ⟨p, p2, vs, vs2, rfl, rfl, by rw [hK]; exact hq.sq, by rw [hK]; exact hq2.sq, by rw [sizeLine_eq, ← rr.length, ← rr2.length]; exact hz, fun l hl => z2 _ _ (GoM.new go2.st hl (rr.append rr2))⟩
  · exact z2.elim⟩
end
end DL
end

section
set_option Elab.async false
set_option linter.all false
set_option maxRecDepth 100000
set_option maxHeartbeats 4000000
namespace DL
open PySem PySem.Spec PyProof.Rows L2

/-! ### what is walked -/
structure ItOk (g : G) (P : Addr → Prop) (ps : List (Nat × Addr)) (e : Env) (σ : L2.St) (H : Hp) (J : It) (ds : List D) : Prop where
  go : ∀ (i : Nat) (d : D), ds[i]? = some d → ∀ P1 e1 σ1 H1, StRel g P1 ps e1 σ1 H1 → Kp (Av P e σ) H (Av P1 e1 σ1) H1 → J.go i H1 ∧ ∀ x H2, J.yld i H1 x H2 → Same H1 H2 ∧ Rep g H2 (Av P1 e1 σ1) d x
  stop : ∀ P1 e1 σ1 H1, StRel g P1 ps e1 σ1 H1 → Kp (Av P e σ) H (Av P1 e1 σ1) H1 → J.stop ds.length H1
def tI (g : G) (P : Addr → Prop) (ps : List (Nat × Addr)) (W : WX) (f : Env → R (List D)) : TI := fun σ H R => ∃ e, StRel g P ps e σ H ∧ PR g P ps W e σ H (f e) (fun ds e' H' => ∀ J, ItOk g P ps e' σ H' J ds → R J H')
structure DI (g : G) (mp : List Nat) (X : Cx) (tg iter : Expr) (f : Env → R (List D)) : Prop where
  run : ∀ (P : Addr → Prop) (ps : List (Nat × Addr)) (W : WX), ps.map (·.1) = mp → Takes X W → PI X tg iter (tI g P ps W f)
theorem pi_imp {X : Cx} {tg iter : Expr} {t t' : TI} (h : PI X tg iter t) (m : ∀ σ H R, t' σ H R → t σ H R) : PI X tg iter t' := ⟨fun pins s σ H R I q => h.run pins s σ H R I (m σ H R q)⟩
def iSeq (K : PySem.W.Frag) (tl : TE) : TI := fun σ H R => tl σ H fun x H1 => ∃ a, x = .ref a ∧ (((∃ xs, SqL K H1 a xs) ∧ R (Itl K a) H1) ∨ ((∃ xs, SqT K H1 a xs) ∧ R (Itt K a) H1))
theorem pi_seq {X : Cx} {tg l : Expr} {tl : TE} (hl : PE X l tl) : PI X tg l (iSeq X.K tl) := by
  refine ⟨fun pins s σ H R I h => ?_⟩
  refine thn (hl.run pins s σ H _ I h) fun v s1 ⟨x, H1, I1, r1, q1⟩ => ?_
  obtain ⟨a, e, q1⟩ := q1
  subst e
  cases r1
  have hfp : ∀ b ∈ [s1.heap.objs.size], FpOk X pins H1 b := fun b hb => by
    have e : b = s1.heap.objs.size := by simpa using hb
    subst e
    exact I1.fpOk (Nat.le_refl _) (I1.hok.fresh (Nat.le_refl _))
  rcases q1 with ⟨⟨xs, hq⟩, q⟩ | ⟨⟨xs, hq⟩, q⟩
  · obtain ⟨its, rv, p, hz⟩ := I1.list hq
    refine wpAny_pyIter_list p.isList ?_
    exact ⟨s1.heap.objs.size, [s1.heap.objs.size], _, _, H1, rfl, I1.kept (t' := s1.toks) fun b o e => Heap.get?_push_of_some _ e, turn_list a _, ⟨_, Heap.get?_push_size _ rfl, rfl, rfl⟩, hfp, q⟩
  · obtain ⟨its, rv, p, hz⟩ := I1.tuple hq
    refine wpAny_pyIter_tuple (show s1.heap.IsTuple a its.toArray from p) ?_
    exact ⟨s1.heap.objs.size, [s1.heap.objs.size], _, _, H1, rfl, I1.kept (t' := s1.toks) fun b o e => Heap.get?_push_of_some _ e, turn_tuple a _, ⟨_, Heap.get?_push_size _ rfl, rfl, rfl⟩, hfp, q⟩
/-- the items of a list or a tuple -/
def itemsD : D → Option (List D)
  | .tup ds => some ds
  | .lst ds => some ds
  | _ => none
def iItems1 (f : Env → R D) : Env → R (List D) := fun e => bnd (f e) fun d e1 => opt (itemsD d) e1
/-- 0, 1, .. -/
def rangeL (lo : Int) (n : Nat) : List D := (List.range n).map fun i => .int (lo + (i : Nat))
def wide62 (i : Int) : Bool := decide (-(2 ^ 62) ≤ i) && decide (i < 2 ^ 62)
def iRange1 (f : Env → R D) : Env → R (List D) := fun e => bnd (f e) fun d e1 => bnd (opt (asI d) e1) fun j e1 => if wide62 j then .ok (rangeL 0 j.toNat) e1 else .bad
def iRange2 (fa fb : Env → R D) : Env → R (List D) := fun e => bnd (fa e) fun a e1 => bnd (fb e1) fun b e2 => bnd (opt (asI a) e2) fun i e2 => bnd (opt (asI b) e2) fun j e2 => if wide62 i && wide62 j then .ok (rangeL i (j - i).toNat) e2 else .bad
theorem rangeL_length {lo : Int} {n : Nat} : (rangeL lo n).length = n := by unfold rangeL; rw [List.length_map, List.length_range]
theorem rangeL_get {lo : Int} {n i : Nat} {d : D} (h : (rangeL lo n)[i]? = some d) : i < n ∧ d = .int (lo + (i : Nat)) := by
  unfold rangeL at h
  rw [List.getElem?_map] at h
  by_cases hi : i < n
  · rw [List.getElem?_range hi] at h
    cases h
    exact ⟨hi, rfl⟩
  · rw [List.getElem?_eq_none (by rw [List.length_range]; omega)] at h
    cases h
section
variable {g : G} {P : Addr → Prop} {ps : List (Nat × Addr)} {e : Env} {σ : L2.St} {H : Hp}
theorem itOk_list {K : PySem.W.Frag} (hK : K = g.K) {a : Addr} {vs : List V} {ds : List D} (hq : QL g H (Av P e σ) a vs) (r : RepL g H (Av P e σ) ds vs) : ItOk g P ps e σ H (Itl K a) ds where
  go := fun i d h P1 e1 σ1 H1 st1 kp1 => by
    have hq1 := (hq.kp kp1).sq
    rw [← hK] at hq1
    obtain ⟨v, hv, rv⟩ := (RepL.kp kp1 _ _ r).at h
    refine ⟨⟨vs, v, hq1, hv⟩, fun x H2 y => ?_⟩
    obtain ⟨rfl, y⟩ := y
    have z := y vs hq1
    rw [hv] at z
    cases z
    exact ⟨Same.refl _, rv⟩
  stop := fun P1 e1 σ1 H1 st1 kp1 => by
    have hq1 := (hq.kp kp1).sq
    rw [← hK] at hq1
    exact ⟨vs, hq1, by rw [r.length]; exact Nat.le_refl _⟩
theorem itOk_tup {K : PySem.W.Frag} (hK : K = g.K) {a : Addr} {vs : List V} {ds : List D} (hq : QT g H (Av P e σ) a vs) (r : RepL g H (Av P e σ) ds vs) : ItOk g P ps e σ H (Itt K a) ds where
  go := fun i d h P1 e1 σ1 H1 st1 kp1 => by
    have hq1 := (hq.kp kp1).sq
    rw [← hK] at hq1
    obtain ⟨v, hv, rv⟩ := (RepL.kp kp1 _ _ r).at h
    refine ⟨⟨vs, v, hq1, hv⟩, fun x H2 y => ?_⟩
    obtain ⟨rfl, y⟩ := y
    have z := y vs hq1
    rw [hv] at z
    cases z
    exact ⟨Same.refl _, rv⟩
  stop := fun P1 e1 σ1 H1 st1 kp1 => by
    have hq1 := (hq.kp kp1).sq
    rw [← hK] at hq1
    exact ⟨vs, hq1, by rw [r.length]; exact Nat.le_refl _⟩
theorem itOk_range {lo : Int} {n : Nat} (s : StRel g P ps e σ H) : ItOk g P ps e σ H (Itr lo n) (rangeL lo n) where
  go := fun i d h P1 e1 σ1 H1 st1 kp1 => by
    obtain ⟨hi, rfl⟩ := rangeL_get h
    refine ⟨hi, fun x H2 y => ?_⟩
    obtain ⟨rfl, rfl⟩ := y
    exact ⟨Same.refl _, rfl⟩
  stop := fun P1 e1 σ1 H1 st1 kp1 => by rw [rangeL_length]; exact Nat.le_refl _
end
section
variable {g : G} {mp : List Nat} {X : Cx} {tg : Expr} {a b : Expr} {fa fb : Env → R D}
theorem di_seq (hK : X.K = g.K) (ha : DE g mp X a fa) : DI g mp X tg a (iItems1 fa) := ⟨fun P ps W hp tk => pi_imp (pi_seq (ha.run P ps W hp tk)) fun σ H R ⟨e, s, h⟩ => by
  refine tD_of s (h.bnd.mono fun d e1 H1 go1 z v rv => ?_)
  obtain ⟨ds, q, z2⟩ := PR.opt z
  have z2 := z2 _ (Go.refl go1.st)
  clear z h
  cases d <;> first | (cases q; done) | skip
  · cases q
    obtain ⟨p, vs, rfl, hq, rr⟩ := rv
    exact ⟨p, rfl, .inr ⟨⟨vs, by rw [hK]; exact hq.sq⟩, z2 _ (itOk_tup hK hq rr)⟩⟩
  · cases q
    obtain ⟨p, vs, rfl, hq, rr⟩ := rv
    exact ⟨p, rfl, .inl ⟨⟨vs, by rw [hK]; exact hq.sq⟩, z2 _ (itOk_list hK hq rr)⟩⟩⟩
theorem wide62_ok {i : Int} (h : wide62 i = true) : -(2 ^ 62) ≤ i ∧ i < 2 ^ 62 := by
  unfold wide62 at h
  rw [Bool.and_eq_true, decide_eq_true_eq, decide_eq_true_eq] at h
  exact h
theorem di_range1 {p pos : Pos} (hg : Gl X "range") (hm : X.mg "range" = none) (ha : DE g mp X a fa) (hs : starEach [a] X.env = [(false, eval a X.env)] := by rfl) (hs1 : starEach (a :: []) X.env = (false, eval a X.env) :: starEach [] X.env := by rfl) : DI g mp X tg (.Call (.Name "range" p) [a] [] pos) (iRange1 fa) := ⟨fun P ps W hp tk => pi_imp (pi_range1 hg hm (pa_cons (ha.run P ps W hp tk) pa_nil hs1) hs) fun σ H R ⟨e, s, h⟩ => by
  refine tD_of s (h.bnd.mono fun d e1 H1 go1 z v rv => ?_)
  obtain ⟨j, q, z2⟩ := PR.optM go1.st z
  clear z h
  cases d <;> first | (cases q; done) | skip
  cases q
  by_cases hw : wide62 j = true
  · rw [if_pos hw] at z2
    obtain ⟨w1, w2⟩ := wide62_ok hw
    exact ⟨j, by rw [show v = .int j from rv], w1, w2, z2 _ (Go.refl go1.st) _ (itOk_range go1.st)⟩
  · rw [if_neg hw] at z2
    exact z2.elim⟩
theorem di_range2 {p pos : Pos} (hg : Gl X "range") (hm : X.mg "range" = none) (ha : DE g mp X a fa) (hb : DE g mp X b fb) (hs : starEach [a, b] X.env = [(false, eval a X.env), (false, eval b X.env)] := by rfl) (hs2 : starEach [b] X.env = [(false, eval b X.env)] := by rfl)
    (hs1 : starEach (a :: [b]) X.env = (false, eval a X.env) :: starEach [b] X.env := by rfl) (hs3 : starEach (b :: []) X.env = (false, eval b X.env) :: starEach [] X.env := by rfl) : DI g mp X tg (.Call (.Name "range" p) [a, b] [] pos) (iRange2 fa fb) := ⟨fun P ps W hp tk => pi_imp (pi_range2 hg hm (pa_cons (ha.run P ps W hp tk) (pa_cons (hb.run P ps W hp tk) pa_nil hs3) hs1) hs hs2) fun σ H R ⟨e, s, h⟩ => by
  refine tD_of s (h.bnd.mono fun d e1 H1 go1 z v rv => tD_of go1.st (z.bnd.mono fun d2 e2 H2 go2 z2 v2 rv2 => ?_))
  obtain ⟨i, q, z3⟩ := PR.optM go2.st z2
  obtain ⟨j, q2, z4⟩ := PR.optM go2.st z3
  clear z z2 z3 h
  cases d <;> first | (cases q; done) | skip
  cases q
  cases d2 <;> first | (cases q2; done) | skip
  cases q2
  by_cases hw : (wide62 i && wide62 j) = true
  · rw [if_pos hw] at z4
    rw [Bool.and_eq_true] at hw
    obtain ⟨w1, w2⟩ := wide62_ok hw.1
    obtain ⟨w3, w4⟩ := wide62_ok hw.2
    exact ⟨i, j, by rw [show v = .int i from rv, show v2 = .int j from rv2], ⟨w1, w2, w3, w4⟩, z4 _ (Go.refl go2.st) _ (itOk_range go2.st)⟩
  · rw [if_neg hw] at z4
    exact z4.elim⟩
end

/-! ### for -/
def forL (t : D → Env → Option Env) (body : Env → RS) : List D → Env → RS
  | [], e => .nx e
  | d :: ds, e => sO (t d e) fun e1 => match body e1 with
    | .nx e2 => forL t body ds e2
    | .ct e2 => forL t body ds e2
    | .bk e2 => .nx e2
    | r => r
def sFor (f : Env → R (List D)) (t : D → Env → Option Env) (body : Env → RS) : Env → RS := fun e => sB (f e) fun ds e1 => forL t body ds e1
section
variable {g : G} {mp : List Nat} {X : Cx} {tg iter : Expr} {body : List Stmt} {f : Env → R (List D)} {sl : List Nat} {t : D → Env → Option Env} {fb : Env → RS} {pos : Pos}
theorem drop_get {α : Type} {l : List α} {i : Nat} {a : α} (h : l[i]? = some a) : l.drop i = a :: l.drop (i + 1) := by
  obtain ⟨hl, e⟩ := List.getElem?_eq_some_iff.mp h
  rw [← e]
  exact List.drop_eq_getElem_cons hl
theorem ds_for (hpo : PassesOwn (model X.prog X.w) X.A X.env X.xe) (hc : X.calm = true) (hi : DI g mp X tg iter f) (hg : DG g mp X tg sl t) (hb : DSs g mp X body fb) (hs : ∀ x, foldedSetIterable iter X.env x = pure x := by intro _; rfl) :
    DS g mp X (.For tg iter body [] pos) (sFor f t fb) := ⟨fun P ps W hp tk => ps_imp (ps_for hpo hc (hi.run P ps W hp tk) (hg.run P ps hp) (hb.run P ps W hp tk) hs) fun σ H Dn q => by
  obtain ⟨e, s, q⟩ := tS_eq.mp q
  refine ⟨e, s, q.sB.mono fun ds e1 H1 go1 z J ok => ?_⟩
  refine ⟨fun i m σ2 H2 => m = ds.length - i ∧ i ≤ ds.length ∧ ∃ e2, Go g P ps e1 σ H1 e2 σ2 H2 ∧ PRS g P ps W e2 σ2 H2 (forL t fb (ds.drop i) e2) Dn, ⟨_, rfl, Nat.zero_le _, e1, Go.refl go1.st, z⟩, ?_⟩
  rintro i m σ2 H2 ⟨rfl, hi, e2, go2, z⟩
  by_cases hlt : i < ds.length
  · obtain ⟨d, hd⟩ : ∃ d, ds[i]? = some d := ⟨ds[i], List.getElem?_eq_getElem hlt⟩
    obtain ⟨ok1, ok2⟩ := ok.go i d hd P e2 σ2 H2 go2.st go2.kp
    rw [drop_get hd] at z
    refine .inr ⟨ok1, fun σ3 H3 => ∃ e3, Go g P ps e1 σ H1 e3 σ3 H3 ∧ PRS g P ps W e3 σ3 H3 (forL t fb (ds.drop (i + 1)) e3) Dn, fun σ3 H3 ⟨e3, go3, z3⟩ => ⟨ds.length - (i + 1), by omega, rfl, hlt, e3, go3, z3⟩, fun x H3 y => ?_⟩
    obtain ⟨sm3, rx⟩ := ok2 x H3 y
    have go3 := Go.same go2.st sm3
    have z : PRS g P ps W e2 σ2 H2 (sO (t d e2) fun e1 => match fb e1 with
      | .nx e2 => forL t fb (ds.drop (i + 1)) e2
      | .ct e2 => forL t fb (ds.drop (i + 1)) e2
      | .bk e2 => .nx e2
      | r => r) Dn := z
    obtain ⟨e4, q4, z⟩ := z.sO
    refine ⟨e2, d, go3.st, rx, e4, q4, fun σ4 H4 go4 _ => ?_⟩
    have gt := go2.trans (go3.trans go4)
    refine tS_eq.mpr ⟨e4, go4.st, ?_⟩
    have z := PRS.shift z (go3.trans go4)
    revert z
    cases fb e4 with
    | nx e5 => exact fun z σ5 H5 go5 => ⟨e5, gt.trans go5, PRS.shift z go5⟩
    | ct e5 => exact fun z σ5 H5 go5 => ⟨e5, gt.trans go5, PRS.shift z go5⟩
    | bk e5 => exact fun z σ5 H5 go5 => z σ5 H5 go5
    | rt sl e5 => cases sl <;> exact fun z => z
    | exc x e5 => exact fun z => z
    | bad => exact fun z => z
  · have e9 : i = ds.length := by omega
    subst e9
    rw [List.drop_length] at z
    exact .inl ⟨ok.stop P e2 σ2 H2 go2.st go2.kp, z _ _ (Go.refl go2.st)⟩⟩
end
end DL
end

section
set_option Elab.async false
set_option linter.all false
set_option maxRecDepth 100000
set_option maxHeartbeats 4000000
namespace DL
open PySem PySem.Spec PyProof.Rows L2

/-! ### comprehensions -/
/-- the block's own names forgotten -/
def wipeE (e : Env) : List Nat → Env
  | [] => e
  | v :: vs => (wipeE e vs).set v none
/-- .. and as they were -/
def backE (e e0 : Env) : List Nat → Env
  | [] => e
  | v :: vs => (backE e e0 vs).set v (e0[v]?.getD none)
def noM (e : Env) (v : Nat) : Bool := match e[v]? with
  | some (some (.m _)) => false
  | _ => true
def compL (vs : List Nat) (t : D → Env → Option Env) (tt : Env → R Bool) (fe : Env → R D) : List D → Env → R (List D)
  | [], e => .ok [] e
  | d :: ds, e => bnd (opt (t d e) e) fun e1 _ => bnd (tt e1) fun k e2 =>
      if k = true then bnd (fe e2) fun y e3 => bnd (compL vs t tt fe ds (wipeE e3 vs)) fun r e4 => .ok (y :: r) e4
      else compL vs t tt fe ds (wipeE e2 vs)
def mComp (vs : List Nat) (fi : Env → R (List D)) (t : D → Env → Option Env) (tt : Env → R Bool) (fe : Env → R D) : Env → R (List D) := fun e => bnd (fi e) fun ds e1 =>
  if vs.all (noM e1) = true ∧ ds.length < 16777216 then match compL vs t tt fe ds (wipeE e1 vs) with
    | .ok r e2 => .ok r (backE e2 e1 vs)
    | _ => .bad
  else .bad
def bTrue : Env → R Bool := fun e => .ok true e
theorem wipeE_length (e : Env) : ∀ vs, (wipeE e vs).length = e.length
  | [] => rfl
  | v :: vs => by unfold wipeE; rw [List.length_set, wipeE_length e vs]
theorem backE_length (e e0 : Env) : ∀ vs, (backE e e0 vs).length = e.length
  | [] => rfl
  | v :: vs => by unfold backE; rw [List.length_set, backE_length e e0 vs]
theorem wipeE_get {e : Env} {i : Nat} {s : Slot} : ∀ {vs : List Nat}, (wipeE e vs)[i]? = some (some s) → e[i]? = some (some s) ∧ i ∉ vs
  | [], h => ⟨h, by simp⟩
  | v :: vs, h => by
    unfold wipeE at h
    rcases set_get h with ⟨_, z, _⟩ | ⟨hj, h⟩
    · cases z
    · obtain ⟨h1, h2⟩ := wipeE_get h
      exact ⟨h1, by simp only [List.mem_cons, not_or]; exact ⟨fun z => hj z.symm, h2⟩⟩
theorem wipeE_out {e : Env} {i : Nat} : ∀ {vs : List Nat}, i ∉ vs → (wipeE e vs)[i]? = e[i]?
  | [], _ => rfl
  | v :: vs, h => by
    simp only [List.mem_cons, not_or] at h
    unfold wipeE
    rw [List.getElem?_set_ne (fun z => h.1 z.symm)]
    exact wipeE_out h.2
theorem wipe_out1 {σ : L2.St} {i : Nat} : ∀ {vs : List Nat}, i ∉ vs → (wipe σ vs)[i]? = σ[i]?
  | [], _ => rfl
  | v :: vs, h => by
    simp only [List.mem_cons, not_or] at h
    unfold wipe
    rw [List.getElem?_set_ne (fun z => h.1 z.symm)]
    exact wipe_out1 h.2
theorem backE_out {e e0 : Env} {i : Nat} : ∀ {vs : List Nat}, i ∉ vs → (backE e e0 vs)[i]? = e[i]?
  | [], _ => rfl
  | v :: vs, h => by
    simp only [List.mem_cons, not_or] at h
    unfold backE
    rw [List.getElem?_set_ne (fun z => h.1 z.symm)]
    exact backE_out h.2
theorem backE_in {e e0 : Env} {i : Nat} : ∀ {vs : List Nat}, i ∈ vs → i < e.length → (backE e e0 vs)[i]? = some (e0[i]?.getD none)
  | v :: vs, h, hl => by
    unfold backE
    by_cases hv : v = i
    · subst hv
      rw [List.getElem?_set_self (by rw [backE_length]; exact hl)]
    · rw [List.getElem?_set_ne hv]
      rcases List.mem_cons.mp h with z | z
      · exact absurd z.symm hv
      · exact backE_in z hl
theorem noM_not {e : Env} {vs : List Nat} (h : vs.all (noM e) = true) {v : Nat} (hv : v ∈ vs) {ds : List D} : e[v]? ≠ some (some (.m ds)) := fun z => by
  have := List.all_eq_true.mp h v hv
  unfold noM at this
  rw [z] at this
  cases this

section
variable {g : G} {P : Addr → Prop} {ps : List (Nat × Addr)} {e e1 : Env} {σ σ1 : L2.St} {H H1 : Hp} {vs : List Nat}
/-- the names of the block forgotten: nothing that is one's own is lost -/
theorem StRel.wipe (s : StRel g P ps e σ H) (h : ∀ p ∈ ps, p.1 ∉ vs) : Go g P ps e σ H (wipeE e vs) (L2.wipe σ vs) H := by
  have sub : ∀ b, isM (wipeE e vs) (L2.wipe σ vs) b → isM e σ b := by
    rintro b ⟨j, es, q1, q2⟩
    obtain ⟨q1, hj⟩ := wipeE_get q1
    rw [wipe_out1 hj] at q2
    exact ⟨j, es, q1, q2⟩
  have subA : ∀ b, Av P (wipeE e vs) (L2.wipe σ vs) b → Av P e σ b := fun b z => z.elim .inl fun z => .inr (sub b z)
  refine ⟨⟨by rw [wipeE_length, wipe_length]; exact s.len, fun j d q => ?_, fun j es q => ?_, fun j l b es fs q1 q2 r1 r2 => ?_, s.prv, fun p hp => ?_, s.tb⟩, fun b o q n => ⟨q, fun z => n.1 (subA b z)⟩, fun _ _ => rfl⟩
  · obtain ⟨q, hj⟩ := wipeE_get q
    obtain ⟨v, h1, h2⟩ := s.vv j d q
    exact ⟨v, by rw [wipe_out1 hj]; exact h1, Rep.mono subA h2⟩
  · obtain ⟨q, hj⟩ := wipeE_get q
    obtain ⟨a, us, h1, h2, h3, h4⟩ := s.mm j es q
    exact ⟨a, us, by rw [wipe_out1 hj]; exact h1, h2, RepL.mono subA h3, h4⟩
  · obtain ⟨q1, hj⟩ := wipeE_get q1
    obtain ⟨q2, hl⟩ := wipeE_get q2
    rw [wipe_out1 hj] at r1
    rw [wipe_out1 hl] at r2
    exact s.inj j l b es fs q1 q2 r1 r2
  · obtain ⟨h1, ds, h2⟩ := s.par p hp
    have hj : p.1 ∉ vs := h p hp
    exact ⟨by rw [wipe_out1 hj]; exact h1, ds, by rw [wipeE_out hj]; exact h2⟩
/-- behind the block -/
theorem GoM.unwipe {a : Addr} {ds : List D} {us : List V} (s0 : StRel g P ps e σ H) (hv : vs.all (noM e) = true) (s1 : StRel g (Pl P a) ps e1 (L2.wipe σ vs) H1) (k : Kp (Av P e σ) H (Av (Pl P a) e1 (L2.wipe σ vs)) H1)
    (pr : ∀ b, P b → H1 b = H b) (np : ¬ P a) (ha : H1 a = some (.lst us)) (r : RepL g H1 (Av (Pl P a) e1 (L2.wipe σ vs)) ds us) : GoM g P ps e σ H a ds (backE e1 e vs) σ H1 := by
  have hlen : e1.length = σ.length := by rw [s1.len, wipe_length]
  have out : ∀ (j : Nat) (es : List D), (backE e1 e vs)[j]? = some (some (.m es)) → j ∉ vs ∧ e1[j]? = some (some (.m es)) := fun j es q => by
    by_cases hj : j ∈ vs
    · have hl : j < e1.length := by
        cases Nat.lt_or_ge j e1.length with
        | inl h => exact h
        | inr h => rw [List.getElem?_eq_none (by rw [backE_length]; exact h)] at q; cases q
      rw [backE_in hj hl] at q
      have q := Option.some.inj q
      cases z : e[j]? with
      | none => rw [z] at q; cases q
      | some o =>
        rw [z] at q
        cases o with
        | none => cases q
        | some sl =>
          have q : some sl = some (.m es) := q
          rw [q] at z
          exact absurd z (noM_not hv hj)
    · rw [backE_out hj] at q
      exact ⟨hj, q⟩
  have sub : ∀ b, isM (backE e1 e vs) σ b → isM e1 (L2.wipe σ vs) b := by
    rintro b ⟨j, es, q1, q2⟩
    obtain ⟨hj, q1⟩ := out j es q1
    exact ⟨j, es, q1, by rw [wipe_out1 hj]; exact q2⟩
  have subA : ∀ b, Av (Pl P a) (backE e1 e vs) σ b → Av (Pl P a) e1 (L2.wipe σ vs) b := fun b z => z.elim .inl fun z => .inr (sub b z)
  have k' : Kp (Av P e σ) H (Av (Pl P a) (backE e1 e vs) σ) H1 := fun b o q n => ⟨(k b o q n).1, fun z => (k b o q n).2 (subA b z)⟩
  refine ⟨⟨by rw [backE_length]; exact hlen, fun j d q => ?_, fun j es q => ?_, fun j l b es fs q1 q2 r1 r2 => ?_, s1.prv, fun p hp => ?_, s1.tb⟩, k', pr, np, us, ha, RepL.mono subA r⟩
  · by_cases hj : j ∈ vs
    · have hl : j < e1.length := by
        cases Nat.lt_or_ge j e1.length with
        | inl h => exact h
        | inr h => rw [List.getElem?_eq_none (by rw [backE_length]; exact h)] at q; cases q
      rw [backE_in hj hl] at q
      have q := Option.some.inj q
      have z : e[j]? = some (some (.v d)) := by
        cases z : e[j]? with
        | none => rw [z] at q; cases q
        | some o => rw [z] at q; exact congrArg some q
      obtain ⟨v, h1, h2⟩ := s0.vv j d z
      exact ⟨v, h1, Rep.kp k' _ _ h2⟩
    · rw [backE_out hj] at q
      obtain ⟨v, h1, h2⟩ := s1.vv j d q
      rw [wipe_out1 hj] at h1
      exact ⟨v, h1, Rep.mono subA h2⟩
  · obtain ⟨hj, q⟩ := out j es q
    obtain ⟨b, ws, h1, h2, h3, h4⟩ := s1.mm j es q
    rw [wipe_out1 hj] at h1
    exact ⟨b, ws, h1, h2, RepL.mono subA h3, h4⟩
  · obtain ⟨hj, q1⟩ := out j es q1
    obtain ⟨hl, q2⟩ := out l fs q2
    exact s1.inj j l b es fs q1 q2 (by rw [wipe_out1 hj]; exact r1) (by rw [wipe_out1 hl]; exact r2)
  · obtain ⟨h1, es, h2⟩ := s0.par p hp
    have hj : p.1 ∉ vs := fun z => noM_not hv z h2
    obtain ⟨_, es2, h3⟩ := s1.par p hp
    exact ⟨h1, es2, by rw [backE_out hj]; exact h3⟩
end
structure DTs (g : G) (mp : List Nat) (X : Cx) (ifs : List Expr) (f : Env → R Bool) : Prop where
  run : ∀ (P : Addr → Prop) (ps : List (Nat × Addr)) (W : WX), ps.map (·.1) = mp → Takes X W → PTs X ifs (tB g P ps W f)
theorem pts_imp {X : Cx} {ifs : List Expr} {t t' : TT} (h : PTs X ifs t) (m : ∀ σ H Q, t' σ H Q → t σ H Q) : PTs X ifs t' := ⟨fun pins s σ H Q I q => h.run pins s σ H Q I (m σ H Q q)⟩
theorem dts_nil {g mp X} : DTs g mp X [] bTrue := ⟨fun P ps W hp tk => pts_imp pts_nil fun σ H Q h => by
  obtain ⟨e, s, h⟩ := tB_eq.mp h
  exact h _ (Go.refl s)⟩
theorem dts_one {g mp X} {c : Expr} {f : Env → R Bool} (h : DB g mp X c f) : DTs g mp X [c] f := ⟨fun P ps W hp tk => pts_one (h.run P ps W hp tk)⟩
section
variable {g : G} {mp : List Nat} {X : Cx} {elt tg iter : Expr} {ifs : List Expr} {scope : Scope} {own : List (Str × Nat)} {pos : Pos} {fi : Env → R (List D)} {sl : List Nat} {t : D → Env → Option Env} {tt : Env → R Bool} {fe : Env → R D}
theorem wipe_only {σ σ2 : L2.St} {vs sl : List Nat} (o : Only1 sl (L2.wipe σ vs) σ2) (h : ∀ j ∈ sl, j ∈ vs) : L2.wipe σ2 vs = L2.wipe σ vs := by
  have hl : (L2.wipe σ2 vs).length = (L2.wipe σ vs).length := by rw [wipe_length, o.1]
  apply List.ext_getElem?
  intro i
  by_cases hi : i ∈ vs
  · have key : ∀ τ : L2.St, ∀ us : List Nat, i ∈ us → i < τ.length → (L2.wipe τ us)[i]? = some none := by
      intro τ us
      induction us with
      | nil => intro z; cases z
      | cons u us ih =>
        intro z hτ
        unfold L2.wipe
        by_cases hu : u = i
        · subst hu
          rw [List.getElem?_set_self (by rw [wipe_length]; exact hτ)]
        · rw [List.getElem?_set_ne hu]
          rcases List.mem_cons.mp z with w | w
          · exact absurd w.symm hu
          · exact ih w hτ
    by_cases hτ : i < σ.length
    · rw [key σ vs hi hτ, key σ2 vs hi (by rw [o.1, wipe_length]; exact hτ)]
    · rw [List.getElem?_eq_none (by rw [wipe_length, o.1, wipe_length]; omega), List.getElem?_eq_none (by rw [wipe_length]; omega)]
  · rw [wipe_out1 hi]
    exact o.2 i fun z => hi (h i z)
/-- the block's reading -/
theorem tLc_of {P ps W} (hp : ∀ p ∈ ps, p.1 ∉ own.map (·.2)) (hsl : ∀ j ∈ sl, j ∈ own.map (·.2)) {σ H Q} (h : tM g P ps W (mComp (own.map (·.2)) fi t tt fe) σ H Q) (g2 : TG) (t2 : TT) (e2 : TE)
    (hg2 : ∀ (a : Addr) v σ H Q, tG g (Pl P a) ps sl t v σ H Q → g2 v σ H Q) (ht2 : ∀ (a : Addr) σ H Q, tB g (Pl P a) ps (fun _ _ _ _ => False) tt σ H Q → t2 σ H Q) (he2 : ∀ (a : Addr) σ H Q, tD g (Pl P a) ps (fun _ _ _ _ => False) fe σ H Q → e2 σ H Q) :
    tLc (tI g P ps W fi) g2 t2 e2 (own.map (·.2)) σ H Q := by
  obtain ⟨e, s, h⟩ := tM_eq.mp h
  refine ⟨e, s, h.bnd.mono fun ds e1 H1 go1 z J ok Dd hD => ?_⟩
  clear h
  have z : PM g P ps W e1 σ H1 (if (own.map (·.2)).all (noM e1) = true ∧ ds.length < 16777216 then match compL (own.map (·.2)) t tt fe ds (wipeE e1 (own.map (·.2))) with
    | .ok r e2 => .ok r (backE e2 e1 (own.map (·.2)))
    | _ => .bad
  else .bad) Q := z
  split at z
  case isFalse => exact z.elim
  rename_i hv
  obtain ⟨hv, hlen⟩ := hv
  cases hc : compL (own.map (·.2)) t tt fe ds (wipeE e1 (own.map (·.2))) with
  | bad => rw [hc] at z; exact z.elim
  | exc x e2 => rw [hc] at z; exact z.elim
  | ok res efin =>
  rw [hc] at z
  have nD : ¬ Av P e1 σ Dd := go1.st.fresh hD
  -- the start: the new list stands, the names are forgotten
  have gm0 : GoM g P ps e1 σ H1 Dd [] e1 σ (upd H1 Dd (.lst [])) := GoM.new go1.st hD (vs := []) rfl
  have gw : Go g (Pl P Dd) ps e1 σ (upd H1 Dd (.lst [])) (wipeE e1 (own.map (·.2))) (L2.wipe σ (own.map (·.2))) (upd H1 Dd (.lst [])) := gm0.st.wipe hp
  refine ⟨fun i m H2 => m = ds.length - i ∧ i ≤ ds.length ∧ ∃ e2 acc us rest, StRel g (Pl P Dd) ps e2 (L2.wipe σ (own.map (·.2))) H2 ∧ Kp (Av P e1 σ) H1 (Av (Pl P Dd) e2 (L2.wipe σ (own.map (·.2)))) H2 ∧ (∀ b, P b → H2 b = H1 b) ∧
      H2 Dd = some (.lst us) ∧ RepL g H2 (Av (Pl P Dd) e2 (L2.wipe σ (own.map (·.2)))) acc us ∧ acc.length ≤ i ∧ compL (own.map (·.2)) t tt fe (ds.drop i) e2 = .ok rest efin ∧ res = acc ++ rest,
    ⟨_, rfl, Nat.zero_le _, _, [], [], res, gw.st, ?_, fun b hb => ?_, upd_same, rfl, Nat.zero_le _, hc, rfl⟩, ?_⟩
  · exact fun b o q n => gw.kp b o (gm0.kp b o q n).1 ⟨(gm0.kp b o q n).2, n.2⟩
  · exact gm0.pr b hb
  rintro i m H2 ⟨rfl, hi, e2, acc, us, rest, s2, k2, p2, hD2, ra, hacc, hc2, hres⟩
  have goP : Go g P ps e1 σ H1 e2 (L2.wipe σ (own.map (·.2))) H2 := ⟨s2.mono fun _ w => .inl w, fun b o q n => ⟨(k2 b o q n).1, fun w => (k2 b o q n).2 (w.mono fun _ w => .inl w)⟩, p2⟩
  by_cases hlt : i < ds.length
  · obtain ⟨d, hd⟩ : ∃ d, ds[i]? = some d := ⟨ds[i], List.getElem?_eq_getElem hlt⟩
    obtain ⟨ok1, ok2⟩ := ok.go i d hd _ e2 _ H2 s2 k2
    rw [drop_get hd] at hc2
    refine .inr ⟨ok1, _, fun H' hN => ⟨ds.length - (i + 1), by omega, rfl, hlt, hN⟩, fun x H3 y => ?_⟩
    obtain ⟨sm3, rx⟩ := ok2 x H3 y
    have go3 := Go.same s2 sm3
    refine hg2 Dd _ _ _ _ ⟨e2, d, go3.st, rx, ?_⟩
    rw [compL] at hc2
    cases q4 : t d e2 with
    | none => rw [q4] at hc2; cases hc2
    | some e4 =>
    rw [q4, opt_some, bnd_ok] at hc2
    refine ⟨e4, rfl, fun σ4 H4 go4 o4 => ⟨wipe_only o4 hsl, ht2 Dd _ _ _ (tB_of go4.st ?_)⟩⟩
    cases q5 : tt e4 with
    | bad => rw [q5] at hc2; cases hc2
    | exc x e5 => rw [q5] at hc2; cases hc2
    | ok k e5 =>
    rw [q5, bnd_ok] at hc2
    intro H5 go5
    have g5 := go3.trans (go4.trans go5)
    have back : ∀ {e6 : Env} {H6 : Hp}, Go g (Pl P Dd) ps e2 (L2.wipe σ (own.map (·.2))) H2 e6 σ4 H6 → Go g (Pl P Dd) ps e2 (L2.wipe σ (own.map (·.2))) H2 (wipeE e6 (own.map (·.2))) (L2.wipe σ (own.map (·.2))) H6 := fun {e6 H6} g6 => by
      have w := g6.st.wipe (vs := own.map (·.2)) hp
      rw [wipe_only o4 hsl] at w
      exact g6.trans w
    cases k with
    | false =>
      rw [if_neg Bool.false_ne_true] at hc2 ⊢
      have g6 := back g5
      exact ⟨_, acc, us, rest, g6.st, fun b o q n => g6.kp b o (k2 b o q n).1 ⟨(k2 b o q n).2, n.2⟩, fun b w => (g6.pr b (.inl w)).trans (p2 b w), (g6.pr Dd (.inr rfl)).trans hD2, RepL.kp g6.kp _ _ ra, Nat.le_succ_of_le hacc, hc2, hres⟩
    | true =>
      rw [if_pos rfl] at hc2 ⊢
      cases q6 : fe e5 with
      | bad => rw [q6] at hc2; cases hc2
      | exc x e6 => rw [q6] at hc2; cases hc2
      | ok yd e6 =>
      rw [q6, bnd_ok] at hc2
      cases q7 : compL (own.map (·.2)) t tt fe (ds.drop (i + 1)) (wipeE e6 (own.map (·.2))) with
      | bad => rw [q7] at hc2; cases hc2
      | exc x e7 => rw [q7] at hc2; cases hc2
      | ok r7 e7 =>
      rw [q7, bnd_ok] at hc2
      cases hc2
      refine he2 Dd _ _ _ (tD_of go5.st ?_)
      rw [q6]
      intro H6 go6 w rw'
      have g6 := g5.trans go6
      have hD6 : H6 Dd = some (.lst us) := (g6.pr Dd (.inr rfl)).trans hD2
      have racc := RepL.kp g6.kp _ _ ra
      refine ⟨us, hD6, by rw [sizeLine_eq, ← racc.length]; omega, ?_⟩
      -- the new list grows
      have g7 := back g6
      have nAv : ∀ b, Av P (wipeE e6 (own.map (·.2))) (L2.wipe σ (own.map (·.2))) b → b ≠ Dd := fun b z w => by
        subst w
        rcases z with z | ⟨j, es, z1, z2⟩
        · exact nD (.inl z)
        · obtain ⟨c, ws, h1, _, _, h4⟩ := g7.st.mm j es z1
          rw [z2] at h1
          cases h1
          exact h4 (.inr rfl)
      have kD : Kp (Av (Pl P Dd) (wipeE e6 (own.map (·.2))) (L2.wipe σ (own.map (·.2)))) H6 (Av (Pl P Dd) (wipeE e6 (own.map (·.2))) (L2.wipe σ (own.map (·.2)))) (upd H6 Dd (.lst (us ++ [w]))) := fun b o q n => by
        have nb : b ≠ Dd := fun z => n.1 (by rw [z]; exact .inl (.inr rfl))
        exact ⟨by rw [upd_ne nb]; exact q, n.1⟩
      have w7 := (go6.st.wipe (vs := own.map (·.2)) hp)
      rw [wipe_only o4 hsl] at w7
      have rw7 : Rep g H6 (Av (Pl P Dd) (wipeE e6 (own.map (·.2))) (L2.wipe σ (own.map (·.2)))) yd w := Rep.kp w7.kp _ _ rw'
      refine ⟨_, acc ++ [yd], us ++ [w], r7, ⟨g7.st.len, fun j d' z => ?_, fun j es z => ?_, g7.st.inj, fun b z => ?_, g7.st.par, tabs_upd g7.st.tb hD6⟩, fun b o q n => ?_, fun b z => ?_, upd_same, ?_, ?_, q7, by rw [hres, List.append_assoc]; rfl⟩
      · obtain ⟨v, h1, h2⟩ := g7.st.vv j d' z
        exact ⟨v, h1, Rep.kp kD _ _ h2⟩
      · obtain ⟨c, ws, h1, h2, h3, h4⟩ := g7.st.mm j es z
        have nc : c ≠ Dd := fun y => h4 (.inr y)
        exact ⟨c, ws, h1, by rw [upd_ne nc]; exact h2, RepL.kp kD _ _ h3, h4⟩
      · by_cases hb : b = Dd
        · rw [hb, upd_same]; exact ⟨_, rfl, nc_lst⟩
        · rw [upd_ne hb]; exact g7.st.prv b z
      · obtain ⟨h1, h2⟩ := g7.kp b o (k2 b o q n).1 ⟨(k2 b o q n).2, n.2⟩
        exact kD b o h1 ⟨h2, n.2⟩
      · have hb : b ≠ Dd := fun y => nD (.inl (by rw [← y]; exact z))
        rw [upd_ne hb]
        exact (g7.pr b (.inl z)).trans (p2 b z)
      · exact RepL.kp kD _ _ (RepL.append (RepL.kp w7.kp _ _ racc) ⟨w, [], rfl, rw7, rfl⟩)
      · rw [List.length_append]
        simp only [List.length_cons, List.length_nil]
        omega
  · have e9 : i = ds.length := by omega
    subst e9
    rw [List.drop_length] at hc2
    cases hc2
    refine .inl ⟨ok.stop _ _ _ H2 s2 k2, ?_⟩
    rw [List.append_nil] at hres
    subst hres
    exact z _ _ (GoM.unwipe go1.st hv s2 k2 p2 (fun w => nD (.inl w)) hD2 ra)
theorem dm_comp (hN : X.N.Nodup) (hc : X.calm = true) (hi : DI g mp X tg iter fi) (ok : BlkOk X.N X.env.scope scope own)
    (hg : ∀ (s : Shared) (H : Hp) (C : Addr) (cl : List (Str × Addr)) (fp : List Addr), DG g mp (X.blk s H scope (compEnvC scope cl C X.env) fp) tg sl t) (ht : ∀ (s : Shared) (H : Hp) (C : Addr) (cl : List (Str × Addr)) (fp : List Addr), DTs g mp (X.blk s H scope (compEnvC scope cl C X.env) fp) ifs tt)
    (he : ∀ (s : Shared) (H : Hp) (C : Addr) (cl : List (Str × Addr)) (fp : List Addr), DE g mp (X.blk s H scope (compEnvC scope cl C X.env) fp) elt fe) (hm : ∀ j ∈ own.map (·.2), j ∉ mp := by decide) (hsl : ∀ j ∈ sl, j ∈ own.map (·.2) := by decide) (hs : ∀ x, foldedSetIterable iter X.env x = pure x := by intro _; rfl) :
    DM g mp X (.ListComp elt [⟨tg, iter, ifs, 0⟩] scope pos) (mComp (own.map (·.2)) fi t tt fe) := ⟨fun P ps W hp tk => by
  have hpo : ∀ p ∈ ps, p.1 ∉ own.map (·.2) := fun p h z => hm _ z (by rw [← hp]; exact List.mem_map_of_mem h)
  refine ⟨fun pins s σ H Q I q => ?_⟩
  refine (pe_lc (g := fun v σ H Q => ∃ a, tG g (Pl P a) ps sl t v σ H Q) (tt := fun σ H Q => ∃ a, tB g (Pl P a) ps (fun _ _ _ _ => False) tt σ H Q) (te := fun σ H Q => ∃ a, tD g (Pl P a) ps (fun _ _ _ _ => False) fe σ H Q) hc hN (hi.run P ps W hp tk) ok (fun s H C cl fp => ?_) (fun s H C cl fp => ?_) (fun s H C cl fp => ?_) hs).run pins s σ H Q I
    (tLc_of hpo hsl q _ _ _ (fun a v σ H Q z => ⟨a, z⟩) (fun a σ H Q z => ⟨a, z⟩) (fun a σ H Q z => ⟨a, z⟩))
  · exact ⟨fun pins s' σ' H' v u Q I r ⟨a, z⟩ => ((hg s H C cl fp).run (Pl P a) ps hp).run pins s' σ' H' v u Q I r z⟩
  · exact ⟨fun pins s' σ' H' Q I ⟨a, z⟩ => ((ht s H C cl fp).run (Pl P a) ps _ hp takes0).run pins s' σ' H' Q I z⟩
  · exact ⟨fun pins s' σ' H' Q I ⟨a, z⟩ => ((he s H C cl fp).run (Pl P a) ps _ hp takes0).run pins s' σ' H' Q I z⟩⟩
end
end DL
end

section
set_option Elab.async false
set_option linter.all false
set_option maxRecDepth 100000
set_option maxHeartbeats 4000000
namespace DL
open PySem PySem.Spec PyProof.Rows L2

/-! ### a def as a function on data -/
inductive RF where
  | ok (s : Slot) (outs : List (List D))
  | exc (x : Xc) (outs : List (List D))
  | bad
def startE (n : Nat) (ss : List Slot) : Env := ss.map some ++ List.replicate (n - ss.length) none
def outM (mp : List Nat) (e : Env) : List (List D) := mp.map fun i => (mAt e i).getD []
def fin (mp : List Nat) (r : RS) : RF := match r with
  | .nx e => .ok (.v .non) (outM mp e)
  | .rt s e => .ok s (outM mp e)
  | .exc x e => .exc x (outM mp e)
  | _ => .bad
@[simp] theorem fin_nx {mp e} : fin mp (.nx e) = .ok (.v .non) (outM mp e) := rfl
@[simp] theorem fin_rt {mp s e} : fin mp (.rt s e) = .ok s (outM mp e) := rfl
@[simp] theorem fin_exc {mp x e} : fin mp (.exc x e) = .exc x (outM mp e) := rfl

def AP (P : Addr → Prop) (ps : List (Nat × Addr)) : Addr → Prop := fun a => P a ∨ ∃ p ∈ ps, p.2 = a
structure After (g : G) (P : Addr → Prop) (ps : List (Nat × Addr)) (A : Addr → Prop) (outs : List (List D)) (H H' : Hp) : Prop where
  kp : Kp (AP P ps) H A H'
  pr : ∀ a, P a → H' a = H a
  len : outs.length = ps.length
  tb : LamX.Tabs g.T H'
  out : ∀ (j : Nat) (p : Nat × Addr) (ds : List D), ps[j]? = some p → outs[j]? = some ds → ∃ vs, H' p.2 = some (.lst vs) ∧ RepL g H' A ds vs
structure AfterM (g : G) (P : Addr → Prop) (ps : List (Nat × Addr)) (outs : List (List D)) (H : Hp) (a : Addr) (ds : List D) (H' : Hp) : Prop where
  af : After g P ps (AP (Pl P a) ps) outs H H'
  na : ¬ AP P ps a
  at_ : ∃ vs, H' a = some (.lst vs) ∧ RepL g H' (AP (Pl P a) ps) ds vs
def ROK (g : G) (P : Addr → Prop) (ps : List (Nat × Addr)) (H : Hp) (r : RF) (Q : VK) (E : XK) : Prop := match r with
  | .ok (.v d) outs => ∀ v H', After g P ps (AP P ps) outs H H' → Rep g H' (AP P ps) d v → Q v H'
  | .ok (.m ds) outs => ∀ a H', AfterM g P ps outs H a ds H' → Q (.ref a) H'
  | .exc x outs => ∀ cls d H', After g P ps (AP P ps) outs H H' → XRep g H' (AP P ps) x cls d → E cls d H'
  | .bad => False
/-- a def's promise; n slots, m parameters, those at mp are lists to be changed -/
def spD (g : G) (N : List Str) (mp : List Nat) (m : Nat) (F : List Slot → RF) : Sp := fun vs H Q E => vs.length = m ∧ ∃ P ps ss, ps.map (·.1) = mp ∧ ss.length = vs.length ∧ StRel g P ps (startE N.length ss) (L2.start N vs) H ∧ (∀ a, Av P (startE N.length ss) (L2.start N vs) a → AP P ps a) ∧ ROK g P ps H (F ss) Q E

section
variable {g : G} {P : Addr → Prop} {ps : List (Nat × Addr)} {mp : List Nat} {e e' : Env} {σ σ' : L2.St} {H H' : Hp}
theorem StRel.ap (s : StRel g P ps e σ H) {a : Addr} (h : AP P ps a) : Av P e σ a := by
  rcases h with h | ⟨p, hp, rfl⟩
  · exact .inl h
  · obtain ⟨h1, ds, h2⟩ := s.par p hp
    exact .inr ⟨p.1, ds, h2, h1⟩
theorem StRel.outs (s : StRel g P ps e σ H) (hm : ps.map (·.1) = mp) {j : Nat} {p : Nat × Addr} {ds : List D} (q : ps[j]? = some p) (q2 : (outM mp e)[j]? = some ds) : ∃ vs, H p.2 = some (.lst vs) ∧ RepL g H (AP P ps) ds vs := by
  obtain ⟨h1, es, h2⟩ := s.par p (List.mem_of_getElem? q)
  obtain ⟨a, vs, z1, z2, z3, z4⟩ := s.mm _ _ h2
  rw [h1] at z1
  cases z1
  subst hm
  unfold outM at q2
  rw [List.map_map, List.getElem?_map, q] at q2
  have q2 : (mAt e p.1).getD [] = ds := by simpa using q2
  have : mAt e p.1 = some es := by unfold mAt; rw [h2]
  rw [this] at q2
  have q2 : es = ds := q2
  subst q2
  exact ⟨vs, z2, RepL.mono (fun a z => s.ap z) z3⟩
theorem Go.after (x : Go g P ps e σ H e' σ' H') (hm : ps.map (·.1) = mp) (hA : ∀ a, Av P e σ a → AP P ps a) : After g P ps (AP P ps) (outM mp e') H H' :=
  ⟨fun b o q n => ⟨(x.kp b o q ⟨fun z => n.1 (hA b z), n.2⟩).1, fun z => (x.kp b o q ⟨fun z => n.1 (hA b z), n.2⟩).2 (x.st.ap z)⟩, x.pr, by unfold outM; rw [List.length_map, ← hm, List.length_map], x.st.tb, fun j p ds q q2 => x.st.outs hm q q2⟩
theorem GoM.after {a ds} (x : GoM g P ps e σ H a ds e' σ' H') (hm : ps.map (·.1) = mp) (hA : ∀ a, Av P e σ a → AP P ps a) : AfterM g P ps (outM mp e') H a ds H' := by
  refine ⟨⟨fun b o q n => ⟨(x.kp b o q ⟨fun z => n.1 (hA b z), n.2⟩).1, fun z => (x.kp b o q ⟨fun z => n.1 (hA b z), n.2⟩).2 (x.st.ap z)⟩, x.pr, by unfold outM; rw [List.length_map, ← hm, List.length_map], x.st.tb, fun j p ds q q2 => x.st.outs hm q q2⟩, ?_, ?_⟩
  · rintro (z | ⟨p, hp, rfl⟩)
    · exact x.np z
    · obtain ⟨h1, es, h2⟩ := x.st.par p hp
      obtain ⟨b, us, r1, _, _, r4⟩ := x.st.mm _ _ h2
      rw [h1] at r1
      cases r1
      exact r4 (.inr rfl)
  · obtain ⟨vs, h1, h2⟩ := x.at_
    exact ⟨vs, h1, RepL.mono (fun b z => x.st.ap z) h2⟩
end
/-- THE RULE for a def -/
theorem fn_okD {g : G} {Pr : Program} {w : World} {K : PySem.W.Frag} {mg : Str → Option Value} {base : Heap} {x qual : Str} {st : Stmt} {f : Addr} {fd : FuncData} {N pn : List Str} {k : Nat} {mp : List Nat} {fb : Env → RS} (F : Fun K x qual st f fd) (S : FnScope N pn (defScope st))
    (hbody : ∀ (cdv : Value) (A : Around) (outer : List PySem.Env) (s : Shared) (H : Hp) (E : XK), Room k (A.deeper (envOfC qual (defScope st) s.heap.objs.size f cdv)) →
      DSs g mp (cxOf (L2.CX Pr w) Pr w K mg base N qual (defScope st) f cdv A outer s H E) (defBody st) fb) :
    FnOk Pr w K mg base (L2.CX Pr w) (k + 1) f fd pn (spD g N mp pn.length fun ss => fin mp (fb (startE N.length ss))) := by
  refine F.okX S (fun vs H Q E h => h.1) fun cdv A outer s H vs Q E hr hsp => ?_
  obtain ⟨_, P, ps, ss, hm, hl, st, hA, hR⟩ := hsp
  refine ⟨_, (hbody cdv A outer s H E hr).run P ps (fun cls d _ H' => E cls d H') hm (takes_of rfl rfl rfl rfl), ?_⟩
  refine tS_eq.mpr ⟨_, st, ?_⟩
  replace hR : ROK g P ps H (fin mp (fb (startE N.length ss))) Q E := hR
  revert hR
  cases fb (startE N.length ss) with
  | nx e' => exact fun hR σ' H' go => hR .non H' (go.after hm hA) rfl
  | rt z e' => cases z with
    | v d => exact fun hR v σ' H' go rv => hR v H' (go.after hm hA) (Rep.mono (fun a z => go.st.ap z) rv)
    | m ds => exact fun hR a σ' H' gm => hR a H' (gm.after hm hA)
  | bk e' => exact fun hR => hR.elim
  | ct e' => exact fun hR => hR.elim
  | exc y e' => exact fun hR cls d σ' H' go rx => hR cls d H' (go.after hm hA) (XRep.kp (fun b o q n => ⟨q, fun z => n.1 (go.st.ap z)⟩) rx)
  | bad => exact fun hR => hR.elim

/-! ### the call -/
def psN : Nat → List (Option Nat) → List (Nat × Nat)
  | _, [] => []
  | k, none :: sh => psN (k + 1) sh
  | k, some i :: sh => (k, i) :: psN (k + 1) sh
def adr (σ : L2.St) (i : Nat) : Addr := match σ[i]? with
  | some (some (.ref a)) => a
  | _ => 0
theorem adr_of {σ : L2.St} {i : Nat} {a : Addr} (h : σ[i]? = some (some (.ref a))) : adr σ i = a := by unfold adr; rw [h]
def psA (σ : L2.St) (l : List (Nat × Nat)) : List (Nat × Addr) := l.map fun p => (p.1, adr σ p.2)
def mkS : List (Option Nat) → List D → Env → Option (List Slot)
  | [], _, _ => some []
  | none :: sh, ds, e => match ds with
    | [] => none
    | d :: ds => (mkS sh ds e).map (Slot.v d :: ·)
  | some i :: sh, ds, e => match mAt e i with
    | some l => (mkS sh ds e).map (Slot.m l :: ·)
    | none => none
def ArgV (g : G) (H : Hp) (A : Addr → Prop) (σ : L2.St) : List (Option Nat) → List D → List V → Prop
  | [], _, vs => vs = []
  | none :: sh, ds, vs => ∃ d ds' v vs', ds = d :: ds' ∧ vs = v :: vs' ∧ Rep g H A d v ∧ ArgV g H A σ sh ds' vs'
  | some i :: sh, ds, vs => ∃ a vs', vs = .ref a :: vs' ∧ σ[i]? = some (some (.ref a)) ∧ ArgV g H A σ sh ds vs'
theorem mkS_none {sh ds e ss} (h : mkS (none :: sh) ds e = some ss) : ∃ d ds' ss', ds = d :: ds' ∧ mkS sh ds' e = some ss' ∧ ss = .v d :: ss' := by
  cases ds with
  | nil => cases h
  | cons d ds =>
    have h : (mkS sh ds e).map (Slot.v d :: ·) = some ss := h
    obtain ⟨ss', h1, h2⟩ := Option.map_eq_some_iff.mp h
    exact ⟨d, ds, ss', rfl, h1, h2.symm⟩
theorem mkS_some {i sh ds e ss} (h : mkS (some i :: sh) ds e = some ss) : ∃ l ss', mAt e i = some l ∧ mkS sh ds e = some ss' ∧ ss = .m l :: ss' := by
  unfold mkS at h
  split at h
  · rename_i l q
    obtain ⟨ss', h1, h2⟩ := Option.map_eq_some_iff.mp h
    exact ⟨l, ss', q, h1, h2.symm⟩
  · cases h
theorem ArgV.kp {g : G} {H H' : Hp} {A A' : Addr → Prop} {σ : L2.St} (k : Kp A H A' H') : ∀ {sh : List (Option Nat)} {ds : List D} {vs : List V}, ArgV g H A σ sh ds vs → ArgV g H' A' σ sh ds vs
  | [], _, _, h => h
  | none :: sh, _, _, ⟨d, ds', v, vs', e1, e2, r, q⟩ => ⟨d, ds', v, vs', e1, e2, Rep.kp k _ _ r, q.kp k⟩
  | some i :: sh, _, _, ⟨a, vs', e1, e2, q⟩ => ⟨a, vs', e1, e2, q.kp k⟩
section
variable {g : G} {H : Hp} {A : Addr → Prop} {σ : L2.St} {e : Env}
theorem arg_len : ∀ {sh : List (Option Nat)} {ds : List D} {ss : List Slot} {vs : List V}, mkS sh ds e = some ss → ArgV g H A σ sh ds vs → ss.length = vs.length ∧ vs.length = sh.length
  | [], ds, ss, vs, h, q => by cases h; rw [show vs = [] from q]; exact ⟨rfl, rfl⟩
  | none :: sh, ds, ss, vs, h, q => by
    obtain ⟨d, ds', ss', rfl, h1, rfl⟩ := mkS_none h
    obtain ⟨d2, ds2, v, vs', e1, rfl, _, q⟩ := q
    cases e1
    obtain ⟨z1, z2⟩ := arg_len h1 q
    exact ⟨by simp [z1], by simp [z2]⟩
  | some i :: sh, ds, ss, vs, h, q => by
    obtain ⟨l, ss', _, h1, rfl⟩ := mkS_some h
    obtain ⟨a, vs', rfl, _, q⟩ := q
    obtain ⟨z1, z2⟩ := arg_len h1 q
    exact ⟨by simp [z1], by simp [z2]⟩
theorem arg_v : ∀ {sh : List (Option Nat)} {ds : List D} {ss : List Slot} {vs : List V} {k : Nat} {d : D}, mkS sh ds e = some ss → ArgV g H A σ sh ds vs → ss[k]? = some (.v d) → ∃ v, vs[k]? = some v ∧ Rep g H A d v
  | [], ds, ss, vs, k, d, h, q, z => by cases h; simp at z
  | none :: sh, ds, ss, vs, k, d, h, q, z => by
    obtain ⟨d1, ds', ss', rfl, h1, rfl⟩ := mkS_none h
    obtain ⟨d2, ds2, v, vs', e1, rfl, r, q⟩ := q
    cases e1
    cases k with
    | zero => cases z; exact ⟨v, rfl, r⟩
    | succ k => exact arg_v (k := k) h1 q (by simpa using z)
  | some i :: sh, ds, ss, vs, k, d, h, q, z => by
    obtain ⟨l, ss', _, h1, rfl⟩ := mkS_some h
    obtain ⟨a, vs', rfl, _, q⟩ := q
    cases k with
    | zero => cases z
    | succ k => exact arg_v (k := k) h1 q (by simpa using z)
theorem arg_m : ∀ {sh : List (Option Nat)} {ds : List D} {ss : List Slot} {vs : List V} {j k : Nat} {l : List D}, mkS sh ds e = some ss → ArgV g H A σ sh ds vs → ss[k]? = some (.m l) → ∃ i a, (j + k, i) ∈ psN j sh ∧ mAt e i = some l ∧ vs[k]? = some (.ref a) ∧ σ[i]? = some (some (.ref a))
  | [], ds, ss, vs, j, k, d, h, q, z => by cases h; simp at z
  | none :: sh, ds, ss, vs, j, k, d, h, q, z => by
    obtain ⟨d1, ds', ss', rfl, h1, rfl⟩ := mkS_none h
    obtain ⟨d2, ds2, v, vs', e1, rfl, r, q⟩ := q
    cases e1
    cases k with
    | zero => cases z
    | succ k =>
      obtain ⟨i, a, y1, y2⟩ := arg_m (j := j + 1) (k := k) h1 q (by simpa using z)
      exact ⟨i, a, by unfold psN; rw [show j + (k + 1) = j + 1 + k by omega]; exact y1, by simpa using y2⟩
  | some i :: sh, ds, ss, vs, j, k, d, h, q, z => by
    obtain ⟨l, ss', q1, h1, rfl⟩ := mkS_some h
    obtain ⟨a, vs', rfl, q2, q⟩ := q
    cases k with
    | zero => cases z; exact ⟨i, a, by unfold psN; exact List.mem_cons_self .., q1, rfl, q2⟩
    | succ k =>
      obtain ⟨i', a', y1, y2⟩ := arg_m (j := j + 1) (k := k) h1 q (by simpa using z)
      exact ⟨i', a', by unfold psN; rw [show j + (k + 1) = j + 1 + k by omega]; exact List.mem_cons_of_mem _ y1, by simpa using y2⟩
theorem arg_p : ∀ {sh : List (Option Nat)} {ds : List D} {ss : List Slot} {vs : List V} {j : Nat} {p : Nat × Nat}, mkS sh ds e = some ss → ArgV g H A σ sh ds vs → p ∈ psN j sh → ∃ k l a, p.1 = j + k ∧ ss[k]? = some (.m l) ∧ mAt e p.2 = some l ∧ vs[k]? = some (.ref a) ∧ σ[p.2]? = some (some (.ref a))
  | [], ds, ss, vs, j, p, h, q, z => by simp [psN] at z
  | none :: sh, ds, ss, vs, j, p, h, q, z => by
    obtain ⟨d1, ds', ss', rfl, h1, rfl⟩ := mkS_none h
    obtain ⟨d2, ds2, v, vs', e1, rfl, r, q⟩ := q
    cases e1
    unfold psN at z
    obtain ⟨k, l, a, y1, y2, y3, y4, y5⟩ := arg_p h1 q z
    exact ⟨k + 1, l, a, by omega, by simpa using y2, y3, by simpa using y4, y5⟩
  | some i :: sh, ds, ss, vs, j, p, h, q, z => by
    obtain ⟨l, ss', q1, h1, rfl⟩ := mkS_some h
    obtain ⟨a, vs', rfl, q2, q⟩ := q
    unfold psN at z
    rcases List.mem_cons.mp z with rfl | z
    · exact ⟨0, l, a, rfl, rfl, q1, rfl, q2⟩
    · obtain ⟨k, l', a', y1, y2, y3, y4, y5⟩ := arg_p h1 q z
      exact ⟨k + 1, l', a', by omega, by simpa using y2, y3, by simpa using y4, y5⟩
end
def putO : List (Nat × Nat) → List (List D) → Env → Env
  | p :: r, o :: os, e => putO r os (e.set p.2 (some (.m o)))
  | _, _, e => e
theorem putO_len : ∀ {l : List (Nat × Nat)} {os : List (List D)} {e : Env}, (putO l os e).length = e.length
  | [], os, e => by unfold putO; rfl
  | p :: r, [], e => by unfold putO; rfl
  | p :: r, o :: os, e => by unfold putO; rw [putO_len, List.length_set]
theorem putO_out : ∀ {l : List (Nat × Nat)} {os : List (List D)} {e : Env} {j : Nat}, (∀ p ∈ l, p.2 ≠ j) → (putO l os e)[j]? = e[j]?
  | [], os, e, j, h => by unfold putO; rfl
  | p :: r, [], e, j, h => by unfold putO; rfl
  | p :: r, o :: os, e, j, h => by
    unfold putO
    rw [putO_out fun q hq => h q (List.mem_cons_of_mem _ hq), List.getElem?_set_ne (h p (List.mem_cons_self ..))]
theorem putO_in : ∀ {l : List (Nat × Nat)} {os : List (List D)} {e : Env} {t : Nat} {p : Nat × Nat} {o : List D}, (l.map (·.2)).Nodup → l[t]? = some p → os[t]? = some o → p.2 < e.length → (putO l os e)[p.2]? = some (some (.m o))
  | [], os, e, t, p, o, h, q, z, y => by simp at q
  | p :: r, [], e, t, p', o, h, q, z, y => by simp at z
  | p :: r, o :: os, e, 0, p', o', h, q, z, y => by
    simp at q z
    subst q z
    unfold putO
    rw [putO_out fun b hb w => (List.nodup_cons.mp h).1 (List.mem_map.mpr ⟨b, hb, w⟩), List.getElem?_set_self y]
  | p :: r, o :: os, e, t + 1, p', o', h, q, z, y => by
    unfold putO
    exact putO_in (List.nodup_cons.mp h).2 (by simpa using q) (by simpa using z) (by rw [List.length_set]; exact y)
theorem nd_inj {l : List (Nat × Nat)} (h : (l.map (·.2)).Nodup) {p q : Nat × Nat} (hp : p ∈ l) (hq : q ∈ l) (e : p.2 = q.2) : p = q := by
  induction l with
  | nil => cases hp
  | cons b r ih =>
    obtain ⟨h1, h2⟩ := List.nodup_cons.mp h
    rcases List.mem_cons.mp hp with ep | hp
    · rcases List.mem_cons.mp hq with eq | hq
      · rw [ep, eq]
      · exact (h1 (List.mem_map.mpr ⟨q, hq, by rw [← e, ep]⟩)).elim
    · rcases List.mem_cons.mp hq with eq | hq
      · exact (h1 (List.mem_map.mpr ⟨p, hp, by rw [e, eq]⟩)).elim
      · exact ih h2 hp hq

section
variable {g : G} {P : Addr → Prop} {ps : List (Nat × Addr)} {e : Env} {σ : L2.St} {H H' : Hp} {sh : List (Option Nat)} {ds : List D} {ss : List Slot} {vs : List V}
/-- what the callee must leave alone -/
def PC (P : Addr → Prop) (e : Env) (σ : L2.St) (sh : List (Option Nat)) : Addr → Prop := fun a => Av P e σ a ∧ ∀ p ∈ psA σ (psN 0 sh), p.2 ≠ a
theorem mAt_of {e : Env} {i : Nat} {ds : List D} (h : mAt e i = some ds) : e[i]? = some (some (.m ds)) := mAt_some h
theorem ap_av (hs : mkS sh ds e = some ss) (hv : ArgV g H (Av P e σ) σ sh ds vs) {a : Addr} : AP (PC P e σ sh) (psA σ (psN 0 sh)) a ↔ Av P e σ a := by
  constructor
  · rintro (h | ⟨p, hp, rfl⟩)
    · exact h.1
    · obtain ⟨p, hp', rfl⟩ := List.mem_map.mp hp
      obtain ⟨k, l, a, _, _, y3, _, y5⟩ := arg_p hs hv hp'
      exact .inr ⟨p.2, l, mAt_of y3, by rw [show (p.1, adr σ p.2).2 = a from adr_of y5]; exact y5⟩
  · intro h
    by_cases q : ∃ p ∈ psA σ (psN 0 sh), p.2 = a
    · exact .inr q
    · exact .inl ⟨h, fun p hp z => q ⟨p, hp, z⟩⟩
theorem startE_get {n : Nat} {ss : List Slot} {i : Nat} {s : Slot} (h : (startE n ss)[i]? = some (some s)) : ss[i]? = some s := by
  unfold startE at h
  by_cases hl : i < ss.length
  · rw [List.getElem?_append_left (by simpa using hl), List.getElem?_map] at h
    cases q : ss[i]? with
    | none => rw [q] at h; cases h
    | some u => rw [q] at h; cases h; rfl
  · rw [List.getElem?_append_right (by simpa using hl)] at h
    have := List.mem_of_getElem? h
    have := List.eq_of_mem_replicate this
    cases this
theorem startE_of {n : Nat} {ss : List Slot} {i : Nat} {s : Slot} (h : ss[i]? = some s) : (startE n ss)[i]? = some (some s) := by
  unfold startE
  have hl : i < ss.length := (List.getElem?_eq_some_iff.mp h).1
  rw [List.getElem?_append_left (by simpa using hl), List.getElem?_map, h]
  rfl
theorem start_of {N : List Str} {vs : List V} {i : Nat} {v : V} (h : vs[i]? = some v) : (L2.start N vs)[i]? = some (some v) := by
  unfold L2.start
  have hl : i < vs.length := (List.getElem?_eq_some_iff.mp h).1
  rw [List.getElem?_append_left (by simpa using hl), List.getElem?_map, h]
  rfl
theorem call_in (s : StRel g P ps e σ H) (N : List Str) (hs : mkS sh ds e = some ss) (hv : ArgV g H (Av P e σ) σ sh ds vs) (nd : ((psN 0 sh).map (·.2)).Nodup) :
    StRel g (PC P e σ sh) (psA σ (psN 0 sh)) (startE N.length ss) (L2.start N vs) H ∧ ∀ a, Av (PC P e σ sh) (startE N.length ss) (L2.start N vs) a → AP (PC P e σ sh) (psA σ (psN 0 sh)) a := by
  have ll := (arg_len hs hv).1
  have mk : ∀ {i : Nat} {l : List D}, (startE N.length ss)[i]? = some (some (.m l)) → ∃ i' a, (i, i') ∈ psN 0 sh ∧ e[i']? = some (some (.m l)) ∧ (L2.start N vs)[i]? = some (some (.ref a)) ∧ σ[i']? = some (some (.ref a)) := fun {i l} h => by
    obtain ⟨i', a, h1, h2, h3, h4⟩ := arg_m (j := 0) hs hv (startE_get h)
    rw [Nat.zero_add] at h1
    exact ⟨i', a, h1, mAt_of h2, start_of h3, h4⟩
  have hA : ∀ a, Av (PC P e σ sh) (startE N.length ss) (L2.start N vs) a → Av P e σ a := fun a h => by
    rcases h with h | ⟨i, l, h1, h2⟩
    · exact h.1
    · obtain ⟨i', a', _, q2, q3, q4⟩ := mk h1
      rw [h2] at q3
      cases q3
      exact .inr ⟨i', l, q2, q4⟩
  refine ⟨⟨?_, fun i d q => ?_, fun i l q => ?_, fun i j a l l' q1 q2 r1 r2 => ?_, fun a h => Av.nc s h.1, fun p hp => ?_, s.tb⟩, fun a h => (ap_av hs hv).mpr (hA a h)⟩
  · unfold startE L2.start
    rw [List.length_append, List.length_append, List.length_map, List.length_map, List.length_replicate, List.length_replicate, ll]
  · obtain ⟨v, h1, h2⟩ := arg_v hs hv (startE_get q)
    exact ⟨v, start_of h1, Rep.mono hA h2⟩
  · obtain ⟨i', a, q1, q2, q3, q4⟩ := mk q
    obtain ⟨a', us, z1, z2, z3, z4⟩ := s.mm _ _ q2
    rw [q4] at z1
    cases z1
    exact ⟨a, us, q3, z2, RepL.mono hA z3, fun w => w.2 _ (List.mem_map_of_mem q1) (adr_of q4)⟩
  · obtain ⟨i', a1, h1, h2, h3, h4⟩ := mk q1
    obtain ⟨j', a2, k1, k2, k3, k4⟩ := mk q2
    rw [r1] at h3
    cases h3
    rw [r2] at k3
    cases k3
    have w := s.inj _ _ _ _ _ h2 k2 h4 k4
    exact congrArg Prod.fst (nd_inj nd h1 k1 w)
  · obtain ⟨p, hp', rfl⟩ := List.mem_map.mp hp
    obtain ⟨k, l, a, y1, y2, y3, y4, y5⟩ := arg_p hs hv hp'
    rw [Nat.zero_add] at y1
    refine ⟨?_, l, ?_⟩
    · show (L2.start N vs)[p.1]? = some (some (.ref (adr σ p.2)))
      rw [adr_of y5, y1]
      exact start_of y4
    · show (startE N.length ss)[p.1]? = _
      rw [y1]
      exact startE_of y2
theorem call_out (s : StRel g P ps e σ H) (hs : mkS sh ds e = some ss) (hv : ArgV g H (Av P e σ) σ sh ds vs) (nd : ((psN 0 sh).map (·.2)).Nodup) {A Px : Addr → Prop} {outs : List (List D)} (af : After g (PC P e σ sh) (psA σ (psN 0 sh)) A outs H H')
    (hPx : ∀ b, Px b → P b ∨ (¬ Av P e σ b ∧ ∃ o, H' b = some o ∧ NC o)) (hA : ∀ b, Px b ∨ Av P e σ b → A b) :
    StRel g Px ps (putO (psN 0 sh) outs e) σ H' ∧ Kp (Av P e σ) H (Av Px (putO (psN 0 sh) outs e) σ) H' ∧ ∀ a, P a → H' a = H a := by
  have lo : outs.length = (psN 0 sh).length := by rw [af.len]; unfold psA; rw [List.length_map]
  -- a slot that was handed over
  have sl : ∀ {p : Nat × Nat}, p ∈ psN 0 sh → ∃ l a, e[p.2]? = some (some (.m l)) ∧ σ[p.2]? = some (some (.ref a)) := fun {p} hp => by
    obtain ⟨k, l, a, _, _, y3, _, y5⟩ := arg_p hs hv hp
    exact ⟨l, a, mAt_of y3, y5⟩
  have inn : ∀ {p : Nat × Nat}, p ∈ psN 0 sh → ∃ t o, (psN 0 sh)[t]? = some p ∧ outs[t]? = some o ∧ (putO (psN 0 sh) outs e)[p.2]? = some (some (.m o)) := fun {p} hp => by
    obtain ⟨t, ht, hq⟩ := List.getElem_of_mem hp
    have hq : (psN 0 sh)[t]? = some p := by rw [List.getElem?_eq_getElem ht, hq]
    have ho : outs[t]? = some outs[t] := List.getElem?_eq_getElem (by omega)
    obtain ⟨l, a, h1, _⟩ := sl hp
    exact ⟨t, _, hq, ho, putO_in nd hq ho (List.getElem?_eq_some_iff.mp h1).1⟩
  have out : ∀ {j : Nat}, (∀ p ∈ psN 0 sh, p.2 ≠ j) → (putO (psN 0 sh) outs e)[j]? = e[j]? := fun h => putO_out h
  have dec : ∀ j : Nat, (∃ p ∈ psN 0 sh, p.2 = j) ∨ (∀ p ∈ psN 0 sh, p.2 ≠ j) := fun j => by
    by_cases h : ∃ p ∈ psN 0 sh, p.2 = j
    · exact .inl h
    · exact .inr fun p hp z => h ⟨p, hp, z⟩
  have m1 : ∀ {j : Nat} {l : List D}, (putO (psN 0 sh) outs e)[j]? = some (some (.m l)) → ∃ l', e[j]? = some (some (.m l')) := fun {j l} h => by
    rcases dec j with ⟨p, hp, rfl⟩ | hj
    · obtain ⟨l', a, h1, _⟩ := sl hp
      exact ⟨l', h1⟩
    · rw [out hj] at h
      exact ⟨l, h⟩
  have m2 : ∀ {j : Nat} {l : List D}, e[j]? = some (some (.m l)) → ∃ l', (putO (psN 0 sh) outs e)[j]? = some (some (.m l')) := fun {j l} h => by
    rcases dec j with ⟨p, hp, rfl⟩ | hj
    · obtain ⟨t, o, _, _, z⟩ := inn hp
      exact ⟨o, z⟩
    · exact ⟨l, by rw [out hj]; exact h⟩
  have subM : ∀ a, isM (putO (psN 0 sh) outs e) σ a → isM e σ a := fun a ⟨j, l, h1, h2⟩ => let ⟨l', q⟩ := m1 h1; ⟨j, l', q, h2⟩
  have subA : ∀ a, Av Px (putO (psN 0 sh) outs e) σ a → A a := fun a h => h.elim (fun h => hA a (.inl h)) fun h => hA a (.inr (.inr (subM a h)))
  have k : Kp (Av P e σ) H (Av Px (putO (psN 0 sh) outs e) σ) H' := fun b o q n => by
    have z := af.kp b o q ⟨fun w => n.1 ((ap_av hs hv).mp w), n.2⟩
    exact ⟨z.1, fun w => z.2 (subA b w)⟩
  have keep : ∀ {j : Nat} {l : List D} {a : Addr}, (∀ p ∈ psN 0 sh, p.2 ≠ j) → e[j]? = some (some (.m l)) → σ[j]? = some (some (.ref a)) → H' a = H a := fun {j l a} hj h1 h2 => by
    refine af.pr a ⟨.inr ⟨j, l, h1, h2⟩, fun p hp z => ?_⟩
    obtain ⟨p, hp', rfl⟩ := List.mem_map.mp hp
    obtain ⟨l', a', q1, q2⟩ := sl hp'
    have z : adr σ p.2 = a := z
    rw [adr_of q2] at z
    subst z
    exact hj p hp' (s.inj _ _ _ _ _ q1 h1 q2 h2)
  have pr : ∀ a, P a → H' a = H a := fun a h => by
    refine af.pr a ⟨.inl h, fun p hp z => ?_⟩
    obtain ⟨p, hp', rfl⟩ := List.mem_map.mp hp
    obtain ⟨l', a', q1, q2⟩ := sl hp'
    have z : adr σ p.2 = a := z
    rw [adr_of q2] at z
    subst z
    obtain ⟨b, us, r1, _, _, r4⟩ := s.mm _ _ q1
    rw [q2] at r1
    cases r1
    exact r4 h
  refine ⟨⟨by rw [putO_len]; exact s.len, fun j d q => ?_, fun j l q => ?_, fun i j a l l' q1 q2 r1 r2 => ?_, fun b h => ?_, fun p hp => ?_, af.tb⟩, k, pr⟩
  · rcases dec j with ⟨p, hp, rfl⟩ | hj
    · obtain ⟨t, o, _, _, z⟩ := inn hp
      rw [z] at q
      cases q
    · rw [out hj] at q
      obtain ⟨v, h1, h2⟩ := s.vv j d q
      exact ⟨v, h1, Rep.kp k _ _ h2⟩
  · have notPx : ∀ {j : Nat} {l : List D} {a : Addr}, e[j]? = some (some (.m l)) → σ[j]? = some (some (.ref a)) → ¬ Px a := fun {j l a} h1 h2 w => by
      rcases hPx a w with w | ⟨w, _⟩
      · obtain ⟨b, us, r1, _, _, r4⟩ := s.mm _ _ h1
        rw [h2] at r1
        cases r1
        exact r4 w
      · exact w (.inr ⟨j, l, h1, h2⟩)
    rcases dec j with ⟨p, hp, rfl⟩ | hj
    · obtain ⟨t, o, z1, z2, z⟩ := inn hp
      rw [z] at q
      cases q
      obtain ⟨l', a, q1, q2⟩ := sl hp
      obtain ⟨us, y1, y2⟩ := af.out t (p.1, adr σ p.2) _ (by unfold psA; rw [List.getElem?_map, z1]; rfl) z2
      have y1 : H' (adr σ p.2) = some (.lst us) := y1
      rw [adr_of q2] at y1
      exact ⟨a, us, q2, y1, RepL.mono subA y2, notPx q1 q2⟩
    · rw [out hj] at q
      obtain ⟨a, us, h1, h2, h3, h4⟩ := s.mm j l q
      exact ⟨a, us, h1, by rw [keep hj q h1]; exact h2, RepL.kp k _ _ h3, notPx q h1⟩
  · obtain ⟨l1, q1⟩ := m1 q1
    obtain ⟨l2, q2⟩ := m1 q2
    exact s.inj i j a l1 l2 q1 q2 r1 r2
  · rcases hPx b h with h | ⟨_, h⟩
    · rw [pr b h]
      exact s.prv b h
    · exact h
  · obtain ⟨h1, l, h2⟩ := s.par p hp
    exact ⟨h1, m2 h2⟩
end

/-- arguments: values, and lists of one's own (their slots in sh) -/
def tAS (g : G) (P : Addr → Prop) (ps : List (Nat × Addr)) (W : WX) (sh : List (Option Nat)) (f : Env → R (List D)) : TA := fun σ H Q => ∃ e, StRel g P ps e σ H ∧ PR g P ps W e σ H (f e) (fun ds e' H' => ∀ vs, ArgV g H' (Av P e' σ) σ sh ds vs → Q vs H')
structure DAS (g : G) (mp : List Nat) (X : Cx) (es : List Expr) (sh : List (Option Nat)) (f : Env → R (List D)) : Prop where
  run : ∀ (P : Addr → Prop) (ps : List (Nat × Addr)) (W : WX), ps.map (·.1) = mp → Takes X W → PA X es (tAS g P ps W sh f)
def dMk (i : Nat) (fs : Env → R (List D)) : Env → R (List D) := fun e => bnd (opt (mAt e i) e) fun _ e1 => fs e1
def callF (F : List Slot → RF) (sh : List (Option Nat)) (fa : Env → R (List D)) {α : Type} (k : Slot → Option α) : Env → R α := fun e => bnd (fa e) fun ds e1 => match mkS sh ds e1 with
  | none => .bad
  | some ss => match F ss with
    | .ok s outs => opt (k s) (putO (psN 0 sh) outs e1)
    | .exc x outs => .exc x (putO (psN 0 sh) outs e1)
    | .bad => .bad
def kD : Slot → Option D
  | .v d => some d
  | .m ds => some (.lst ds)
def kM : Slot → Option (List D)
  | .v _ => none
  | .m ds => some ds
def dCall (F : List Slot → RF) (sh : List (Option Nat)) (fa : Env → R (List D)) : Env → R D := callF F sh fa kD
def mCall (F : List Slot → RF) (sh : List (Option Nat)) (fa : Env → R (List D)) : Env → R (List D) := callF F sh fa kM
/-- a def that keeps its promise, as the module's name x stands for it -/
structure Dfn (g : G) (Pr : Program) (w : World) (K : PySem.W.Frag) (mg : Str → Option Value) (base : Heap) (k : Nat) (x : Str) (m : Nat) (mp : List Nat) (F : List Slot → RF) : Prop where
  ex : ∃ f fd pn N, FnOk Pr w K mg base (L2.CX Pr w) k f fd pn (spD g N mp m F) ∧ mg x = some (.ref f) ∧ PySem.W.keepIn K (.ref f) = true ∧ Binds K fd pn []
theorem Dfn.mono {g Pr w K mg base k k' x m mp F} (h : Dfn g Pr w K mg base k x m mp F) (hk : k ≤ k') : Dfn g Pr w K mg base k' x m mp F := by
  obtain ⟨f, fd, pn, N, h1, h2⟩ := h.ex
  exact ⟨f, fd, pn, N, h1.mono hk, h2⟩
section
variable {g : G} {mp mc : List Nat} {X : Cx} {a : Expr} {es : List Expr} {fa : Env → R D} {fs : Env → R (List D)} {sh : List (Option Nat)} {pos p : Pos} {x : Str} {e : Expr}
theorem das_nil : DAS g mp X [] [] dNil := ⟨fun P ps W hp tk => pa_imp pa_nil fun σ H Q ⟨e, s, h⟩ => h _ (Go.refl s) [] rfl⟩
theorem das_v (ha : DE g mp X a fa) (hr : DAS g mp X es sh fs) (hs : starEach (a :: es) X.env = (false, eval a X.env) :: starEach es X.env := by rfl) : DAS g mp X (a :: es) (none :: sh) (dCons fa fs) :=
  ⟨fun P ps W hp tk => pa_imp (pa_cons (ha.run P ps W hp tk) (hr.run P ps W hp tk) hs) fun σ H Q ⟨e, s, h⟩ => by
    refine tD_of s (h.bnd.mono fun d e1 H1 go1 k v rv => ?_)
    exact ⟨e1, go1.st, k.bnd.mono fun ds e2 H2 go2 k vs rvs => k _ (Go.refl go2.st) _ ⟨d, ds, v, vs, rfl, rfl, Rep.kp go2.kp _ _ rv, rvs⟩⟩⟩
theorem das_m (i : Nat) (hr : DAS g mp X es sh fs) (hN : X.N[i]? = some x := by rfl) (hv : Vis X.env.scope x := by first | exact Or.inl rfl | exact Or.inr (Or.inl rfl) | exact Or.inr (Or.inr rfl)) (hd : (x == ("__debug__" : Str)) = false := by decide)
    (hcd : (x == ("__classdict__" : Str)) = false := by decide) (hs : starEach ((.Name x p) :: es) X.env = (false, eval (.Name x p) X.env) :: starEach es X.env := by rfl) : DAS g mp X ((.Name x p) :: es) (some i :: sh) (dMk i fs) :=
  ⟨fun P ps W hp tk => pa_imp (pa_cons (pe_var hN hv hd hcd) (hr.run P ps W hp tk) hs) fun σ H Q ⟨e, s, h⟩ => by
    obtain ⟨ds0, q0, h⟩ := PR.optM s h
    obtain ⟨a, vs0, hσ, _⟩ := s.mm i ds0 (mAt_some q0)
    exact ⟨.ref a, hσ, e, s, h.mono fun ds e2 H2 go2 k vs rvs => k _ ⟨a, vs, rfl, hσ, rvs⟩⟩⟩

theorem call_go {P : Addr → Prop} {ps : List (Nat × Addr)} {e : Env} {σ : L2.St} {H : Hp} {ds : List D} {ss : List Slot} {vs : List V} {F : List Slot → RF} {N : List Str} {m : Nat} {Q : VK} {E : XK} (s : StRel g P ps e σ H) (hs : mkS sh ds e = some ss) (hv : ArgV g H (Av P e σ) σ sh ds vs)
    (nd : ((psN 0 sh).map (·.2)).Nodup) (hm : (psN 0 sh).map (·.1) = mc) (hl : sh.length = m)
    (h : match F ss with
      | .ok (.v d) outs => ∀ v H', Go g P ps e σ H (putO (psN 0 sh) outs e) σ H' → Rep g H' (Av P (putO (psN 0 sh) outs e) σ) d v → Q v H'
      | .ok (.m l) outs => ∀ a H', GoM g P ps e σ H a l (putO (psN 0 sh) outs e) σ H' → Q (.ref a) H'
      | .exc x outs => ∀ cls d H', Go g P ps e σ H (putO (psN 0 sh) outs e) σ H' → XRep g H' (Av P (putO (psN 0 sh) outs e) σ) x cls d → E cls d H'
      | .bad => False) : spD g N mc m F vs H Q E := by
  obtain ⟨si, sA⟩ := call_in s N hs hv nd
  obtain ⟨l1, l2⟩ := arg_len hs hv
  refine ⟨by rw [l2, hl], PC P e σ sh, psA σ (psN 0 sh), ss, by unfold psA; rw [List.map_map]; exact hm, l1, si, sA, ?_⟩
  have goOf : ∀ {outs : List (List D)} {H' : Hp}, After g (PC P e σ sh) (psA σ (psN 0 sh)) (AP (PC P e σ sh) (psA σ (psN 0 sh))) outs H H' → Go g P ps e σ H (putO (psN 0 sh) outs e) σ H' ∧ (∀ a, Av P (putO (psN 0 sh) outs e) σ a → AP (PC P e σ sh) (psA σ (psN 0 sh)) a) := fun {outs H'} af => by
    obtain ⟨z1, z2, z3⟩ := call_out (Px := P) s hs hv nd af (fun b h => .inl h) fun b h => (ap_av hs hv).mpr (h.elim .inl id)
    refine ⟨⟨z1, z2, z3⟩, fun a h => ?_⟩
    refine (ap_av hs hv).mpr ?_
    by_cases q : Av P e σ a
    · exact q
    · rcases h with h | h
      · exact .inl h
      · obtain ⟨vs', hh⟩ := h.there z1
        obtain ⟨i, l, y1, y2⟩ := h
        rcases Classical.em (∃ p ∈ psN 0 sh, p.2 = i) with ⟨p, hp, rfl⟩ | hn
        · obtain ⟨k, l', a', _, _, w3, _, w5⟩ := arg_p hs hv hp
          rw [y2] at w5
          cases w5
          exact .inr ⟨p.2, l', mAt_of w3, y2⟩
        · rw [putO_out fun p hp z => hn ⟨p, hp, z⟩] at y1
          exact .inr ⟨i, l, y1, y2⟩
  revert h
  unfold ROK
  cases F ss with
  | bad => exact fun h => h
  | exc x outs =>
    intro h cls d H' af rx
    obtain ⟨go, sub⟩ := goOf af
    exact h cls d H' go (XRep.kp (fun b o q n => ⟨q, fun z => n.1 (sub b z)⟩) rx)
  | ok s' outs =>
    cases s' with
    | v d =>
      intro h v H' af rv
      obtain ⟨go, sub⟩ := goOf af
      exact h v H' go (Rep.mono sub rv)
    | m l =>
      intro h a H' af
      have na : ¬ Av P e σ a := fun z => af.na ((ap_av hs hv).mpr z)
      obtain ⟨us, u1, u2⟩ := af.at_
      have apx : ∀ b, Pl P a b ∨ Av P e σ b → AP (Pl (PC P e σ sh) a) (psA σ (psN 0 sh)) b := fun b h => by
        have key : Av P e σ b → AP (Pl (PC P e σ sh) a) (psA σ (psN 0 sh)) b := fun h => ((ap_av hs hv).mpr h).elim (fun h => .inl (.inl h)) .inr
        rcases h with (h | h) | h
        · exact key (.inl h)
        · exact .inl (.inr h)
        · exact key h
      obtain ⟨z1, z2, z3⟩ := call_out (Px := Pl P a) s hs hv nd af.af (fun b h => h.elim .inl fun h => .inr ⟨by rw [h]; exact na, by rw [h]; exact ⟨_, u1, nc_lst⟩⟩) apx
      refine h a H' ⟨z1, z2, z3, fun z => na (.inl z), us, u1, RepL.mono (fun b z => ?_) u2⟩
      rcases z with z | z
      · exact apx b (.inl z)
      · refine apx b ?_
        by_cases q : Av P e σ b
        · exact .inr q
        · obtain ⟨i, l', y1, y2⟩ := z
          rcases Classical.em (∃ p ∈ psN 0 sh, p.2 = i) with ⟨p, hp, rfl⟩ | hn
          · obtain ⟨k, l'', a', _, _, w3, _, w5⟩ := arg_p hs hv hp
            rw [y2] at w5
            cases w5
            exact .inr (.inr ⟨p.2, l'', mAt_of w3, y2⟩)
          · rw [putO_out fun p hp z => hn ⟨p, hp, z⟩] at y1
            exact .inr (.inr ⟨i, l', y1, y2⟩)
theorem de_call {k m : Nat} {F : List Slot → RF} (hF : Dfn g X.prog X.w X.K X.mg X.base k x m mc F) (hr : Room k X.A) (hg : Gl X x) (ha : DAS g mp X (e :: es) sh fs) (hm : (psN 0 sh).map (·.1) = mc := by rfl) (hl : sh.length = m := by rfl) (nd : ((psN 0 sh).map (·.2)).Nodup := by decide)
    (hdb : (x == ("__debug__" : Str)) = false := by decide) (he : starEach (e :: es) X.env = (false, eval e X.env) :: starEach es X.env := by rfl) (hpl : (backTo pos (starEach es X.env)).any (·.1) = false := by rfl) :
    DE g mp X (.Call (.Name x p) (e :: es) [] pos) (dCall F sh fs) := by
  obtain ⟨f, fd, pn, N, h1, h2, h3, h4⟩ := hF.ex
  refine ⟨fun P ps W hp tk => pe_imp (pe_callS h1 hr hg h2 h3 h4 (E := WE W) (fun σ => passAt tk σ) (ha.run P ps W hp tk) hdb he hpl) fun σ H Q h => ?_⟩
  obtain ⟨e0, s, h⟩ := tD_eq.mp h
  refine ⟨e0, s, h.bnd.mono fun ds e1 H1 go1 z vs av => ?_⟩
  cases hs : mkS sh ds e1 with
  | none => rw [hs] at z; exact z.elim
  | some ss =>
    rw [hs] at z
    refine call_go go1.st hs av nd hm hl ?_
    revert z
    dsimp only
    cases F ss with
    | bad => exact fun z => z
    | exc x outs => exact fun z cls d H' go rx => z cls d H' go rx
    | ok s' outs => cases s' with
      | v d => exact fun z v H' go rv => z H' go v rv
      | m l => exact fun z a H' gm => z H' gm.go _ gm.rep
theorem dm_call {k m : Nat} {F : List Slot → RF} (hF : Dfn g X.prog X.w X.K X.mg X.base k x m mc F) (hr : Room k X.A) (hg : Gl X x) (ha : DAS g mp X (e :: es) sh fs) (hm : (psN 0 sh).map (·.1) = mc := by rfl) (hl : sh.length = m := by rfl) (nd : ((psN 0 sh).map (·.2)).Nodup := by decide)
    (hdb : (x == ("__debug__" : Str)) = false := by decide) (he : starEach (e :: es) X.env = (false, eval e X.env) :: starEach es X.env := by rfl) (hpl : (backTo pos (starEach es X.env)).any (·.1) = false := by rfl) :
    DM g mp X (.Call (.Name x p) (e :: es) [] pos) (mCall F sh fs) := by
  obtain ⟨f, fd, pn, N, h1, h2, h3, h4⟩ := hF.ex
  refine ⟨fun P ps W hp tk => pe_imp (pe_callS h1 hr hg h2 h3 h4 (E := WE W) (fun σ => passAt tk σ) (ha.run P ps W hp tk) hdb he hpl) fun σ H Q h => ?_⟩
  obtain ⟨e0, s, h⟩ := tM_eq.mp h
  refine ⟨e0, s, h.bnd.mono fun ds e1 H1 go1 z vs av => ?_⟩
  cases hs : mkS sh ds e1 with
  | none => rw [hs] at z; exact z.elim
  | some ss =>
    rw [hs] at z
    refine call_go go1.st hs av nd hm hl ?_
    revert z
    dsimp only
    cases F ss with
    | bad => exact fun z => z
    | exc x outs => exact fun z cls d H' go rx => z cls d H' go rx
    | ok s' outs => cases s' with
      | v d => exact fun z => z.elim
      | m l => exact fun z a H' gm => z a H' gm
end
end DL
end

section
set_option Elab.async false
set_option linter.all false
set_option maxRecDepth 100000
set_option maxHeartbeats 4000000
namespace DL
open PySem PySem.Spec PyProof.Rows L2

/-- x[lo:hi] of a tuple or a list -/
def slD (d : D) (l h : Option Int) : Option D := match d with
  | .tup ds => some (.tup (cutD ds l h))
  | .lst ds => some (.lst (cutD ds l h))
  | _ => none
def dSl (f : Env → R D) (lo hi : Env → R (Option Int)) : Env → R D := fun e => bnd (f e) fun d e1 => bnd (lo e1) fun l e2 => bnd (hi e2) fun h e3 => opt (slD d l h) e3
section
variable {g : G} {mp : List Nat} {X : Cx} {x : Str} {pos p2 : Pos} {a b : Expr} {fa fb : Env → R D} {lo hi : Option Expr} {fl fh : Env → R (Option Int)}
theorem de_sl (hK : X.K = g.K) (ha : DE g mp X a fa) (hl : DO g mp X lo fl) (hh : DO g mp X hi fh) : DE g mp X (.Subscript a (.Slice lo hi none p2) pos) (dSl fa fl fh) := ⟨fun P ps W hp tk => pe_imp (pe_slice (sl_tupA.or sl_list) (ha.run P ps W hp tk) (hl.run P ps W hp tk) (hh.run P ps W hp tk)) fun σ H Q h => by
  obtain ⟨e, s, h⟩ := tD_eq.mp h
  refine tD_of s (h.bnd.mono fun d e1 H1 go1 z v rv => ⟨e1, go1.st, z.bnd.mono fun l e2 H2 go2 z2 => ⟨e2, go2.st, z2.bnd.mono fun u e3 H3 go3 z3 => ?_⟩⟩)
  have rv := Rep.kp (go2.kp.trans go3.kp) _ _ rv
  clear z z2 h
  obtain ⟨d', q, z3⟩ := PR.opt z3
  cases d <;> first | (cases q; done) | skip
  · rename_i ds
    cases q
    obtain ⟨p, vs, rfl, hq, rr⟩ := rv
    refine .inl ⟨p, vs, rfl, by rw [hK]; exact hq.sq, fun w => ?_, fun _ p hp => ?_⟩
    · rw [← rr.length] at w
      have z4 := z3 _ (Go.refl go3.st) (.ref p)
      rw [HT_sIx_take _ l u w] at z4
      exact z4 ⟨p, vs, rfl, hq, rr⟩
    · exact z3 _ (Go.new go3.st hp) _ (rep_tup (go3.st.fresh hp) hp (rr.cut l u))
  · cases q
    obtain ⟨p, vs, rfl, hq, rr⟩ := rv
    exact .inr ⟨p, vs, rfl, by rw [hK]; exact hq.sq, fun p hp => z3 _ (Go.new go3.st hp) _ (rep_lst (go3.st.fresh hp) hp (rr.cut l u))⟩⟩
end
section
variable {g : G} {mp : List Nat} {X : Cx} {x : Str} {pos : Pos}
theorem de_gint {i : Int} (hg : Gl X x) (h : ∃ t, X.mg x = some (.int i t)) (hd : (x == ("__debug__" : Str)) = false := by decide) : DE g mp X (.Name x pos) (dC (.int i)) := by
  obtain ⟨t, h⟩ := h
  exact de_c (pe_glob (v := .int i) hg h ⟨t, rfl⟩ hd) fun _ _ => rfl
theorem de_gfn {n : Nat} (hg : Gl X x) (h : X.mg x = some (.ref (g.fnA n))) (hd : (x == ("__debug__" : Str)) = false := by decide) : DE g mp X (.Name x pos) (dC (.fn n)) :=
  de_c (pe_glob (v := .ref (g.fnA n)) hg h rfl hd) fun _ _ => rfl
theorem de_gcl {n : Nat} (hg : Gl X x) (h : X.mg x = some (.ref (g.clA n))) (hd : (x == ("__debug__" : Str)) = false := by decide) : DE g mp X (.Name x pos) (dC (.cl n)) :=
  de_c (pe_glob (v := .ref (g.clA n)) hg h rfl hd) fun _ _ => rfl
end
section
variable {g : G} {P : Addr → Prop} {ps : List (Nat × Addr)} {W : WX} {i : Nat} {fm : Env → R (List D)} {Dn : Ends} {σ : L2.St} {H : Hp}
theorem tM_asgM (hl : i < σ.length) (hm : i ∉ ps.map (·.1)) (q : tS g P ps W (sAsgM i fm) Dn σ H) : tM g P ps W fm σ H (fun x H1 => gName i x σ H1 Dn.nx) := by
  obtain ⟨e, s, q⟩ := tS_eq.mp q
  refine ⟨e, s, ?_⟩
  unfold sAsgM at q
  revert q
  cases fm e with
  | ok ds e1 => exact fun q a H' gm => q _ _ (gm.setm hl hm)
  | exc x e1 => exact fun q c d H' z r => q c d σ H' z r
  | bad => exact fun q => q
theorem tM_asgV (hm : i ∉ ps.map (·.1)) (q : tS g P ps W (sAsg (dM fm) (gtN i)) Dn σ H) : tM g P ps W fm σ H (fun x H1 => gName i x σ H1 Dn.nx) := by
  obtain ⟨e, s, q⟩ := tS_eq.mp q
  refine ⟨e, s, ?_⟩
  unfold sAsg dM at q
  revert q
  cases fm e with
  | ok ds e1 => exact fun q a H' gm => q _ _ (gm.go.trans (gm.go.st.setv gm.rep hm))
  | exc x e1 => exact fun q c d H' z r => q c d σ H' z r
  | bad => exact fun q => q
end
section
variable {g : G} {mp : List Nat} {X : Cx} {y : Str} {py spos pos : Pos} {elt tg iter : Expr} {ifs : List Expr} {scope : Scope} {own : List (Str × Nat)} {fi : Env → R (List D)} {sl : List Nat} {t : D → Env → Option Env} {tt : Env → R Bool} {fe : Env → R D} {f : Env → RS}
theorem ds_lc (i : Nat) (hi0 : i ∉ mp) (hf : ∀ P ps W Dn σ H, i < σ.length → i ∉ ps.map (·.1) → tS g P ps W f Dn σ H → tM g P ps W (mComp (own.map (·.2)) fi t tt fe) σ H (fun x H1 => gName i x σ H1 Dn.nx)) (hN : X.N.Nodup) (hc : X.calm = true) (hy : X.N[i]? = some y) (hyl : X.env.scope.names.lookup y = some .local)
    (hsw : swapsWith (.ListComp elt [⟨tg, iter, ifs, 0⟩] scope pos) (some (.Name y py)) spos.line X.env = pure true) (hi : DI g mp X tg iter fi) (ok : BlkOk X.N X.env.scope scope own)
    (hg : ∀ (s : Shared) (H : Hp) (C : Addr) (cl : List (Str × Addr)) (fp : List Addr), DG g mp (X.blk s H scope (compEnvC scope cl C X.env) fp) tg sl t) (ht : ∀ (s : Shared) (H : Hp) (C : Addr) (cl : List (Str × Addr)) (fp : List Addr), DTs g mp (X.blk s H scope (compEnvC scope cl C X.env) fp) ifs tt)
    (he : ∀ (s : Shared) (H : Hp) (C : Addr) (cl : List (Str × Addr)) (fp : List Addr), DE g mp (X.blk s H scope (compEnvC scope cl C X.env) fp) elt fe) (hm : ∀ j ∈ own.map (·.2), j ∉ mp) (hsl : ∀ j ∈ sl, j ∈ own.map (·.2)) (hs : ∀ x, foldedSetIterable iter X.env x = pure x) :
    DS g mp X (.Assign [.Name y py] (.ListComp elt [⟨tg, iter, ifs, 0⟩] scope pos) spos) f := ⟨fun P ps W hp tk => by
  have hpo : ∀ p ∈ ps, p.1 ∉ own.map (·.2) := fun p h z => hm _ z (by rw [← hp]; exact List.mem_map_of_mem h)
  refine ⟨fun pins s σ H Dn I q => ?_⟩
  have hl : i < σ.length := by
    rw [I.len]
    exact (List.getElem?_eq_some_iff.mp hy).1
  have q := hf P ps W Dn σ H hl (by rw [hp]; exact hi0) q
  refine (ps_setLc (g := fun v σ H Q => ∃ a, tG g (Pl P a) ps sl t v σ H Q) (tt := fun σ H Q => ∃ a, tB g (Pl P a) ps (fun _ _ _ _ => False) tt σ H Q) (te := fun σ H Q => ∃ a, tD g (Pl P a) ps (fun _ _ _ _ => False) fe σ H Q) hc hN hy hyl hsw (hi.run P ps W hp tk) ok (fun s H C cl fp => ?_) (fun s H C cl fp => ?_) (fun s H C cl fp => ?_) hs).run pins s σ H Dn I
    (tLc_of hpo hsl q _ _ _ (fun a v σ H Q z => ⟨a, z⟩) (fun a σ H Q z => ⟨a, z⟩) (fun a σ H Q z => ⟨a, z⟩))
  · exact ⟨fun pins s' σ' H' v u Q I r ⟨a, z⟩ => ((hg s H C cl fp).run (Pl P a) ps hp).run pins s' σ' H' v u Q I r z⟩
  · exact ⟨fun pins s' σ' H' Q I ⟨a, z⟩ => ((ht s H C cl fp).run (Pl P a) ps _ hp takes0).run pins s' σ' H' Q I z⟩
  · exact ⟨fun pins s' σ' H' Q I ⟨a, z⟩ => ((he s H C cl fp).run (Pl P a) ps _ hp takes0).run pins s' σ' H' Q I z⟩⟩
theorem ds_lcV (i : Nat) (hN : X.N.Nodup) (hc : X.calm = true) (hi : DI g mp X tg iter fi) (ok : BlkOk X.N X.env.scope scope own)
    (hg : ∀ (s : Shared) (H : Hp) (C : Addr) (cl : List (Str × Addr)) (fp : List Addr), DG g mp (X.blk s H scope (compEnvC scope cl C X.env) fp) tg sl t) (ht : ∀ (s : Shared) (H : Hp) (C : Addr) (cl : List (Str × Addr)) (fp : List Addr), DTs g mp (X.blk s H scope (compEnvC scope cl C X.env) fp) ifs tt)
    (he : ∀ (s : Shared) (H : Hp) (C : Addr) (cl : List (Str × Addr)) (fp : List Addr), DE g mp (X.blk s H scope (compEnvC scope cl C X.env) fp) elt fe)
    (hy : X.N[i]? = some y := by rfl) (hyl : X.env.scope.names.lookup y = some .local := by rfl) (hsw : swapsWith (.ListComp elt [⟨tg, iter, ifs, 0⟩] scope pos) (some (.Name y py)) spos.line X.env = pure true := by rfl) (hi0 : i ∉ mp := by decide)
    (hm : ∀ j ∈ own.map (·.2), j ∉ mp := by decide) (hsl : ∀ j ∈ sl, j ∈ own.map (·.2) := by decide) (hs : ∀ x, foldedSetIterable iter X.env x = pure x := by intro _; rfl) :
    DS g mp X (.Assign [.Name y py] (.ListComp elt [⟨tg, iter, ifs, 0⟩] scope pos) spos) (sAsg (dM (mComp (own.map (·.2)) fi t tt fe)) (gtN i)) :=
  ds_lc i hi0 (fun P ps W Dn σ H hl hm q => tM_asgV hm q) hN hc hy hyl hsw hi ok hg ht he hm hsl hs
theorem ds_lcM (i : Nat) (hN : X.N.Nodup) (hc : X.calm = true) (hi : DI g mp X tg iter fi) (ok : BlkOk X.N X.env.scope scope own)
    (hg : ∀ (s : Shared) (H : Hp) (C : Addr) (cl : List (Str × Addr)) (fp : List Addr), DG g mp (X.blk s H scope (compEnvC scope cl C X.env) fp) tg sl t) (ht : ∀ (s : Shared) (H : Hp) (C : Addr) (cl : List (Str × Addr)) (fp : List Addr), DTs g mp (X.blk s H scope (compEnvC scope cl C X.env) fp) ifs tt)
    (he : ∀ (s : Shared) (H : Hp) (C : Addr) (cl : List (Str × Addr)) (fp : List Addr), DE g mp (X.blk s H scope (compEnvC scope cl C X.env) fp) elt fe)
    (hy : X.N[i]? = some y := by rfl) (hyl : X.env.scope.names.lookup y = some .local := by rfl) (hsw : swapsWith (.ListComp elt [⟨tg, iter, ifs, 0⟩] scope pos) (some (.Name y py)) spos.line X.env = pure true := by rfl) (hi0 : i ∉ mp := by decide)
    (hm : ∀ j ∈ own.map (·.2), j ∉ mp := by decide) (hsl : ∀ j ∈ sl, j ∈ own.map (·.2) := by decide) (hs : ∀ x, foldedSetIterable iter X.env x = pure x := by intro _; rfl) :
    DS g mp X (.Assign [.Name y py] (.ListComp elt [⟨tg, iter, ifs, 0⟩] scope pos) spos) (sAsgM i (mComp (own.map (·.2)) fi t tt fe)) :=
  ds_lc i hi0 (fun P ps W Dn σ H hl hm q => tM_asgM hl hm q) hN hc hy hyl hsw hi ok hg ht he hm hsl hs
end
/-- what a def of the program is, as the name x stands for it -/
structure DefAt (g : G) (mg : Str → Option Value) (n : Nat) (x : Str) (st : Stmt) : Prop where
  ex : ∃ fd, Fun g.K x x st (g.fnA n) fd ∧ mg x = some (.ref (g.fnA n))
theorem dfn_mk {n : Nat} {g : G} {Pr : Program} {w : World} {mg : Str → Option Value} {base : Heap} {x : Str} {st : Stmt} {N pn : List Str} {k : Nat} {mp : List Nat} {fb : Env → RS} (h : DefAt g mg n x st) (S : FnScope N pn (defScope st))
    (hb : ∀ (kV doc pm : Value) (an : Option Addr) (cdv ct : Value) (us : List Value), us.length = pn.length → bindArgs (PySem.W.fnOf x x (defArgs st) (defBody st) (defScope st) .none kV doc pm an cdv ct) ⟨us, []⟩ = pure (pn.zip us))
    (hbody : ∀ (f : Addr) (cdv : Value) (A : Around) (outer : List PySem.Env) (s : Shared) (H : Hp) (E : XK), Room k (A.deeper (envOfC x (defScope st) s.heap.objs.size f cdv)) →
      DSs g mp (cxOf (L2.CX Pr w) Pr w g.K mg base N x (defScope st) f cdv A outer s H E) (defBody st) fb) :
    Dfn g Pr w g.K mg base (k + 1) x pn.length mp (fun ss => fin mp (fb (startE N.length ss))) := by
  obtain ⟨fd, F, hm⟩ := h.ex
  exact ⟨_, fd, pn, N, fn_okD F S fun cdv A outer s H E hr => hbody _ cdv A outer s H E hr, hm, F.kp, F.binds hb⟩
theorem u1 {k : Nat} {A : Around} (h : Room k A) : A.units + 1 < cLine := by have := h.un; omega
theorem u64 {k : Nat} {A : Around} (h : Room k A) : A.units + 64 < cLine := by have := h.un; omega
theorem po_cx {CX : CXT} {P : Program} {w : World} {K : PySem.W.Frag} {mg : Str → Option Value} {base : Heap} {N : List Str} {qual : Str} {scope : Scope} {f : Addr} {cd : Value} {A : Around} {outer : List PySem.Env} {s : Shared} {H : Hp} {E : XK} :
    PassesOwn (model P w) (cxOf CX P w K mg base N qual scope f cd A outer s H E).A (cxOf CX P w K mg base N qual scope f cd A outer s H E).env (cxOf CX P w K mg base N qual scope f cd A outer s H E).xe :=
  passes_of (X := cxOf CX P w K mg base N qual scope f cd A outer s H E) (K := fun e s'' => CX outer H s E e s'') (E₁ := fun e s'' => CX outer H s E e s'') rfl
end DL
end

section
set_option Elab.async false
set_option linter.all false
set_option maxRecDepth 100000
set_option maxHeartbeats 4000000
namespace DL
open PySem PySem.Spec PyProof.Rows L2

/-! ### a, .., *rest = t -/
def gStar (K : PySem.W.Frag) (n : Nat) (t : TGs) : TG := fun v σ H Q => ∃ a xs, v = .ref a ∧ SqT K H a xs ∧ n ≤ xs.length ∧ xs.length ≤ sizeLine ∧ ∀ l, H l = none → t (xs.take n ++ [.ref l]) σ (upd H l (.lst (xs.drop n))) Q
section
variable {X : Cx} {pos : Pos}
theorem pgs_star {e : Expr} {p : Pos} {es : List Expr} {t : TG} {u : TGs} (h1 : PG X e t) (h2 : PGs X es u) : PGs X (.Starred e p :: es) (gCons t u) := by
  refine ⟨fun pins s σ H vs us Q I r h => ?_⟩
  obtain ⟨v, vr, e1, h⟩ := h
  subst e1
  cases r with
  | cons r rr =>
    show wpAny _ _ (assignInOrder (assign e X.env :: (assignEach es X.env).map (·.2)) _) _ _ _
    refine assignInOrder_cons (thn (h1.run pins s σ H _ _ _ I r h) fun _ s1 ⟨σ1, H1, I1, q1⟩ => ?_)
    exact h2.run pins s1 σ1 H1 _ _ Q I1 rr q1
theorem pg_star {es : List Expr} {k : Nat} {t : TGs} {n : Nat} (hc : X.calm = true) (h : PGs X es t)
    (hn : (assignEach es X.env).length = n + 1 := by rfl) (hst : (assignEach es X.env).findIdx? (·.1) = some n := by rfl) : PG X (.Tuple es k pos) (gStar X.K n t) := by
  refine ⟨fun pins s σ H v u Q I r hw => ?_⟩
  obtain ⟨a, xs, e1, hq, hle, hz2, hw⟩ := hw
  subst e1
  cases r
  obtain ⟨its, rv, ht, hz⟩ := I.tuple hq
  have hh := I.ok.hd hc
  have hlt : a ≠ s.heap.objs.size := by obtain ⟨o, ho, _⟩ := ht; exact Nat.ne_of_lt (Heap.lt_size ho)
  have hlen := rv.length
  show wpAny _ _ (do standAt pos; unpack (.ref a) (assignEach es X.env)) _ _ _
  refine wpAny_bind (wpAny_standAt ?_)
  unfold unpack
  rw [hn, hst]
  refine wpAny_bind (wpAny_holding ?_)
  unfold unpackItems
  refine wpAny_bind ?_
  unfold notIterableAtAll
  refine wpAny_bind (wpAny_specialOf ht.typeIs slot_tuple_iter.lookup ?_)
  refine wpAny_pure ?_
  simp only [Bool.false_eq_true, if_false]
  refine wpAny_bind (wpAny_holding (iter_tuple ht ?_))
  refine wpAny_bind (wpAny_holding (draw_tuple hlt n 0 _ _ ⟨_, Heap.get?_push_size _ rfl, rfl, rfl⟩ (ht.push _) (by simp; omega) fun h₁ hit₁ hs₁ => ?_))
  have hl₁ : IsTup h₁ a its.toArray := (ht.push _).extBut hs₁.extBut hlt
  rw [Nat.zero_add] at hit₁
  have hit₁' := hit₁
  obtain ⟨oi, hoi, _⟩ := hit₁'
  have hl₁' := hl₁
  obtain ⟨ol, hol, _⟩ := hl₁'
  rw [List.drop_zero]
  have hfl : (its.toArray.toList.take n).length = n := by rw [List.length_take]; simp; omega
  rw [if_neg (show ¬ ((its.toArray.toList.take n).length < n) by rw [hfl]; omega)]
  refine wpAny_bind (wpAny_holding (PySem.W.kun_collect (s := { s with heap := h₁ }) (T := "tuple_iterator") (.inr (.inr (.inr rfl))) (Walks.tuple (A := X.A.in1) hh s.heap.objs.size a hlt its.toArray) (fun j u st => st.1.typeIs) (k := n) (by simp; omega) ⟨hit₁, hl₁⟩ (Heap.lt_size hoi) (Heap.lt_size hol) (fun h₂ tk hk => ?_) (by simp; omega)))
  have hrl : (its.toArray.toList.drop n).length = xs.length - n := by simp [hlen]
  have hmid : (its.toArray.toList.drop n).length - (n + 1 - 1 - n) = xs.length - n := by rw [hrl]; omega
  show wpAny _ _ (if (its.toArray.toList.drop n).length < n + 1 - 1 - n then _ else _) _ _ _
  rw [if_neg (by rw [hrl]; omega)]
  show wpAny _ _ (newList ((its.toArray.toList.drop n).take ((its.toArray.toList.drop n).length - (n + 1 - 1 - n))) >>= fun d => pure (its.toArray.toList.take n ++ [d] ++ (its.toArray.toList.drop n).drop ((its.toArray.toList.drop n).length - (n + 1 - 1 - n)))) _ _ _
  rw [hmid]
  have et : (its.toArray.toList.drop n).take (xs.length - n) = its.drop n := by
    simp only [List.toList_toArray]
    exact List.take_of_length_le (by rw [List.length_drop]; omega)
  have ed : (its.toArray.toList.drop n).drop (xs.length - n) = [] := by
    simp only [List.toList_toArray]
    exact List.drop_eq_nil_of_le (by rw [List.length_drop]; omega)
  rw [et, ed]
  simp only [List.append_nil]
  have he : ∀ b o, s.heap.get? b = some o → h₂.get? b = some o := fun b o e => hk b o (Nat.ne_of_lt (Heap.lt_size e)) (hs₁.extBut b o (Nat.ne_of_lt (Heap.lt_size e)) (Heap.get?_push_of_some _ e))
  have I2 : Inv X pins σ H { s with heap := h₂, toks := tk } := I.kept he
  refine wpAny_bind (wpAny_newList ?_ (by rw [List.length_drop]; omega))
  refine wpAny_pure ?_
  have I3 := I2.lnew (ys := xs.drop n) (its := its.drop n) (t' := tk) (rv.drop n) (by rw [List.length_drop]; omega)
  refine h.run pins _ σ _ _ _ Q I3 ?_ (hw _ I2.fresh)
  simp only [List.toList_toArray]
  exact (rv.take n).append (.cons rfl .nil)
end
/-- .. of a tuple -/
def gtStar (n : Nat) (t : List D → Env → Option Env) : D → Env → Option Env := fun d e => match d with
  | .tup ds => if n ≤ ds.length ∧ ds.length ≤ 16777216 then t (ds.take n ++ [.lst (ds.drop n)]) e else none
  | _ => none
section
variable {g : G} {mp : List Nat} {X : Cx} {x : Str} {pos : Pos} {tg : Expr} {tgs : List Expr}
theorem dgs_star {sl sl2 : List Nat} {p : Pos} {t : D → Env → Option Env} {u : List D → Env → Option Env} (a : DG g mp X tg sl t) (b : DGs g mp X tgs sl2 u) : DGs g mp X (.Starred tg p :: tgs) (sl ++ sl2) (gtCons t u) :=
  ⟨fun P ps hp => pgs_imp (pgs_star (a.run P ps hp) (b.run P ps hp)) fun vs σ H Q ⟨e, ds, s, r, e', q, k⟩ => by
    unfold gtCons at q
    cases ds with
    | nil => cases q
    | cons d ds =>
      obtain ⟨v, rr, rfl, r1, r2⟩ := r
      have q : (t d e).bind (u ds) = some e' := q
      cases z : t d e with
      | none => rw [z] at q; cases q
      | some e1 =>
        rw [z] at q
        refine ⟨v, rr, rfl, e, d, s, r1, e1, z, fun σ1 H1 go1 o1 => ⟨e1, ds, go1.st, RepL.kp go1.kp _ _ r2, e', q, fun σ' H' go2 o2 => k _ _ (go1.trans go2) ((o1.mono fun j z => List.mem_append_left _ z).trans (o2.mono fun j z => List.mem_append_right _ z))⟩⟩⟩
theorem dg_star {sl : List Nat} {t : List D → Env → Option Env} {n : Nat} {k : Nat} (hK : X.K = g.K) (hc : X.calm = true) (h : DGs g mp X tgs sl t) (hn : (assignEach tgs X.env).length = n + 1 := by rfl) (hst : (assignEach tgs X.env).findIdx? (·.1) = some n := by rfl) : DG g mp X (.Tuple tgs k pos) sl (gtStar n t) :=
  ⟨fun P ps hp => pg_imp (pg_star hc (h.run P ps hp) hn hst) fun v σ H Q ⟨e, d, s, r, e', q, kk⟩ => by
    cases d <;> first | (cases q; done) | skip
    rename_i ds
    obtain ⟨a, vs, rfl, hq, rr⟩ := r
    have q : (if n ≤ ds.length ∧ ds.length ≤ 16777216 then t (ds.take n ++ [.lst (ds.drop n)]) e else none) = some e' := q
    split at q
    · rename_i hl
      have hlen := rr.length
      refine ⟨a, vs, rfl, by rw [hK]; exact hq.sq, by omega, by rw [sizeLine_eq]; omega, fun l hl => ?_⟩
      have go1 := Go.new s (o := .lst (vs.drop n)) hl
      exact ⟨e, _, go1.st, RepL.append (es := [.lst (ds.drop n)]) (us := [.ref l]) (RepL.kp (kp_new hl) _ _ (rr.take n)) ⟨_, [], rfl, rep_lst (s.fresh hl) hl (rr.drop n), rfl⟩, e', q, fun σ' H' go2 o2 => kk _ _ (go1.trans go2) o2⟩
    · cases q⟩
end
end DL
end

section
set_option Elab.async false
set_option linter.all false
set_option maxRecDepth 100000
set_option maxHeartbeats 4000000
namespace DL
open PySem PySem.Spec PyProof.Rows L2

/-! ### {k: v, ..} with written keys -/
def rdP (g : G) (P : Addr → Prop) (ps : List (Nat × Addr)) (W : WX) (ks : List Key) (f : Env → R (List D)) (σ : L2.St) (H : Hp) (Q : List (V × V) → Hp → Prop) : Prop :=
  ∃ e, StRel g P ps e σ H ∧ PR g P ps W e σ H (f e) (fun ds e' H' => ∀ vs, RepL g H' (Av P e' σ) ds vs → Q ((ks.map kV).zip vs) H')
structure DPs (g : G) (mp : List Nat) (X : Cx) (pos : Pos) (keys : List (Option Expr)) (values : List Expr) (ks : List Key) (f : Env → R (List D)) : Prop where
  run : ∀ (ps : List (Nat × Addr)) (W : WX), ps.map (·.1) = mp → Takes X W → ∃ trs, PPs X pos keys values trs ∧ ∀ P σ H Q, rdP g P ps W ks f σ H Q → tPairs trs σ H Q
  all : keys.all (·.isSome) = true ∧ keys.length = values.length ∧ keys.length = ks.length
section
variable {g : G} {mp : List Nat} {X : Cx} {x : Str} {pos : Pos} {a b c : Expr} {fa fb fc : Env → R D} {keys : List (Option Expr)} {values : List Expr} {ks : List Key} {fs : Env → R (List D)}
theorem dps_nil : DPs g mp X pos [] [] [] dNil := ⟨fun ps W hp tk => ⟨[], pps_nil, fun P σ H Q ⟨e, s, h⟩ => h _ (Go.refl s) [] rfl⟩, rfl, rfl, rfl⟩
theorem dps_cons {k : Expr} {q : Key} (hk : PE X k (tC (kV q))) (hv : DE g mp X a fa) (hr : DPs g mp X pos keys values ks fs) : DPs g mp X pos (some k :: keys) (a :: values) (q :: ks) (dCons fa fs) :=
  ⟨fun ps W hp tk => by
    obtain ⟨trs, h1, h2⟩ := hr.run ps W hp tk
    refine ⟨_, pps_cons (tv := fun σ H Q => ∃ P, tD g P ps W fa σ H Q) hk ⟨fun pins s σ H Q I ⟨P, z⟩ => (hv.run P ps W hp tk).run pins s σ H Q I z⟩ h1, fun P σ H Q ⟨e, s, h⟩ => ⟨P, ?_⟩⟩
    refine tD_of s (h.bnd.mono fun d e1 H1 go1 z v rv => h2 P _ _ _ ⟨e1, go1.st, z.bnd.mono fun ds e2 H2 go2 z2 vs rvs => ?_⟩)
    exact z2 _ (Go.refl go2.st) (v :: vs) ⟨v, vs, rfl, Rep.kp go2.kp _ _ rv, rvs⟩, by
    obtain ⟨h1, h2, h3⟩ := hr.all
    exact ⟨by rw [List.all_cons, h1]; rfl, by simp [h2], by simp [h3]⟩⟩
theorem dps_str {z : Str} {j : Nat} {p : Pos} (hv : DE g mp X a fa) (hr : DPs g mp X pos keys values ks fs) : DPs g mp X pos (some (.Constant (.str z) j p) :: keys) (a :: values) (.inr z :: ks) (dCons fa fs) := dps_cons pe_str hv hr
theorem dps_int {z : Int} {j : Nat} {p : Pos} (hv : DE g mp X a fa) (hr : DPs g mp X pos keys values ks fs) : DPs g mp X pos (some (.Constant (.int z) j p) :: keys) (a :: values) (.inl z :: ks) (dCons fa fs) := dps_cons pe_int hv hr
end
theorem putK_new {kvs : List (Key × V)} {k : Key} {v : V} (h : k ∉ kvs.map (·.1)) : putK kvs k v = kvs ++ [(k, v)] := by
  unfold putK
  rw [if_neg]
  intro z
  obtain ⟨p, hp, q⟩ := List.any_eq_true.mp z
  exact h (List.mem_map.mpr ⟨p, hp, of_decide_eq_true q⟩)
theorem mergeK_new : ∀ {more kvs : List (Key × V)}, (more.map (·.1)).Nodup → (∀ k ∈ more.map (·.1), k ∉ kvs.map (·.1)) → mergeK kvs more = kvs ++ more
  | [], kvs, _, _ => by show kvs = kvs ++ []; rw [List.append_nil]
  | p :: r, kvs, h1, h2 => by
    obtain ⟨n1, n2⟩ := List.nodup_cons.mp h1
    show mergeK (putK kvs p.1 p.2) r = _
    rw [putK_new (h2 p.1 (by simp)), mergeK_new n2 fun k hk z => ?_, List.append_assoc]
    · rfl
    · rw [List.map_append] at z
      rcases List.mem_append.mp z with z | z
      · exact h2 k (List.mem_cons_of_mem _ hk) z
      · have : k = p.1 := by simpa using z
        exact n1 (by show p.1 ∈ _; rw [← this]; exact hk)
def dDisp (ks : List Key) (f : Env → R (List D)) : Env → R D := fun e => bnd (f e) fun ds e1 => if ds.length = ks.length then .ok (.dct ks ds) e1 else .bad
def dEmp : Env → R D := fun e => .ok (.dct [] []) e
section
variable {g : G} {mp : List Nat} {X : Cx} {x : Str} {pos : Pos} {a b c : Expr} {fa fb fc : Env → R D} {keys : List (Option Expr)} {values : List Expr} {ks : List Key} {fs : Env → R (List D)}
theorem tabs_upd' {T : List (Addr × Str)} {H : Hp} {a : Addr} {o0 o : HO} (t : LamX.Tabs T H) (h : H a = some o0) (n0 : NT o0) (nc : ∀ c q, LamX.CodeO c q ≠ o0) : LamX.Tabs T (upd H a o) := fun p hp => by
  obtain ⟨ps, h1, h2, h3⟩ := t p hp
  have n1 : p.1 ≠ a := fun z => by
    rw [z, h] at h1
    exact n0 ps (Option.some.inj h1)
  refine ⟨ps, by rw [upd_ne n1]; exact h1, h2, fun pos cv hc => ?_⟩
  obtain ⟨c, e1, e2⟩ := h3 pos cv hc
  have n2 : c ≠ a := fun z => by
    subst z
    rw [h] at e2
    exact nc _ _ (Option.some.inj e2).symm
  exact ⟨c, e1, by rw [upd_ne n2]; exact e2⟩
/-- a new object, set apart -/
theorem StRel.newP {P ps e σ H} (s : StRel g P ps e σ H) {p : Addr} {o : HO} (h : H p = none) (nc : NC o) : StRel g (Pl P p) ps e σ (upd H p o) ∧ Kp (Av P e σ) H (Av (Pl P p) e σ) (upd H p o) := by
  have nA := s.fresh h
  have k : Kp (Av P e σ) H (Av (Pl P p) e σ) (upd H p o) := fun b u q n => by
    have nb : b ≠ p := ne_of_none q h
    rw [upd_ne nb]
    refine ⟨q, fun z => ?_⟩
    rcases z with (z | z) | z
    · exact n.1 (.inl z)
    · exact nb z
    · exact n.1 (.inr z)
  refine ⟨⟨s.len, fun i d q => ?_, fun i es q => ?_, s.inj, fun b q => ?_, s.par, tabs_new s.tb h⟩, k⟩
  · obtain ⟨v, h1, h2⟩ := s.vv i d q
    exact ⟨v, h1, Rep.kp k _ _ h2⟩
  · obtain ⟨b, us, h1, h2, h3, h4⟩ := s.mm i es q
    have nb : b ≠ p := ne_of_none h2 h
    exact ⟨b, us, h1, by rw [upd_ne nb]; exact h2, RepL.kp k _ _ h3, fun z => z.elim h4 nb⟩
  · by_cases hb : b = p
    · rw [hb, upd_same]; exact ⟨_, rfl, nc⟩
    · rw [upd_ne hb]
      rcases q with q | q
      · exact s.prv b q
      · exact absurd q hb
/-- .. is written, and shared from now on -/
theorem Go.fill {P ps e σ H e1 H1} (s : StRel g P ps e σ H) {p : Addr} {o0 o : HO} (h : H p = none) (go : Go g (Pl P p) ps e σ (upd H p o0) e1 σ H1) (n0 : NT o0) (nc : ∀ c q, LamX.CodeO c q ≠ o0) :
    H1 p = some o0 ∧ Kp (Av (Pl P p) e1 σ) H1 (Av P e1 σ) (upd H1 p o) ∧ Go g P ps e σ H e1 σ (upd H1 p o) ∧ ¬ Av P e1 σ p := by
  have h1 : H1 p = some o0 := (go.pr p (.inr rfl)).trans upd_same
  have k : Kp (Av (Pl P p) e1 σ) H1 (Av P e1 σ) (upd H1 p o) := fun b u q n => by
    have nb : b ≠ p := fun z => n.1 (.inl (.inr z))
    exact ⟨by rw [upd_ne nb]; exact q, fun z => n.1 (z.mono fun _ z => .inl z)⟩
  have k0 := (s.newP (o := o0) h ⟨nc, n0⟩).2
  have nP : ∀ b, P b → b ≠ p := fun b hb z => by
    obtain ⟨u, q, _⟩ := s.prv b hb
    rw [z, h] at q
    cases q
  have nA : ¬ Av P e1 σ p := by
    rintro (z | ⟨j, es, q1, q2⟩)
    · exact nP p z rfl
    · obtain ⟨b, us, r1, r2, _, r4⟩ := go.st.mm j es q1
      rw [q2] at r1
      cases r1
      exact r4 (.inr rfl)
  refine ⟨h1, k, ⟨⟨go.st.len, fun i d q => ?_, fun i es q => ?_, go.st.inj, fun b hb => ?_, go.st.par, tabs_upd' go.st.tb h1 n0 nc⟩, (k0.trans go.kp).trans k, fun b hb => ?_⟩, nA⟩
  · obtain ⟨v, q1, q2⟩ := go.st.vv i d q
    exact ⟨v, q1, Rep.kp k _ _ q2⟩
  · obtain ⟨b, us, q1, q2, q3, q4⟩ := go.st.mm i es q
    have nb : b ≠ p := fun z => q4 (.inr z)
    exact ⟨b, us, q1, by rw [upd_ne nb]; exact q2, RepL.kp k _ _ q3, fun z => q4 (.inl z)⟩
  · rw [upd_ne (nP b hb)]
    exact go.st.prv b (.inl hb)
  · rw [upd_ne (nP b hb), go.pr b (.inl hb), upd_ne (nP b hb)]
theorem de_emp : DE g mp X (.Dict [] [] pos) dEmp := ⟨fun P ps W hp tk => pe_imp pe_dnewK fun σ H Q q => by
  obtain ⟨e, s, q⟩ := tD_eq.mp q
  intro p hp
  exact q _ (Go.new s hp) _ ⟨p, [], rfl, ⟨s.fresh hp, upd_same⟩, rfl, rfl⟩⟩
theorem zip_map_kV : ∀ (ks : List Key) (vs : List V), (ks.map kV).zip vs = (ks.zip vs).map fun kv => (kV kv.1, kv.2)
  | [], _ => rfl
  | _ :: _, [] => rfl
  | k :: ks, v :: vs => by
    show (kV k, v) :: (ks.map kV).zip vs = (kV k, v) :: (ks.zip vs).map _
    rw [zip_map_kV ks vs]
theorem de_disp (h : DPs g mp X pos keys values ks fs) (hnd : ks.Nodup := by decide) (h0 : keys ≠ [] := by exact fun z => by cases z) (h15 : keys.length ≤ 15 := by decide) : DE g mp X (.Dict keys values pos) (dDisp ks fs) := ⟨fun P ps W hp tk => by
  obtain ⟨trs, h1, h2⟩ := h.run ps W hp tk
  refine pe_imp (pe_disp h1 h.all.1 h.all.2.1 h0 h15) fun σ H Q q => ?_
  obtain ⟨e, s, q⟩ := tD_eq.mp q
  intro p hp
  have sP := s.newP (o := .dK []) hp nc_dK
  refine h2 (Pl P p) _ _ _ ⟨e, sP.1, ?_⟩
  have ncd : ∀ c q, LamX.CodeO c q ≠ .dK [] := fun c q z => by unfold LamX.CodeO at z; cases z
  unfold dDisp at q
  revert q
  cases fs e with
  | bad => exact fun q => q
  | exc x e1 =>
      intro q cls d H1 go1 rx
      have hh := Go.fill (o := .dK []) s hp go1 nt_dK ncd
      have e1 : upd H1 p (.dK []) = H1 := by
        funext b
        by_cases hb : b = p
        · rw [hb, upd_same, hh.1]
        · rw [upd_ne hb]
      have g2 := hh.2.2.1
      have k2 := hh.2.1
      rw [e1] at g2 k2
      exact q cls d H1 g2 (XRep.kp k2 rx)
  | ok ds e1 =>
    intro q H1 go1 vs rvs
    have q : PR g P ps W e σ H (if ds.length = ks.length then R.ok (D.dct ks ds) e1 else .bad) (fun d e' H' => ∀ v, Rep g H' (Av P e' σ) d v → Q v H') := q
    by_cases hl : ds.length = ks.length
    · rw [if_pos hl] at q
      have lv := rvs.length
      have hz : ks.length = vs.length := by omega
      obtain ⟨hp1, k, g2, nA⟩ := Go.fill (o := .dK (ks.zip vs)) s hp go1 nt_dK ncd
      refine ⟨hp1, ks.zip vs, zip_map_kV ks vs, ?_, ?_⟩
      · rw [List.length_zip, ← h.all.2.2]
        omega
      · rw [mergeK_new (by rw [List.map_fst_zip (by omega)]; exact hnd) fun k _ z => by simp at z, List.nil_append]
        exact q _ g2 _ ⟨p, vs, rfl, ⟨nA, upd_same⟩, hz, RepL.kp k _ _ rvs⟩
    · rw [if_neg hl] at q
      exact q.elim⟩
end
/-! ### d.get(k, x) -/
def getD2 (d k x : D) : Option D := match d with
  | .dct ks ds => (keyD k).map fun q => (lookK ks ds q).getD x
  | _ => none
def isDct : D → Option Unit
  | .dct _ _ => some ()
  | _ => none
def dGet2 (fa fb fc : Env → R D) : Env → R D := fun e => bnd (fa e) fun a e1 => bnd (opt (isDct a) e1) fun _ e1 => bnd (fb e1) fun b e2 => bnd (fc e2) fun c e3 => opt (getD2 a b c) e3
section
variable {g : G} {mp : List Nat} {X : Cx} {x : Str} {pos : Pos} {a b c : Expr} {fa fb fc : Env → R D}
theorem de_get2 {apos cpos : Pos} (hu : X.A.units + 1 < cLine) (ha : DE g mp X a fa) (hb : DE g mp X b fb) (hc : DE g mp X c fc) (m : M2 X a "get" apos b c cpos := by exact ⟨rfl, rfl, rfl, rfl⟩) : DE g mp X (.Call (.Attribute a "get" apos) [b, c] [] cpos) (dGet2 fa fb fc) := ⟨fun P ps W hp tk => pe_imp (pe_dget2 hu (ha.run P ps W hp tk) (hb.run P ps W hp tk) (hc.run P ps W hp tk) m) fun σ H Q q => by
  obtain ⟨e, s, q⟩ := tD_eq.mp q
  refine tD_of s (q.bnd.mono fun d e1 H1 go1 z v rv => ?_)
  obtain ⟨_, qd, z⟩ := PR.optM go1.st z
  cases d with
  | dct ks ds =>
    obtain ⟨p, vs, rfl, ⟨nA, hH⟩, hl, rr⟩ := rv
    refine ⟨p, rfl, .inl ⟨_, .inl hH⟩, tD_of go1.st (z.bnd.mono fun k e2 H2 go2 z2 v2 rv2 => tD_of go2.st (z2.bnd.mono fun y e3 H3 go3 z3 v3 rv3 => ?_))⟩
    obtain ⟨d', q', z4⟩ := PR.opt z3
    unfold getD2 at q'
    obtain ⟨qk, hk, hd⟩ := Option.map_eq_some_iff.mp q'
    have hH3 := ((go2.trans go3).kp p _ hH ⟨nA, nt_dK⟩).1
    have r3 := RepL.kp (go2.kp.trans go3.kp) _ _ rr
    have ek := keyD_some hk rv2
    have lk := lookK_ok (q := qk) hl r3
    cases hq : lookK ks ds qk with
    | none =>
      rw [hq] at lk hd
      refine ⟨none, .inl ⟨_, qk, .inl hH3, ek, lk.symm⟩, z4 _ (Go.refl go3.st) _ ?_⟩
      rw [← hd]
      exact rv3
    | some d2 =>
      rw [hq] at lk hd
      obtain ⟨v', l1, l2⟩ := lk
      refine ⟨some v', .inl ⟨_, qk, .inl hH3, ek, l1.symm⟩, z4 _ (Go.refl go3.st) _ ?_⟩
      rw [← hd]
      exact l2
  | _ => cases qd⟩
end
end DL
end

section
set_option Elab.async false
set_option linter.all false
set_option maxRecDepth 100000
set_option maxHeartbeats 4000000
namespace DL
open PySem PySem.Spec PyProof.Rows L2

/-! ### a dict of the top: texts to defs -/
structure KTab (g : G) (w : World) (d : Addr) (tab : List (Str × Nat)) : Prop where
  kd : ∃ es n, KDict g.K w d es n
  no : ∀ z, tab.lookup z = none → PySem.W.nsIn g.K d z = some none
  yes : ∀ z n, tab.lookup z = some n → PySem.W.nsIn g.K d z = some (some (.ref (g.fnA n)))
def inT (tab : List (Str × Nat)) (neg : Bool) : D → Option D
  | .str z => some (.bl (if neg then !(tab.lookup z).isSome else (tab.lookup z).isSome))
  | _ => none
def ixT (tab : List (Str × Nat)) : D → Option D
  | .str z => (tab.lookup z).map .fn
  | _ => none
section
variable {g : G} {mp : List Nat} {X : Cx} {x : Str} {pos p : Pos} {a : Expr} {fa : Env → R D} {d : Addr} {tab : List (Str × Nat)}
theorem KTab.has (T : KTab g X.w d tab) (z : Str) : PySem.W.nsIn g.K d z = some ((tab.lookup z).map fun n => .ref (g.fnA n)) := by
  cases h : tab.lookup z with
  | none => exact T.no z h
  | some n => exact T.yes z n h
theorem isSome_map {α β : Type} {o : Option α} {f : α → β} : (o.map f).isSome = o.isSome := by cases o <;> rfl
theorem tD_inT {P ps W neg} {r : R2} (h0 : ∀ (z : Str) (Q : VK) (H : Hp), Q (.bl (if neg then !(tab.lookup z).isSome else (tab.lookup z).isSome)) H → r (.str z) (.ref d) H Q) {σ H Q} (h : tD g P ps W (dUn (inT tab neg) fa) σ H Q) : tOp r (tD g P ps W fa) (tC (.ref d)) σ H Q := by
  obtain ⟨e, s, h⟩ := tD_eq.mp h
  refine tD_of s (h.bnd.mono fun b e1 H1 go1 z v rv => ?_)
  obtain ⟨d', q, z⟩ := PR.opt z
  cases b <;> first | (cases q; done) | skip
  rename_i y
  cases q
  rw [show v = .str y from rv]
  exact h0 _ _ _ (z _ (Go.refl go1.st) _ rfl)
theorem de_inT (T : KTab g X.w d tab) (hK : X.K = g.K) (hg : Gl X x) (hm : X.mg x = some (.ref d)) (ha : DE g mp X a fa) (hb : behindInMarks .In (.Name x p) = false := by rfl) (hd : (x == ("__debug__" : Str)) = false := by decide) : DE g mp X (.Compare a [.In] [.Name x p] pos) (dUn (inT tab false) fa) := by
  obtain ⟨es, n, kd⟩ := T.kd
  rw [← hK] at kd
  exact ⟨fun P ps W hp tk => pe_imp (pe_cmpR (op_in_kd kd) (ha.run P ps W hp tk) (pe_glob hg hm (v := .ref d) rfl hd) hb) fun σ H Q h => tD_inT (fun z Q H q => ⟨z, _, rfl, rfl, by rw [hK]; exact T.has z, by rw [isSome_map]; exact q⟩) h⟩
theorem db_inT (T : KTab g X.w d tab) (hK : X.K = g.K) (hg : Gl X x) (hm : X.mg x = some (.ref d)) (ha : DE g mp X a fa) (hb : behindInMarks .In (.Name x p) = false := by rfl) (hd : (x == ("__debug__" : Str)) = false := by decide) : DB g mp X (.Compare a [.In] [.Name x p] pos) (dTest (dUn (inT tab false) fa)) := by
  obtain ⟨es, n, kd⟩ := T.kd
  rw [← hK] at kd
  exact ⟨fun P ps W hp tk => pt_imp (pt_cmpR (op_in_kd kd) (ha.run P ps W hp tk) (pe_glob hg hm (v := .ref d) rfl hd) hb) fun σ H Q h => tD_inT (fun z Q H q => ⟨z, _, rfl, rfl, by rw [hK]; exact T.has z, by rw [isSome_map]; exact q⟩) (tD_test h)⟩
theorem de_notInT (T : KTab g X.w d tab) (hK : X.K = g.K) (hg : Gl X x) (hm : X.mg x = some (.ref d)) (ha : DE g mp X a fa) (hb : behindInMarks .NotIn (.Name x p) = false := by rfl) (hd : (x == ("__debug__" : Str)) = false := by decide) : DE g mp X (.Compare a [.NotIn] [.Name x p] pos) (dUn (inT tab true) fa) := by
  obtain ⟨es, n, kd⟩ := T.kd
  rw [← hK] at kd
  exact ⟨fun P ps W hp tk => pe_imp (pe_cmpR (op_notIn_kd kd) (ha.run P ps W hp tk) (pe_glob hg hm (v := .ref d) rfl hd) hb) fun σ H Q h => tD_inT (fun z Q H q => ⟨z, _, rfl, rfl, by rw [hK]; exact T.has z, by rw [isSome_map]; exact q⟩) h⟩
theorem db_notInT (T : KTab g X.w d tab) (hK : X.K = g.K) (hg : Gl X x) (hm : X.mg x = some (.ref d)) (ha : DE g mp X a fa) (hb : behindInMarks .NotIn (.Name x p) = false := by rfl) (hd : (x == ("__debug__" : Str)) = false := by decide) : DB g mp X (.Compare a [.NotIn] [.Name x p] pos) (dTest (dUn (inT tab true) fa)) := by
  obtain ⟨es, n, kd⟩ := T.kd
  rw [← hK] at kd
  exact ⟨fun P ps W hp tk => pt_imp (pt_cmpR (op_notIn_kd kd) (ha.run P ps W hp tk) (pe_glob hg hm (v := .ref d) rfl hd) hb) fun σ H Q h => tD_inT (fun z Q H q => ⟨z, _, rfl, rfl, by rw [hK]; exact T.has z, by rw [isSome_map]; exact q⟩) (tD_test h)⟩
theorem de_ixT (T : KTab g X.w d tab) (hK : X.K = g.K) (hg : Gl X x) (hm : X.mg x = some (.ref d)) (ha : DE g mp X a fa) (hs : PlainIx a := by exact fun _ _ => rfl) (hd : (x == ("__debug__" : Str)) = false := by decide) : DE g mp X (.Subscript (.Name x p) a pos) (dUn (ixT tab) fa) := by
  obtain ⟨es, n, kd⟩ := T.kd
  rw [← hK] at kd
  refine ⟨fun P ps W hp tk => pe_imp (pe_ix (ix_kdict (X := X)) (pe_glob hg hm (v := .ref d) rfl hd) (ha.run P ps W hp tk) hs) fun σ H Q h => ?_⟩
  obtain ⟨e, s, h⟩ := tD_eq.mp h
  refine tD_of s (h.bnd.mono fun b e1 H1 go1 z v rv => ?_)
  obtain ⟨d', q, z⟩ := PR.opt z
  cases b <;> first | (cases q; done) | skip
  rename_i y
  obtain ⟨k, hk, rfl⟩ := Option.map_eq_some_iff.mp q
  rw [show v = .str y from rv]
  exact ⟨d, y, .ref (g.fnA k), rfl, rfl, ⟨es, n, _, kd.at_, kd.lit, by rw [hK]; exact T.yes y k hk, rfl⟩, z _ (Go.refl go1.st) _ rfl⟩
end

/-! ### the call of a def that a name holds -/
def tCallLS (i : Nat) (f : Addr) (sp : Sp) (E : L2.St → XK) (t : TA) : TE := fun σ H Q => σ[i]? = some (some (.ref f)) ∧ t σ H fun vs H1 => sp vs H1 Q (E σ)
def fnAt (e : Env) (i : Nat) : Option Nat := match e[i]? with
  | some (some (.v (.fn n))) => some n
  | _ => none
theorem fnAt_some {e : Env} {i n : Nat} (h : fnAt e i = some n) : e[i]? = some (some (.v (.fn n))) := by
  unfold fnAt at h
  split at h
  · rename_i k q; cases h; exact q
  · cases h
def dCallH (i : Nat) (S : Nat → Option (List Slot → RF)) (sh : List (Option Nat)) (fa : Env → R (List D)) : Env → R D := fun e => bnd (opt ((fnAt e i).bind S) e) fun F _ => callF F sh fa kD e
/-- a def by its number -/
structure Hfn (g : G) (Pr : Program) (w : World) (K : PySem.W.Frag) (mg : Str → Option Value) (base : Heap) (k : Nat) (n m : Nat) (mp : List Nat) (F : List Slot → RF) : Prop where
  ex : ∃ fd pn N, FnOk Pr w K mg base (L2.CX Pr w) k (g.fnA n) fd pn (spD g N mp m F) ∧ PySem.W.keepIn K (.ref (g.fnA n)) = true ∧ Binds K fd pn []
section
variable {g : G} {mp mc : List Nat} {X : Cx} {x : Str} {pos p : Pos} {e : Expr} {es : List Expr} {fs : Env → R (List D)} {sh : List (Option Nat)}
theorem de_callH (i : Nat) {k m : Nat} {S : Nat → Option (List Slot → RF)} (hS : ∀ n F, S n = some F → Hfn g X.prog X.w X.K X.mg X.base k n m mc F) (hr : Room k X.A) (ha : DAS g mp X (e :: es) sh fs) (hm : (psN 0 sh).map (·.1) = mc := by rfl) (hl : sh.length = m := by rfl) (nd : ((psN 0 sh).map (·.2)).Nodup := by decide)
    (hN : X.N[i]? = some x := by rfl) (hv : Vis X.env.scope x := by first | exact Or.inl rfl | exact Or.inr (Or.inl rfl) | exact Or.inr (Or.inr rfl)) (hdb : (x == ("__debug__" : Str)) = false := by decide) (hcd : (x == ("__classdict__" : Str)) = false := by decide)
    (he : starEach (e :: es) X.env = (false, eval e X.env) :: starEach es X.env := by rfl) (hpl : (backTo pos (starEach es X.env)).any (·.1) = false := by rfl) : DE g mp X (.Call (.Name x p) (e :: es) [] pos) (dCallH i S sh fs) := by
  refine ⟨fun P ps W hp tk => ⟨fun pins s σ H Q I h => ?_⟩⟩
  obtain ⟨e0, st, h⟩ := tD_eq.mp h
  obtain ⟨F, q, h⟩ := PR.optM st h
  cases hn : fnAt e0 i with
  | none => rw [hn] at q; cases q
  | some n =>
  rw [hn] at q
  obtain ⟨fd, pn, N, h1, h3, h4⟩ := (hS n F q).ex
  obtain ⟨u, hσ, ru⟩ := st.vv i _ (fnAt_some hn)
  rw [show u = .ref (g.fnA n) from ru] at hσ
  refine wpAny_Call_Name_kw (thn ((pe_var (pos := p) hN hv hdb hcd).run pins s σ H (fun v H1 => v = .ref (g.fnA n) ∧ H1 = H) I ⟨_, hσ, rfl, rfl⟩) fun u s1 ⟨v, H1, I1, r1, q1⟩ => ?_)
  obtain ⟨rfl, rfl⟩ := q1
  cases r1
  refine PySem.W.callWith_K (h₀ := X.base) I.ok.mod.kin h3 (thn ((ha.run P ps W hp tk).run pos pins s1 σ _ (fun vs H2 => spD g N mc m F vs H2 Q (WE W σ)) I1 ?_) fun us s2 ⟨vs, H2, I2, r, q⟩ => ⟨I2.kIn, run_fnS h1 hr h4 (passAt tk σ) I2 r q⟩) he hpl
  refine ⟨e0, st, h.bnd.mono fun ds e1 H1 go1 z vs av => ?_⟩
  cases hs : mkS sh ds e1 with
  | none => rw [hs] at z; exact z.elim
  | some ss =>
    rw [hs] at z
    refine call_go go1.st hs av nd hm hl ?_
    revert z
    dsimp only
    cases F ss with
    | bad => exact fun z => z
    | exc x outs => exact fun z cls d H' go rx => z cls d H' go rx
    | ok s' outs => cases s' with
      | v d => exact fun z v H' go rv => z H' go v rv
      | m l => exact fun z a H' gm => z H' gm.go _ gm.rep
end
end DL
end

section
set_option Elab.async false
set_option linter.all false
set_option maxRecDepth 100000
set_option maxHeartbeats 4000000
/-! own exceptions -/
namespace DX
open PySem PySem.Spec PyProof.Rows L2
section
open Builtin Builtin.ObjectAttr PySem.W
variable {prog : Program} {w : World} {A : Around} {R : Result → Shared → Prop} {hp : Heap} {g : Array GenState} {d : Drawn} {t : Nat} {os : OsState}
/-- x.name = v on an exception without a dict, whatever its built-in base -/
theorem store_first {K : W.Frag} {name : Str} {tk : Tok} {v : Value} {x C : Addr} {fv : Array Value} {cd : ClassData}
    (X : K.In hp) (hx : hp.get? x = some { cls := .ref C, data := .fields fv }) (hcd : W.clsIn K C = some cd) (ne : cd.mro.isEmpty = false) (hob : cd.mro.contains (.type "object") = true) (pass : refuseLoop (.ref x) "__setattr__" cd.mro = pure ()) (hh : cd.hasDict = true) (ha : W.findIn K (.ref C) name = some none)
    (hq : ∀ h' tk' dx, (∀ b o, b ≠ x → hp.get? b = some o → h'.get? b = some o) → hp.objs.size ≤ dx → dx ≠ x → h'.get? x = some { cls := .ref C, dict := some dx, data := .fields fv } →
      h'.Ns1 dx (fun y => if y = name then some v else none) → R (.ok (.ret .none)) ⟨h', g, d, tk', os⟩) :
    codeAny (model prog w) A (.call (.builtin "object.__setattr__") ⟨[.ref x, .str name tk, v], []⟩) R ⟨hp, g, d, t, os⟩ := by
  have I : W.InstAt hp x { cls := .ref C, data := .fields fv } C none := ⟨hx, rfl, rfl, trivial⟩
  have SF := F.store_object
  have hxs : x ≠ hp.objs.size := Nat.ne_of_lt (Heap.lt_size hx)
  have sub : W.Looks (model prog w) hp (isInstance (.ref x) (.type "object")) true := I.type.andThen (W.looks_mroIn X (by unfold W.mroIn; rw [hcd, Option.bind_some, if_neg (by rw [ne]; decide), hob]))
  refine codeAny_call_builtin SF.slot.plain SF.entry (@W.check_slot (model prog w) _ _ ⟨hp, g, d, t, os⟩ "object.__setattr__" "object" "__setattr__" (.ref x) [.str name tk, v] [] _ SF.kind SF.split sub (SF.args (.ref x) (.str name tk) v) ?_)
  have hmr : W.Looks (model prog w) hp (mroOf (.ref C)) cd.mro := (W.looks_clsIn X hcd).andThen .now
  have hcls : W.Looks (model prog w) hp (classData C) cd := W.looks_clsIn X hcd
  rw [W.osa_eq, refuse_eq]
  refine wpAny_bind (wpAny_bind (I.type.at (wpAny_bind (hmr.at ?_))))
  rw [pass]
  refine wpAny_pure (wpAny_bind (I.type.at (wpAny_bind ((W.looks_findIn X ha).at (wpAny_bind ((W.Looks.now : W.Looks (model prog w) hp (storeTaker? none) none).at ?_))))))
  show wpAny _ _ (storeInOwnDict (.ref x) (.ref C) (.str name tk) name v false) _ _ _
  obtain ⟨nm, bs, mro, ns, qn, hd, sn, sb, ab, col, del⟩ := cd
  dsimp only at hh
  subst hh
  unfold storeInOwnDict ownDictForStores
  repeat (first | with_reducible refine HandSPX.store_in_new ?_ ?_ | with_reducible refine wpAny_loadPart_at hx ?_ | with_reducible refine hcls.at ?_ | wp_step)
  · exact ⟨_, #[], _, (Heap.get?_update_ne _ _ _ _ hxs.symm).trans (Heap.get?_push_at rfl rfl), rfl, fun e he => absurd he (by simp), fun _ => rfl⟩
  · intro h' tk' hn' hs
    have hx₁ : (hp.push { cls := .type "dict", data := .dict #[] }).get? x = some { cls := .ref C, data := .fields fv } := Heap.get?_push_of_some _ hx
    refine hq h' tk' hp.objs.size (fun b o hb ho => ?_) (Nat.le_refl _) hxs.symm ?_ hn'
    · exact (hs.2 b (Nat.ne_of_lt (Heap.lt_size ho))).trans ((Heap.get?_update_ne _ _ _ _ hb).trans (Heap.get?_push_of_some _ ho))
    · exact (hs.2 x hxs).trans (Heap.get?_update_self _ hx₁ rfl)
end
/-- refs, then this end -/
def refsT (tl : List Value) : List Value → Bool
  | .ref _ :: r => refsT tl r
  | l => decide (l = tl)
/-- what may stand at the end -/
structure TailOk (tl : List Value) : Prop where
  pass : ∀ self, refuseLoop self "__setattr__" tl = pure ()
  obj : tl.contains (.type "object") = true
  ne : tl.isEmpty = false
theorem refsT_cases {tl : List Value} : ∀ l : List Value, refsT tl l = true → (∃ c r, l = .ref c :: r ∧ refsT tl r = true) ∨ l = tl
  | l, h => by
    unfold refsT at h
    split at h
    · exact .inl ⟨_, _, rfl, h⟩
    · exact .inr (of_decide_eq_true h)
theorem refsT_pass {tl : List Value} (T : TailOk tl) (self : Value) : ∀ l : List Value, refsT tl l = true → refuseLoop self "__setattr__" l = pure ()
  | [], h => by
    rcases refsT_cases [] h with ⟨c, r, e, _⟩ | e
    · cases e
    · rw [e]; exact T.pass self
  | a :: l, h => by
    rcases refsT_cases (a :: l) h with ⟨c, r, e, q⟩ | e
    · cases e
      rw [refuseLoop_ref]
      exact refsT_pass T self l q
    · rw [e]; exact T.pass self
theorem refsT_has {tl : List Value} (Y : String) : ∀ l : List Value, refsT tl l = true → l.contains (.type Y) = tl.contains (.type Y)
  | [], h => by
    rcases refsT_cases [] h with ⟨c, r, e, _⟩ | e
    · cases e
    · rw [← e]
  | a :: l, h => by
    rcases refsT_cases (a :: l) h with ⟨c, r, e, q⟩ | e
    · cases e
      rw [List.contains_cons, refsT_has Y l q]
      rfl
    · rw [e]
abbrev leTail : List Value := [.type "LookupError", .type "Exception", .type "BaseException", .type "object"]
abbrev veTail : List Value := [.type "ValueError", .type "Exception", .type "BaseException", .type "object"]
theorem tail_le : TailOk leTail := ⟨fun self => F.store_LookupError.passes self, by decide +kernel, rfl⟩
theorem tail_ve : TailOk veTail := ⟨fun self => F.store_ValueError.passes self, by decide +kernel, rfl⟩
/-- what the written part says of an own exception class over a built-in one -/
structure OexT (K : PySem.W.Frag) (C : Addr) (newId : String) (tl : List Value) : Prop where
  cls : ∃ nm q N bs bm sn sub ab col dd k0 k1 k2 k3 k5, K.lookup C = some (excClassObj nm q C N bs bm true sn sub ab col dd k0 k1 k2 k3 k5 newId) ∧ refsT tl bm = true
  sa : PySem.W.findIn K (.ref C) "__setattr__" = some (some (.builtin "object.__setattr__"))
  exC : PySem.W.subIn K (.ref C) (.type "BaseException") = some true
  tyC : PySem.W.typeIn K (.ref C) = some (.type "type")
  kC : PySem.W.keepIn K (.ref C) = true
section
variable {X : Cx} {pins : List (Addr × Obj)} {σ : L2.St} {H : Hp} {s : Shared} {a C dx : Addr} {f : Str} {y : V} {u : Value} {A : Around} {newId : String} {tl : List Value} {E : Value → Shared → Prop}
/-- self.f = y, the first one -/
theorem ost_first {Q : Unit → Shared → Prop} (T : OexT X.K C newId tl) (TT : TailOk tl) (I : Inv X pins σ H s) (e : H a = some (exo a C none)) (hno : PySem.W.findIn X.K (.ref C) f = some none) (ry : RelV y u)
    (h : ∀ dx s', H dx = none → dx ≠ a → Inv X pins σ (upd (upd H dx (exd dx [(f, y)])) a (exo a C (some dx))) s' → Q () s') : wpAny (model X.prog X.w) A (setAttr (.ref a) f u) Q E s := by
  obtain ⟨nm, q, N, bs, bm, sn, sub, ab, col, dd, k0, k1, k2, k3, k5, hC, hbm⟩ := T.cls
  have hcl : PySem.W.clsIn X.K C = some { name := nm, bases := bs, mro := .ref C :: bm, ns := N, qualname := q, hasDict := true, slotNames := sn, subclasses := sub, abstract := ab, collection := col, hasDel := false } := by unfold PySem.W.clsIn; rw [hC] <;> rfl
  have hr : refsT tl (.ref C :: bm) = true := hbm
  obtain ⟨t1, ho⟩ := exo_at I.hok e
  obtain ⟨hp, g, d, t, os⟩ := s
  refine PySem.W.set_plain I.kIn (ox := { cls := .ref C, dict := none, data := .fields #[.ref t1, .none, .none, .none, .bool false, .none] }) (od := none) ⟨ho, rfl, rfl, trivial⟩ T.sa ?_
  refine store_first I.kIn ho hcl rfl ((refsT_has "object" _ hr).trans TT.obj) (refsT_pass TT _ _ hr) rfl hno (fun h' tk' dx k dn dne hx hn => ?_)
  have hnd : H dx = none := I.hok.fresh dn
  have nd : ∀ {b : Addr} {o : Obj}, hp.get? b = some o → b ≠ dx := fun {b o} q => Nat.ne_of_lt (Nat.lt_of_lt_of_le (Heap.lt_size q) dn)
  have na : ∀ {b : Addr}, H b = none → b ≠ a := fun {b} n z => by
    rw [z, e] at n
    cases n
  have Un1 : Un X.fs [] H (upd (upd H dx (exd dx [(f, y)])) a (exo a C (some dx))) hp h' := {
    keep := fun b o q n _ _ => k b o (na n) q
    slot := fun b o q n _ _ => ⟨o.slots, k b o (na n) q⟩
    free := fun b o q n _ => by rw [upd_ne (na n), upd_ne (nd q)]; exact n
    there := fun b o q _ => by
      by_cases hb : b = a
      · exact ⟨_, by rw [hb]; exact hx⟩
      · exact ⟨o, k b o hb q⟩
    tups := fun b xs q => by rw [upd_ne (at_ne e q exo_tup), upd_ne (ne_of_none q hnd)]; exact q
    frzs := fun b o v q => by rw [upd_ne (at_ne e q exo_frz), upd_ne (ne_of_none q hnd)]; exact q
    tbls := fun b ps q => ⟨#[], by rw [upd_ne (at_ne e q exo_tbl), upd_ne (ne_of_none q hnd), q]; simp⟩ }
  refine h dx _ hnd dne (I.un (t' := tk') Un1 fun b o q => ?_)
  by_cases hb : b = a
  · subst hb
    rw [upd_same] at q
    cases q
    exact exo_ok hx
  · rw [upd_ne hb] at q
    by_cases hd : b = dx
    · subst hd
      rw [upd_same] at q
      cases q
      exact exd_ok hn (relO_put (fs := []) ry fun g => True.intro)
    · rw [upd_ne hd] at q
      exact (I.hok b o q).stay (fun c v hc z => k c v (by
          rcases hc with hc | hc
          · rw [hc]
            exact hb
          · exact at_ne e hc exo_own) z)
        (fun c hc => by rw [upd_ne (at_ne e hc exo_own), upd_ne (ne_of_none hc hnd)]; exact hc) (fun c xs hc => by rw [upd_ne (at_ne e hc exo_tup), upd_ne (ne_of_none hc hnd)]; exact hc)
/-- B.__init__(self, ..) -/
theorem binit_ok {B initId : String} {bmB us : List Value} {Q : Value → Shared → Prop} (T : OexT X.K C newId tl) (FB : ExcBaseFacts B newId initId tl) (I : Inv X pins σ H s) (e : H a = some (exo a C none)) (hl : us.length ≤ sizeLine) (h : ∀ s', Inv X pins σ H s' → Q .none s') :
    wpAny (model X.prog X.w) A (call (.builtin initId) (.ref a :: us)) Q E s := by
  obtain ⟨nm, q, N, bs, bm, sn, sub, ab, col, dd, k0, k1, k2, k3, k5, hC, hbm⟩ := T.cls
  obtain ⟨t1, ho⟩ := exo_at I.hok e
  obtain ⟨hp, g, d, t, os⟩ := s
  refine wpAny_call (PySem.HandSPX.init_base FB (fun Y => refsT_has Y bm hbm) (I.kIn _ _ hC) ho hl fun h' t2 k hx => ?_)
  have J := I.write (t' := t) (x := a) (e := a) (o := exo a C none) (by rw [e]; exact True.intro) (.inl rfl) k ⟨_, hx⟩ (exo_ok hx)
  have eu : upd H a (exo a C none) = H := by
    funext b
    by_cases hb : b = a
    · rw [hb, upd_same, e]
    · rw [upd_ne hb]
  rw [eu] at J
  exact h _ J
/-! readings and rules -/
def tBI (K : PySem.W.Frag) (C : Addr) (ta : TA) : TE := fun σ H Q => ta σ H fun vs H1 => ∃ (a : Addr) (ws : List V), vs = .ref a :: ws ∧ ws.length ≤ 1000 ∧ H1 a = some (exo a C none) ∧ Q .non H1
def tOF (C : Addr) (f : Str) (to te : TE) : TS := fun D σ H => te σ H fun y H1 => to σ H1 fun x H2 => ∃ a : Addr, x = .ref a ∧ H2 a = some (exo a C none) ∧ ∀ dx, H2 dx = none → dx ≠ a → D.nx σ (upd (upd H2 dx (exd dx [(f, y)])) a (exo a C (some dx)))
variable {o e : Expr} {es : List Expr} {to te : TE} {ta : TA} {p p' p1 p2 pos : Pos} {B : Str} {T initId : String}
theorem pe_binit {pl : Sem Bool} (OT : OexT X.K C newId tl) (FB : ExcBaseFacts T newId initId tl) (hg : Gl X B) (hm : X.mg B = none) (hv : bootBuiltins B = some (.type T)) (ty : typeOf (.type T) = pure (.type "type")) (vV : PySem.W.findCls X.K (.type T) (.type "type") "__init__" = some (.val (.builtin initId)))
    (hn : B ≠ "__name__") (hdb : (B == ("__debug__" : Str)) = false) (q1 : Manifest.isStub T = false) (q2 : PySem.W.handedIn (Value.builtin initId) = true) (ha : PA X (e :: es) ta)
    (hc : eval (.Call (.Attribute (.Name B p1) "__init__" p2) (e :: es) [] pos) X.env = (do
      let ov ← eval (.Name B p1) X.env
      standAt p2.atName
      let (f, first) ← holding [ov] (getMethod ov "__init__" pl)
      callWith pos f first (backTo pos (starEach (e :: es) X.env)) (backToKw pos (keywordEach [] X.env))) := by rfl)
    (he : starEach (e :: es) X.env = (false, eval e X.env) :: starEach es X.env := by rfl) (hpl : (backTo pos (starEach es X.env)).any (·.1) = false := by rfl) :
    PE X (.Call (.Attribute (.Name B p1) "__init__" p2) (e :: es) [] pos) (tBI X.K C ta) := by
  refine ⟨fun pins s σ H Q I h => ?_⟩
  refine PySem.W.methodCall_KW (ld_blt I hg hm hv ?_ hn hdb) hc
  obtain ⟨m, fr⟩ := I.fr
  refine PySem.W.method_type fr I.ok.mod.kin ty q1 vV q2 ?_
  show wpAny _ _ (callWith pos (Value.builtin initId) [] (backTo pos (starEach (e :: es) X.env)) []) _ _ _
  refine PyProof.Rows.callWith_method1 (thn (ha.run pos pins _ σ H _ (I.tok _) h) fun us s1 ⟨vs, H1, I1, r1, a, ws, ev, hl, ea, q⟩ => ?_) he hpl
  subst ev
  cases r1 with
  | @cons _ u0 _ ur ra rw' =>
    obtain rfl : u0 = Value.ref a := ra
    have hlen : ur.length ≤ sizeLine := by
      rw [← Paired.length rw', sizeLine_eq]
      omega
    exact binit_ok (bmB := tl) OT FB I1 ea hlen fun s' J => ⟨.non, H1, J, rfl, q⟩
theorem ps_of (T' : OexT X.K C newId tl) (TT : TailOk tl) (hno : PySem.W.findIn X.K (.ref C) f = some none) (ho : PE X o to) (he : PE X e te) (hs : swapsWith e (some (.Attribute o f p')) pos.line X.env = pure false := by rfl) : PS X (.Assign [.Attribute o f p'] e pos) (tOF C f to te) := by
  refine ⟨fun pins s σ H D I h => ?_⟩
  refine plainObj_wpAny_Assign_Attribute (thn (he.run pins s σ H _ I h) fun v s1 ⟨y, H1, I1, r1, q1⟩ => thn (ho.run pins s1 σ H1 _ I1 q1) fun u s2 ⟨x, H2, I2, r2, a, ex, ea, q⟩ => ?_) hs
  subst ex
  obtain rfl : u = Value.ref a := r2
  exact ost_first T' TT I2 ea hno r1 fun dx s' n ne J => ⟨σ, _, J, q dx n ne⟩
end
/-- what __init__(self, y): B.__init__(self, 'text'); self.f = y promises -/
def spF (C : Addr) (f : Str) : Sp := fun vs H Q _ => ∃ a v, vs = [.ref a, v] ∧ H a = some (exo a C none) ∧ ∀ dx, H dx = none → dx ≠ a → Q .non (upd (upd H dx (exd dx [(f, v)])) a (exo a C (some dx)))
section
variable {P : Program} {w : World} {K : PySem.W.Frag} {mg : Str → Option Value} {base : Heap} {C fI : Addr} {newId : String} {tl : List Value} {qual B f y : Str} {T initId : String} {st : Stmt} {fd : FuncData} {txt : Str} {j : Nat} {p1 p2 p3 p4 p5 p6 p7 p8 p9 p10 : Pos}
theorem init_ok (F : Fun K "__init__" qual st fI fd) (S : FnScope ["self", y] ["self", y] (defScope st)) (hst : defBody st = [.Expr (.Call (.Attribute (.Name B p1) "__init__" p2) [.Name "self" p3, .Constant (.str txt) j p4] [] p5) p6, .Assign [.Attribute (.Name "self" p7) f p8] (.Name y p9) p10])
    (OT : OexT K C newId tl) (TT : TailOk tl) (FB : ExcBaseFacts T newId initId tl) (hm : mg B = none) (hv : bootBuiltins B = some (.type T)) (ty : typeOf (.type T) = pure (.type "type")) (vV : PySem.W.findCls K (.type T) (.type "type") "__init__" = some (.val (.builtin initId)))
    (hn : B ≠ "__name__") (hdb : (B == ("__debug__" : Str)) = false) (q1 : Manifest.isStub T = false) (q2 : PySem.W.handedIn (Value.builtin initId) = true) (hno : PySem.W.findIn K (.ref C) f = some none)
    (hg : (defScope st).names.lookup B = some .globalImplicit) (h0 : Vis (defScope st) "self") (h1 : Vis (defScope st) y) (hy : (y == ("__debug__" : Str)) = false) (hy2 : (y == ("__classdict__" : Str)) = false)
    (hline : ∀ env : PySem.Env, swapsWith (.Call (.Attribute (.Name B p1) "__init__" p2) [.Name "self" p3, .Constant (.str txt) j p4] [] p5) none p6.line env = pure false)
    (hline2 : ∀ env : PySem.Env, env.kindOf y = (defScope st).names.lookup y → swapsWith (.Name y p9) (some (.Attribute (.Name "self" p7) f p8)) p10.line env = pure false)
    (hc : ∀ env : PySem.Env, ∃ pl : Sem Bool, eval (.Call (.Attribute (.Name B p1) "__init__" p2) [.Name "self" p3, .Constant (.str txt) j p4] [] p5) env = (do
      let ov ← eval (.Name B p1) env
      standAt p2.atName
      let (f, first) ← holding [ov] (getMethod ov "__init__" pl)
      callWith p5 f first (backTo p5 (starEach [.Name "self" p3, .Constant (.str txt) j p4] env)) (backToKw p5 (keywordEach [] env)))) :
    FnOk P w K mg base (L2.CX P w) 1 fI fd ["self", y] (spF C f) := by
  refine F.okX S (fun vs H Q E h => ?_) fun cdv A outer s H vs Q E hr h => ?_
  · obtain ⟨a, v, rfl, _⟩ := h
    rfl
  · obtain ⟨pl, hc⟩ := hc (envOfC qual (defScope st) s.heap.objs.size fI cdv)
    rw [hst]
    have e1 : PS (cxOf (L2.CX P w) P w K mg base ["self", y] qual (defScope st) fI cdv A outer s H E) (.Expr (.Call (.Attribute (.Name B p1) "__init__" p2) [.Name "self" p3, .Constant (.str txt) j p4] [] p5) p6) _ :=
      ps_expr (pe_binit (X := cxOf (L2.CX P w) P w K mg base ["self", y] qual (defScope st) fI cdv A outer s H E) (pl := pl) OT FB hg hm hv ty vV hn hdb q1 q2 (pa_cons (pe_var (i := 0) rfl h0) (pa_cons pe_str pa_nil)) hc) (hline _)
    have e2 : PS (cxOf (L2.CX P w) P w K mg base ["self", y] qual (defScope st) fI cdv A outer s H E) (.Assign [.Attribute (.Name "self" p7) f p8] (.Name y p9) p10) _ :=
      ps_of OT TT hno (pe_var (i := 0) rfl h0) (pe_var (i := 1) rfl h1 hy hy2) (hline2 _ rfl)
    refine ⟨_, pss_cons e1 (pss_one e2), ?_⟩
    obtain ⟨a, v, rfl, ha, q⟩ := h
    exact ⟨V.ref a, rfl, a, [V.str txt], rfl, (by decide : 1 ≤ 1000), ha, v, rfl, V.ref a, rfl, a, rfl, ha, q⟩
end
section
variable {X : Cx} {e : Expr} {es : List Expr} {te : TE} {ta : TA} {f : Str} {p pos : Pos} {newId initId B : String} {tl : List Value} {C fI : Addr}
def tMk1 (C : Addr) (f : Str) (te : TE) : L2.St → Hp → XK → Prop := fun σ H Q => te σ H fun v H1 => ∀ d, H1 d = none → Q (.ref C) (some d) (upd H1 d (.xd [(f, v)]))
theorem pmk_first (hmono : ∀ σ H (Q Q' : VK), te σ H Q → (∀ v H1, Q v H1 → Q' v H1) → te σ H Q') {x : Str} {k : Nat} {fd : FuncData} {ps : List Str} (T : OexT X.K C newId tl) (FB : ExcBaseFacts B newId initId tl) (iC : PySem.W.findIn X.K (.ref C) "__init__" = some (some (.ref fI))) (tI : PySem.W.typeIn X.K (.ref fI) = some (.type "function"))
    (F1 : FnOk X.prog X.w X.K X.mg X.base (L2.CX X.prog X.w) k fI fd ps (spF C f)) (hr : Room (k + 1) X.A) (hb : Binds X.K fd ps []) (hx : Passes (L2.CX X.prog X.w) X (fun _ _ _ => False)) (hg : Gl X x) (hm : X.mg x = some (.ref C)) (ha : PE X e te)
    (hdb : (x == ("__debug__" : Str)) = false := by decide) (he : starEach (e :: []) X.env = (false, eval e X.env) :: starEach [] X.env := by rfl) (hpl : (backTo pos (starEach [] X.env)).any (·.1) = false := by rfl) :
    PMk X (.Call (.Name x p) [e] [] pos) (tMk1 C f te) := by
  intro pins s σ H Q I h
  obtain ⟨nm, q, N, bs, bm, sn, sub, ab, col, dd, k0, k1, k2, k3, k5, hC, hbm⟩ := T.cls
  refine wpAny_Call_Name_kw (ld_glob I hg hm ?_ hdb)
  have hpa := pa_cons (X := X) ha pa_nil he
  refine PySem.W.callWith_K (h₀ := X.base) I.ok.mod.kin T.kC (thn (hpa.run pos pins s σ H (fun vs H1 => ∃ v, vs = [v] ∧ ∀ d, H1 d = none → Q (.ref C) (some d) (upd H1 d (.xd [(f, v)]))) I ?_) fun us s1 ⟨vs, H1, I1, r1, v, ev, q1⟩ => ⟨I1.kIn, ?_⟩) he hpl
  · exact hmono σ H _ _ h fun v H1 q => ⟨v, rfl, q⟩
  subst ev
  show wpAny _ _ (call (.ref C) us) _ _ _
  obtain ⟨hp, g, dr, tk, os⟩ := s1
  have hsz : hp.objs.size ≤ hp.objs.size + 1 := Nat.le_succ _
  have hn : H1 (hp.objs.size + 1) = none := I1.hok.fresh hsz
  have kk : ∀ b o, hp.get? b = some o → ((hp.push (PySem.W.kdv_tup us)).push (PySem.HandSPX.excO C hp.objs.size)).get? b = some o := fun b o e => Heap.get?_push_of_some _ (Heap.get?_push_of_some _ e)
  have hget : ((hp.push (PySem.W.kdv_tup us)).push (PySem.HandSPX.excO C hp.objs.size)).get? (hp.objs.size + 1) = some (PySem.HandSPX.excO C hp.objs.size) := by heap_get
  have I2 : Inv X pins σ (upd H1 (hp.objs.size + 1) (exo (hp.objs.size + 1) C none)) ⟨(hp.push (PySem.W.kdv_tup us)).push (PySem.HandSPX.excO C hp.objs.size), g, dr, tk, os⟩ :=
    I1.laid (t' := tk) (a := hp.objs.size + 1) (o := exo (hp.objs.size + 1) C none) (h' := (hp.push (PySem.W.kdv_tup us)).push (PySem.HandSPX.excO C hp.objs.size)) kk hsz (exo_ok hget)
  have r2 : Vals [V.ref (hp.objs.size + 1), v] (Value.ref (hp.objs.size + 1) :: us) := .cons rfl r1
  have hus : us.length ≤ sizeLine := by
    rw [← Paired.length r1, sizeLine_eq]
    exact (by decide : 1 ≤ 16777216)
  have hq : spF C f [V.ref (hp.objs.size + 1), v] (upd H1 (hp.objs.size + 1) (exo (hp.objs.size + 1) C none)) (fun v' H2 => v' = .non ∧ ∃ d, H2 (hp.objs.size + 1) = some (exo (hp.objs.size + 1) C (some d)) ∧ H2 d = some (exd d [(f, v)]) ∧ H1 d = none ∧ Q (.ref C) (some d) (upd (del H2 (hp.objs.size + 1)) d (.xd [(f, v)]))) (fun _ _ _ => False) := by
    refine ⟨_, _, rfl, upd_same, fun dx hd ne => ⟨rfl, dx, upd_same, ?_, ?_, ?_⟩⟩
    · rw [upd_ne ne, upd_same]
    · rw [upd_ne ne] at hd
      exact hd
    · have e : upd (del (upd (upd (upd H1 (hp.objs.size + 1) (exo (hp.objs.size + 1) C none)) dx (exd dx [(f, v)])) (hp.objs.size + 1) (exo (hp.objs.size + 1) C (some dx))) (hp.objs.size + 1)) dx (.xd [(f, v)]) = upd H1 dx (.xd [(f, v)]) := by
        funext b
        by_cases h1 : b = dx
        · rw [h1, upd_same, upd_same]
        · rw [upd_ne h1, upd_ne h1]
          by_cases h2 : b = hp.objs.size + 1
          · rw [h2, del_same, hn]
          · rw [del_ne h2, upd_ne h2, upd_ne h1, upd_ne h2]
      rw [e]
      rw [upd_ne ne] at hd
      exact q1 dx hd
  have hl : (Value.ref (hp.objs.size + 1) :: us).length = ps.length := by
    have e := r2.length
    rw [F1.len _ _ _ _ hq] at e
    exact e.symm
  have hbd := hb (⟨(hp.push (PySem.W.kdv_tup us)).push (PySem.HandSPX.excO C hp.objs.size), g, dr, tk, os⟩ : Shared) (Value.ref (hp.objs.size + 1) :: us) I2.kIn (by rw [List.append_nil]; exact hl)
  rw [List.append_nil] at hbd
  refine wpAny_call (PySem.HandSPX.call_own FB (fun Y => refsT_has Y bm hbm) (I1.kIn _ _ hC) (PySem.W.looks_findIn I1.kIn iC) (fun self => PySem.W.bind_fn I1.kIn self tI) hus
    (codeAny_mono (F1.run _ X.stack _ _ ⟨Value.ref (hp.objs.size + 1) :: us, []⟩ (Value.ref (hp.objs.size + 1) :: us) _ _ (fun _ _ _ => False) (hr.make C us []) (I2.env0.make C us []) hbd r2 hq) fun r s' hq' => ?_))
  cases r with
  | error er => exact hx pins σ _ _ er s' I2 hq'
  | ok fl =>
    cases fl with
    | ret u =>
      obtain ⟨v', H2, os2, bare2, un2, hok2, rv, ev, d, ea, ed, hd1, q2⟩ := hq'
      subst ev
      obtain ⟨h2, g2, d2, t2, os'⟩ := s'
      exact ⟨rv, mk_end (raises_own T.exC T.tyC) I1 hsz kk un2 hok2 os2 bare2 ea ed hd1 q2⟩
    | next => exact False.elim hq'
    | brk => exact False.elim hq'
    | cont => exact False.elim hq'
end
end DX
end

section
set_option Elab.async false
set_option linter.all false
set_option maxRecDepth 100000
set_option maxHeartbeats 4000000
namespace DX
open PySem PySem.Spec PyProof.Rows L2
/-! ### several except clauses, some with a name -/
/-- what a clause does: the class, the name's slot, what its suite is -/
abbrev Cl : Type := Value × Option Nat × (Addr → Value → Option Addr → TS)
def endA (D : Ends) : Option Nat → Ends
  | some i => { nx := fun σ' H' => D.nx (σ'.set i none) H', rt := D.rt, bk := fun σ' H' => D.bk (σ'.set i none) H', ct := fun σ' H' => D.ct (σ'.set i none) H' }
  | none => D
def putA (σ : L2.St) (a : Addr) : Option Nat → L2.St
  | some i => σ.set i (some (.ref a))
  | none => σ
def wAll (K : PySem.W.Frag) (Wout : WX) (D : Ends) : List Cl → WX
  | [] => Wout
  | (c, i, ts) :: r => fun cls d σ H => ∃ b, PySem.W.exmOne K cls c = some b ∧ (b = true → ∀ a, H a = none → ts a cls d (endA D i) (putA σ a i) H) ∧ (b = false → wAll K Wout D r cls d σ H)
inductive HdsA (X : Cx) : List ExceptHandler → List Cl → Prop
  | nil : HdsA X [] []
  | cons {x : Str} {c : Value} {ts : Addr → Value → Option Addr → TS} {b₀ : Stmt} {suite : List Stmt} {np pos' : Pos} {hds : List ExceptHandler} {l : List Cl} (hc : Names X x c)
      (hsu : ∀ (a : Addr) (oe : Obj) (cls : Value) (d : Option Addr) (pn : List (Addr × Obj)), Zc cls d oe → (∃ vs, oe.data = .fields vs) → PSs (X.suite a ((a, oe) :: pn)) (b₀ :: suite) (ts a cls d)) (r : HdsA X hds l) :
      HdsA X (.ExceptHandler (some (.Name x np)) none (b₀ :: suite) pos' :: hds) ((c, none, ts) :: l)
  | consA {x n : Str} {i : Nat} {c : Value} {ts : Addr → Value → Option Addr → TS} {b₀ : Stmt} {suite : List Stmt} {np pos' : Pos} {hds : List ExceptHandler} {l : List Cl} (hi : X.N[i]? = some n) (hln : X.env.kindOf n = some .local) (hc : Names X x c)
      (hsu : ∀ (a : Addr) (oe : Obj) (cls : Value) (d : Option Addr) (pn : List (Addr × Obj)), Zc cls d oe → (∃ vs, oe.data = .fields vs) → PSs (X.suite a ((a, oe) :: pn)) (b₀ :: suite) (ts a cls d)) (r : HdsA X hds l) :
      HdsA X (.ExceptHandler (some (.Name x np)) (some n) (b₀ :: suite) pos' :: hds) ((c, some i, ts) :: l)
section
variable {X : Cx} {body : List Stmt} {h₀ : ExceptHandler} {hds : List ExceptHandler} {l : List Cl} {pos : Pos} {tb : WX → TS} {Wout : WX}
theorem ps_try_all (hs : X.stack = X.env :: X.outer) (hf : X.env.frame = some X.env.locals) (hN : X.N.Nodup) (tk : Takes X Wout)
    (hb : ∀ (W : WX) (pn : List (Addr × Obj)) (xe : Value → Shared → Prop), Takes (X.tr pn xe) W → PassesOwn (model X.prog X.w) X.A X.env xe → PSs (X.tr pn xe) body (tb W))
    (hh : HdsA X (h₀ :: hds) l) : PS X (.Try body (h₀ :: hds) [] [] pos) (fun D σ H => tb (wAll X.K Wout D l) D σ H) := by
  refine ⟨fun pins s σ H D I h => ?_⟩
  have ok := I.ok
  have hfr : X.A.frames = some (X.env :: X.outer) := by rw [ok.frames, hs]
  refine wpAny_Try_except ?_
  refine wpAny_mono ((hb (wAll X.K Wout D l) (X.pn ++ pins) (fun e s₁ => wpAny (model X.prog X.w) X.A (noteFrame e X.env) (fun _ s₂ => wpAny (model X.prog X.w) X.A (setFlight e none) (fun _ s₃ =>
    wpAny (model X.prog X.w) X.A (handleBy e X.env (h₀ :: hds)) (SP X pins D) X.xe s₃) X.xe s₂) X.xe s₁) (fun u s' xx => ?_) PassesOwn.looking).run [] s σ H D (I.toTry _) h) (fun f s1 hsp => ?_) (fun e s1 he => he)
  · obtain ⟨a, B, sI, pins', σ', H', cls, d, rfl, J', nb, up, sky, na, os, ag, w⟩ := xx
    have J : Inv X pins σ' H' sI := J'.ofTry ok
    have sky' : Sky B (X.env :: X.outer) a (Zc cls d) X.env.locals s'.heap := by rw [← hs]; exact sky
    show wpAny (model X.prog X.w) X.A (noteFrame (.ref a) X.env) _ _ _
    refine Sky.land Zc.steady hfr hf sky' fun h3 fl3 up3 => ?_
    have J3 : Inv X pins σ' H' { s' with heap := h3 } := J.landed nb fl3.1 (up.trans up3) os ag
    obtain ⟨oe3, vs3, he3, hz3, hd3⟩ := fl3.there
    have notFr : ∀ {h : Heap} {o : Obj} {vs : Array Value}, h.FunFrames B (X.env :: X.outer) → h.get? a = some o → o.data = .fields vs → a ∉ frs (X.env :: X.outer) := fun {h o vs} ff e dd hm => by
      obtain ⟨_, o', e', hnf⟩ := ff.mem hm
      rw [e] at e'; cases e'
      exact hnf _ dd
    have nfr := notFr fl3.2.2.1 he3 hd3
    have nL : a ≠ X.env.locals := fun z => nfr (List.mem_filterMap.mpr ⟨X.env, List.mem_cons_self, by rw [hf, z]⟩)
    have nF : a ∉ X.fs := fun hm => by
      obtain ⟨e, he, q⟩ := List.mem_filterMap.mp hm
      exact nfr (List.mem_filterMap.mpr ⟨e, List.mem_cons_of_mem _ he, q⟩)
    have S3 := J3.suite he3 hd3 na nL nF
    have tst : ∀ {x : Str} {c : Value} {np : Pos}, Names X x c → ∀ {Q : Value → Shared → Prop} {E : Value → Shared → Prop}, Q c { s' with heap := h3 } → wpAny (model X.prog X.w) (X.A.mark (some (.ref a))) (eval (.Name x np) X.env) Q E { s' with heap := h3 } := fun {x c np} hc {Q E} q => by
      obtain ⟨hg, hdbg, hm | ⟨hm, hv, hnn⟩⟩ := hc
      · exact ld_glob (X := X.suite a ((a, oe3) :: (X.pn ++ pins))) S3 hg hm q hdbg
      · exact ld_blt (X := X.suite a ((a, oe3) :: (X.pn ++ pins))) S3 hg hm hv q hnn hdbg
    have LT : PySem.W.Looks (model X.prog X.w) h3 (typeOf (.ref a)) cls := fun A Q E s k q => wpAny_typeOf_ref (k _ _ he3) (by rw [hz3.1]; exact q)
    have go : ∀ {hds' : List ExceptHandler} {l' : List Cl}, HdsA X hds' l' → wAll X.K Wout D l' cls d σ' H' →
        wpAny (model X.prog X.w) X.A (handleBy (.ref a) X.env hds') (SP X pins D) X.xe { s' with heap := h3 } := by
      intro hds' l' hk
      induction hk with
      | nil =>
        intro w
        refine wpAny_handleBy_nil ?_
        obtain ⟨k1, k2, k3, oe, vs, T, oT, ts', he, hz, hd, h1, hr⟩ := id fl3
        unfold PySem.passOn
        refine wpAny_bind (wpAny_field he hd h1 ?_)
        rw [if_neg (show ¬ ((Value.ref T == Value.none) = true) from by simp)]
        have fin : wpAny (model X.prog X.w) X.A (setFlight (.ref a) X.env.frame) (fun _ s4 => wpAny (model X.prog X.w) X.A (throw (.ref a) : Sem Flow) (SP X pins D) X.xe s4) X.xe { s' with heap := h3 } := by
          rw [hf]
          refine HandSPX.setFlight_upZ fl3 fun h4 hh4 up4 => wpAny_throw (tk _ _ ?_)
          exact ⟨a, B, sI, pins, σ', H', cls, d, rfl, J, nb, (up.trans up3).trans up4, .inr (.inr (by rw [hs]; exact hh4)), na, os, ag, w⟩
        first
          | exact wpAny_bind (wpAny_pure (wpAny_bind fin))
          | exact wpAny_bind fin
      | @cons x c ts b₀ suite np pos' hds2 l2 hc hsu r ih =>
        intro w
        obtain ⟨b, hb1, hyes, hno⟩ := w
        refine wpAny_handleBy_cons (codeAny_handlers_test ?_) (by intro q; cases q)
        refine tst hc ((PySem.W.exm_one (M := model X.prog X.w) (J3.kIn) LT hb1).here ?_)
        cases b with
        | true =>
          refine codeAny_handlers_suite ?_
          refine HandSPX.lands_againZ fl3 fun h4 fl4 up4 => ?_
          have J4 : Inv X pins σ' H' { s' with heap := h4 } := J.landed nb fl4.1 ((up.trans up3).trans up4) os ag
          obtain ⟨oe4, vs4, he4, hz4, hd4⟩ := fl4.there
          have S4 := J4.suite he4 hd4 na nL nF
          refine wpAny_mono ((hsu a oe4 cls d (X.pn ++ pins) hz4 ⟨_, hd4⟩).run [] _ _ H' _ S4 (hyes rfl a na)) (fun f s6 hsp => ?_) (fun _ _ z => False.elim z)
          cases f with
          | next => obtain ⟨σ6, H6, S6, q6⟩ := hsp; exact ⟨_, _, S6.unsuite ok, q6⟩
          | brk => obtain ⟨σ6, H6, S6, q6⟩ := hsp; exact ⟨_, _, S6.unsuite ok, q6⟩
          | cont => obtain ⟨σ6, H6, S6, q6⟩ := hsp; exact ⟨_, _, S6.unsuite ok, q6⟩
          | ret u => obtain ⟨v6, σ6, H6, S6, r6, q6⟩ := hsp; exact ⟨_, _, _, S6.unsuite ok, r6, q6⟩
        | false =>
          show wpAny _ X.A (handleBy (.ref a) X.env hds2) _ _ _
          exact ih (hno rfl)
      | @consA x n i c ts b₀ suite np pos' hds2 l2 hi hln hc hsu r ih =>
        intro w
        obtain ⟨b, hb1, hyes, hno⟩ := w
        have hloc : Loc X.env.scope n := .inl hln
        refine wpAny_handleBy_cons (codeAny_handlers_test ?_) (by intro q; cases q)
        refine tst hc ((PySem.W.exm_one (M := model X.prog X.w) (J3.kIn) LT hb1).here ?_)
        cases b with
        | true =>
          refine codeAny_handlers_suite_as ?_
          refine HandSPX.lands_againZ fl3 fun h4 fl4 up4 => ?_
          have J4 : Inv X pins σ' H' { s' with heap := h4 } := J.landed nb fl4.1 ((up.trans up3).trans up4) os ag
          obtain ⟨oe4, vs4, he4, hz4, hd4⟩ := fl4.there
          have S4 := J4.suite he4 hd4 na nL nF
          refine store_ok (X := X.suite a ((a, oe4) :: (X.pn ++ pins))) (v := .ref a) S4 hN hi hloc rfl (fun s5 S5 => ?_) (.inr hln)
          refine wpAny_mono ((hsu a oe4 cls d (X.pn ++ pins) hz4 ⟨_, hd4⟩).run [] s5 _ H' _ S5 (hyes rfl a na)) (fun f s6 hsp => ?_) (fun _ _ z => False.elim z)
          have end_ : ∀ {σ6 : L2.St} {H6 : Hp} {Q : Shared → Prop}, Inv (X.suite a ((a, oe4) :: (X.pn ++ pins))) [] σ6 H6 s6 → (∀ s7, Inv X pins (σ6.set i none) H6 s7 → Q s7) →
              wpAny (model X.prog X.w) X.A (do bindName X.env n .none; unbindBehindTheSuite X.env n pos') (fun _ s7 => Q s7) X.xe s6 := fun {σ6 H6 Q} S6 hq => gone_ok (S6.unsuite ok) hN hi hln hq
          cases f with
          | next => obtain ⟨σ6, H6, S6, q6⟩ := hsp; exact end_ S6 fun s7 J7 => ⟨_, _, J7, q6⟩
          | brk => obtain ⟨σ6, H6, S6, q6⟩ := hsp; exact end_ S6 fun s7 J7 => ⟨_, _, J7, q6⟩
          | cont => obtain ⟨σ6, H6, S6, q6⟩ := hsp; exact end_ S6 fun s7 J7 => ⟨_, _, J7, q6⟩
          | ret u => obtain ⟨v6, σ6, H6, S6, r6, q6⟩ := hsp; exact end_ S6 fun s7 J7 => ⟨_, _, _, J7, r6, q6⟩
        | false =>
          show wpAny _ X.A (handleBy (.ref a) X.env hds2) _ _ _
          exact ih (hno rfl)
    exact go hh w
  · cases f with
    | next => obtain ⟨σ', H', J', q⟩ := hsp; exact wpAny_execs_nil ⟨σ', H', J'.ofTry ok, q⟩
    | brk => obtain ⟨σ', H', J', q⟩ := hsp; exact ⟨σ', H', J'.ofTry ok, q⟩
    | cont => obtain ⟨σ', H', J', q⟩ := hsp; exact ⟨σ', H', J'.ofTry ok, q⟩
    | ret u => obtain ⟨v, σ', H', J', r, q⟩ := hsp; exact ⟨v, σ', H', J'.ofTry ok, r, q⟩
end
end DX
end

section
set_option Elab.async false
set_option linter.all false
set_option maxRecDepth 100000
set_option maxHeartbeats 4000000
namespace DL
open PySem PySem.Spec PyProof.Rows L2 DX

/-! ### data that tells the same in another view -/
mutual
def plainD : D → Bool
  | .tup xs => plainL xs
  | .lst xs => plainL xs
  | .dct _ xs => plainL xs
  | .th _ _ => false
  | .xc _ _ _ => false
  | _ => true
def plainL : List D → Bool
  | [] => true
  | x :: xs => plainD x && plainL xs
end
structure GE (g g' : G) : Prop where
  K : g.K = g'.K
  fnA : g.fnA = g'.fnA
  clA : g.clA = g'.clA
  T : g.T = g'.T
theorem GE.symm {g g' : G} (h : GE g g') : GE g' g := ⟨h.K.symm, h.fnA.symm, h.clA.symm, h.T.symm⟩
section
variable {g g' : G} {H : Hp} {A : Addr → Prop}
mutual
theorem Rep.swap (h : GE g g') : ∀ (d : D) (v : V), plainD d = true → Rep g H A d v → Rep g' H A d v
  | .non, _, _, r => r
  | .bl _, _, _, r => r
  | .int _, _, _, r => r
  | .str _, _, _, r => r
  | .tup ds, _, p, ⟨a, vs, e, q, r⟩ => ⟨a, vs, e, by unfold QT; rw [← h.K]; exact q, RepL.swap h ds vs (by simpa [plainD] using p) r⟩
  | .lst ds, _, p, ⟨a, vs, e, q, r⟩ => ⟨a, vs, e, by unfold QL; rw [← h.K]; exact q, RepL.swap h ds vs (by simpa [plainD] using p) r⟩
  | .dct ks ds, _, p, ⟨a, vs, e, q, l, r⟩ => ⟨a, vs, e, q, l, RepL.swap h ds vs (by simpa [plainD] using p) r⟩
  | .fn _, _, _, r => by unfold Rep; rw [← h.fnA]; exact r
  | .cl _, _, _, r => by unfold Rep; rw [← h.clA]; exact r
  | .ty _, _, _, r => r
  | .th _ _, _, p, _ => by simp [plainD] at p
  | .xc _ _ _, _, p, _ => by simp [plainD] at p
theorem RepL.swap (h : GE g g') : ∀ (ds : List D) (vs : List V), plainL ds = true → RepL g H A ds vs → RepL g' H A ds vs
  | [], _, _, r => r
  | d :: ds, _, p, ⟨v, r, e, h1, h2⟩ => by
    simp only [plainL, Bool.and_eq_true] at p
    exact ⟨v, r, e, Rep.swap h d v p.1 h1, RepL.swap h ds r p.2 h2⟩
end
end
/-! .. and from a view to one with another exception in hand -/
mutual
def plainX : D → Bool
  | .tup xs => plainXL xs
  | .lst xs => plainXL xs
  | .dct _ xs => plainXL xs
  | .xc _ _ _ => false
  | _ => true
def plainXL : List D → Bool
  | [] => true
  | x :: xs => plainX x && plainXL xs
end
structure GX (g g' : G) : Prop where
  K : g.K = g'.K
  fnA : g.fnA = g'.fnA
  clA : g.clA = g'.clA
  T : g.T = g'.T
  th : g.th = g'.th
theorem GX.symm {g g' : G} (h : GX g g') : GX g' g := ⟨h.K.symm, h.fnA.symm, h.clA.symm, h.T.symm, h.th.symm⟩
section
variable {g g' : G} {H : Hp} {A : Addr → Prop}
mutual
theorem Rep.swapX (h : GX g g') : ∀ (d : D) (v : V), plainX d = true → Rep g H A d v → Rep g' H A d v
  | .non, _, _, r => r
  | .bl _, _, _, r => r
  | .int _, _, _, r => r
  | .str _, _, _, r => r
  | .tup ds, _, p, ⟨a, vs, e, q, r⟩ => ⟨a, vs, e, by unfold QT; rw [← h.K]; exact q, RepL.swapX h ds vs (by simpa [plainX] using p) r⟩
  | .lst ds, _, p, ⟨a, vs, e, q, r⟩ => ⟨a, vs, e, by unfold QL; rw [← h.K]; exact q, RepL.swapX h ds vs (by simpa [plainX] using p) r⟩
  | .dct ks ds, _, p, ⟨a, vs, e, q, l, r⟩ => ⟨a, vs, e, q, l, RepL.swapX h ds vs (by simpa [plainX] using p) r⟩
  | .fn _, _, _, r => by unfold Rep; rw [← h.fnA]; exact r
  | .cl _, _, _, r => by unfold Rep; rw [← h.clA]; exact r
  | .ty _, _, _, r => r
  | .th _ _, _, _, ⟨t, h1, h2⟩ => ⟨t, by rw [← h.th]; exact h1, h2⟩
  | .xc _ _ _, _, p, _ => by simp [plainX] at p
theorem RepL.swapX (h : GX g g') : ∀ (ds : List D) (vs : List V), plainXL ds = true → RepL g H A ds vs → RepL g' H A ds vs
  | [], _, _, r => r
  | d :: ds, _, p, ⟨v, r, e, h1, h2⟩ => by
    simp only [plainXL, Bool.and_eq_true] at p
    exact ⟨v, r, e, Rep.swapX h d v p.1 h1, RepL.swapX h ds r p.2 h2⟩
end
end
def plainS : Option Slot → Bool
  | some (.v d) => plainX d
  | some (.m ds) => plainXL ds
  | none => true
def plainE (e : Env) : Bool := e.all plainS
theorem plainE_get {e : Env} (h : plainE e = true) {i : Nat} {s : Option Slot} (q : e[i]? = some s) : plainS s = true := List.all_eq_true.mp h s (List.mem_of_getElem? q)
section
variable {g g' : G} {P : Addr → Prop} {ps : List (Nat × Addr)} {e e' e1 : Env} {σ σ' σ1 : L2.St} {H H' H1 : Hp}
theorem StRel.swap (h : GX g g') (p : plainE e = true) (s : StRel g P ps e σ H) : StRel g' P ps e σ H where
  len := s.len
  vv := fun i d q => let ⟨v, h1, h2⟩ := s.vv i d q; ⟨v, h1, Rep.swapX h _ _ (plainE_get p q) h2⟩
  mm := fun i ds q => let ⟨a, vs, h1, h2, h3, h4⟩ := s.mm i ds q; ⟨a, vs, h1, h2, RepL.swapX h _ _ (plainE_get p q) h3, h4⟩
  inj := s.inj
  prv := s.prv
  par := s.par
  tb := by rw [← h.T]; exact s.tb
theorem Go.unset (s : StRel g P ps e σ H) {i : Nat} (hi : i ∉ ps.map (·.1)) : Go g P ps e σ H (e.set i none) (σ.set i none) H := s.wipe (vs := [i]) fun p hp z => hi (by
  rw [← List.mem_singleton.mp z]
  exact List.mem_map_of_mem hp)
/-- from one view to another and back -/
theorem Go.via (a : Kp (Av P e σ) H (Av P e1 σ1) H1) (ap : ∀ b, P b → H1 b = H b) (b : Go g P ps e1 σ1 H1 e' σ' H') : Go g P ps e σ H e' σ' H' :=
  ⟨b.st, a.trans b.kp, fun c h => (b.pr c h).trans (ap c h)⟩
end
/-! ### raise -/
/-- an own exception class without __init__ -/
structure ExcV (g : G) (n : Nat) : Prop where
  q : PySem.W.excIn g.K (g.clA n) [.type "ValueError", .type "Exception", .type "BaseException", .type "object"] "ValueError.__new__" = true
  kC : PySem.W.keepIn g.K (.ref (g.clA n)) = true
  exC : PySem.W.subIn g.K (.ref (g.clA n)) (.type "BaseException") = some true
  tyC : PySem.W.typeIn g.K (.ref (g.clA n)) = some (.type "type")
/-- .. with __init__(self, y): B.__init__(self, 'text'); self.f = y -/
structure ExcF (g : G) (Pr : Program) (w : World) (mg : Str → Option Value) (base : Heap) (n : Nat) (f : Str) : Prop where
  ex : ∃ newId tl B initId fI fd pn, OexT g.K (g.clA n) newId tl ∧ ExcBaseFacts B newId initId tl ∧ PySem.W.findIn g.K (.ref (g.clA n)) "__init__" = some (some (.ref fI)) ∧ PySem.W.typeIn g.K (.ref fI) = some (.type "function") ∧
    FnOk Pr w g.K mg base (L2.CX Pr w) 1 fI fd pn (spF (g.clA n) f) ∧ Binds g.K fd pn []
def sRaise0 (n : Nat) : Env → RS := fun e => .exc ⟨n, []⟩ e
def sRaise1 (n : Nat) (f : Str) (fe : Env → R D) : Env → RS := fun e => sB (fe e) fun d e1 => .exc ⟨n, [(f, d)]⟩ e1
section
variable {g : G} {mp : List Nat} {X : Cx} {x : Str} {a : Expr} {fa : Env → R D} {p p2 pos pos' : Pos} {m : Str} {j n : Nat}
theorem ds_raise0 (hE : ExcV g n) (hK : X.K = g.K) (hc : X.calm = true) (hg : Gl X x) (hm : X.mg x = some (.ref (g.clA n))) (hdb : (x == ("__debug__" : Str)) = false := by decide) : DS g mp X (.Raise (some (.Call (.Name x p) [.Constant (.str m) j p2] [] pos)) none pos') (sRaise0 n) :=
  ⟨fun P ps W hp tk => ps_imp (ps_raise hc tk (pmk_own (X := X) F.excBase_ValueError (by rw [hK]; exact hE.q) hm (by rw [hK]; exact hE.kC) (raises_own (by rw [hK]; exact hE.exC) (by rw [hK]; exact hE.tyC)) hg hdb)) fun σ H Q q => by
    obtain ⟨e, s, q⟩ := tS_eq.mp q
    exact q _ _ _ _ (Go.refl s) ⟨rfl, fun _ => rfl, fun z => (z rfl).elim⟩⟩
theorem tD_mono {P ps W} {f : Env → R D} {σ H} {Q Q' : VK} (h : tD g P ps W f σ H Q) (m : ∀ v H1, Q v H1 → Q' v H1) : tD g P ps W f σ H Q' := by
  obtain ⟨e, s, h⟩ := tD_eq.mp h
  exact tD_of s (h.mono fun d e1 H1 go1 z v rv => m _ _ (z v rv))
theorem ds_raise1 {f : Str} {k : Nat} (hE : ExcF g X.prog X.w X.mg X.base n f) (hK : X.K = g.K) (hc : X.calm = true) (hr : Room (k + 2) X.A) (hg : Gl X x) (hm : X.mg x = some (.ref (g.clA n))) (ha : DE g mp X a fa) (hdb : (x == ("__debug__" : Str)) = false := by decide)
    (he : starEach (a :: []) X.env = (false, eval a X.env) :: starEach [] X.env := by rfl) (hpl : (backTo pos (starEach [] X.env)).any (·.1) = false := by rfl) : DS g mp X (.Raise (some (.Call (.Name x p) [a] [] pos)) none pos') (sRaise1 n f fa) := by
  obtain ⟨newId, tl, B, initId, fI, fd, pn, h1, h2, h3, h4, h5, h6⟩ := hE.ex
  rw [← hK] at h1 h3 h4 h5 h6
  refine ⟨fun P ps W hp tk => ps_imp (ps_raise hc tk (pmk_first (X := X) (te := tD g P ps W fa) (fun σ H Q Q' h m => tD_mono h m) h1 h2 h3 h4 h5 (hr.mono (by omega)) h6 (fun _ _ _ _ e s' I c => passes_call (E := fun _ _ _ => False) tk (fun _ _ _ _ z => z.elim) _ _ _ _ _ _ I c) hg hm (ha.run P ps W hp tk) hdb he hpl)) fun σ H Q q => ?_⟩
  obtain ⟨e, s, q⟩ := tS_eq.mp q
  refine tD_of s (q.sB.mono fun d e1 H1 go1 z v rv dd hd => ?_)
  have nA := go1.st.fresh hd
  exact z _ _ _ _ (Go.new go1.st hd) ⟨rfl, (fun z => by cases z), fun _ => ⟨dd, _, rfl, nA, upd_same, v, [], rfl, Rep.kp (kp_new hd) _ _ rv, rfl⟩⟩
end

/-! ### try .. except -/
/-- a clause: which classes it takes, its name's slot, its suite -/
abbrev DCl : Type := (Nat → Option Bool) × Option Nat × (Env → RS)
def setO (e : Env) (x : Xc) : Option Nat → Env
  | some i => e.set i (some (.v (.xc x.cls (x.fs.map (·.1)) (x.fs.map (·.2)))))
  | none => e
def unO (e : Env) : Option Nat → Env
  | some i => e.set i none
  | none => e
def unS (σ : L2.St) : Option Nat → L2.St
  | some i => σ.set i none
  | none => σ
def plS : Slot → Bool
  | .v d => plainD d
  | .m ds => plainL ds
def endC (i : Option Nat) : RS → RS
  | .nx e => if plainE (unO e i) = true then .nx (unO e i) else .bad
  | .bk e => if plainE (unO e i) = true then .bk (unO e i) else .bad
  | .ct e => if plainE (unO e i) = true then .ct (unO e i) else .bad
  | .rt s e => if plainE (unO e i) = true ∧ plS s = true then .rt s (unO e i) else .bad
  | _ => .bad
def catchC (x : Xc) (e : Env) : List DCl → RS
  | [] => .exc x e
  | (r, i, fs) :: l => match r x.cls with
    | none => .bad
    | some true => endC i (fs (setO e x i))
    | some false => catchC x e l
def sTry (fb : Env → RS) (l : List DCl) : Env → RS := fun e => match fb e with
  | .exc x e1 => if plainE e1 = true ∧ plainL (x.fs.map (·.2)) = true then catchC x e1 l else .bad
  | r => r
/-- the clauses of the text -/
inductive DHds (g : G) (mp : List Nat) (X : Cx) : List ExceptHandler → List DCl → Prop
  | nil : DHds g mp X [] []
  | cons {x : Str} {c : Value} {r : Nat → Option Bool} {fs : Env → RS} {b₀ : Stmt} {suite : List Stmt} {np pos' : Pos} {hds : List ExceptHandler} {l : List DCl} (hc : Names X x c) (hr : ∀ n b, r n = some b → PySem.W.exmOne g.K (.ref (g.clA n)) c = some b)
      (hsu : ∀ (a : Addr) (oe : Obj) (cls : Value) (d : Option Addr) (pn : List (Addr × Obj)), Zc cls d oe → (∃ vs, oe.data = .fields vs) → DSs { g with ex := some ⟨a, cls, d⟩ } mp (X.suite a ((a, oe) :: pn)) (b₀ :: suite) fs) (rest : DHds g mp X hds l) :
      DHds g mp X (.ExceptHandler (some (.Name x np)) none (b₀ :: suite) pos' :: hds) ((r, none, fs) :: l)
  | consA {x n : Str} {i : Nat} {c : Value} {r : Nat → Option Bool} {fs : Env → RS} {b₀ : Stmt} {suite : List Stmt} {np pos' : Pos} {hds : List ExceptHandler} {l : List DCl} (hi : X.N[i]? = some n) (hln : X.env.kindOf n = some .local) (him : i ∉ mp) (hc : Names X x c)
      (hr : ∀ n b, r n = some b → PySem.W.exmOne g.K (.ref (g.clA n)) c = some b)
      (hsu : ∀ (a : Addr) (oe : Obj) (cls : Value) (d : Option Addr) (pn : List (Addr × Obj)), Zc cls d oe → (∃ vs, oe.data = .fields vs) → DSs { g with ex := some ⟨a, cls, d⟩ } mp (X.suite a ((a, oe) :: pn)) (b₀ :: suite) fs) (rest : DHds g mp X hds l) :
      DHds g mp X (.ExceptHandler (some (.Name x np)) (some n) (b₀ :: suite) pos' :: hds) ((r, some i, fs) :: l)
theorem RepF.parts {g : G} {H : Hp} {A : Addr → Prop} : ∀ {l : List (Str × D)} {r : List (Str × V)}, RepF g H A l r → r.map (·.1) = l.map (·.1) ∧ RepL g H A (l.map (·.2)) (r.map (·.2))
  | [], _, h => by rw [show _ = [] from h]; exact ⟨rfl, rfl⟩
  | (n, d) :: l, _, ⟨v, r, e, h1, h2⟩ => by
    rw [e]
    obtain ⟨q1, q2⟩ := RepF.parts h2
    exact ⟨by simp [q1], v, r.map (·.2), rfl, h1, q2⟩
section
variable {g : G} {mp : List Nat} {X : Cx} {P : Addr → Prop} {ps : List (Nat × Addr)}
theorem takesF {X : Cx} : Takes X (fun _ _ _ _ => False) := fun _ _ ⟨_, _, _, _, _, _, _, _, _, _, _, _, _, _, _, _, w⟩ => w.elim
theorem GX.ex {x : Option Exv} : GX g { g with ex := x } := ⟨rfl, rfl, rfl, rfl, rfl⟩
theorem GE.ex {x : Option Exv} : GE g { g with ex := x } := ⟨rfl, rfl, rfl, rfl⟩
/-- an exception's own suite: from its entry to its end -/
theorem suite_of {Wout : WX} {x : Xc} {e1 : Env} {σ' : L2.St} {H' : Hp} {cls : Value} {d : Option Addr} {i : Option Nat} {fs : Env → RS} {D : Ends} (s1 : StRel g P ps e1 σ' H') (pe : plainE e1 = true) (px : plainL (x.fs.map (·.2)) = true) (rx : XRep g H' (Av P e1 σ') x cls d)
    (him : ∀ j, i = some j → j ∉ ps.map (·.1)) (z : PRS g P ps Wout e1 σ' H' (endC i (fs (setO e1 x i))) D) (a : Addr) :
    tS { g with ex := some ⟨a, cls, d⟩ } P ps (fun _ _ _ _ => False) fs (endA D i) (putA σ' a i) H' := by
  have s1' : StRel { g with ex := some ⟨a, cls, d⟩ } P ps e1 σ' H' := s1.swap GX.ex pe
  have rxc : Rep { g with ex := some ⟨a, cls, d⟩ } H' (Av P e1 σ') (.xc x.cls (x.fs.map (·.1)) (x.fs.map (·.2))) (.ref a) := by
    refine ⟨_, rfl, rfl, rx.1, fun hn => rx.2.1 (by cases hx : x.fs with | nil => rfl | cons p r => rw [hx] at hn; cases hn), fun hn => ?_⟩
    obtain ⟨dd, ff, q1, q2, q3, q4⟩ := rx.2.2 (fun z => hn (by rw [z]; rfl))
    obtain ⟨y1, y2⟩ := q4.parts
    exact ⟨dd, ff, q1, ⟨q2, q3⟩, y1, RepL.swap GE.ex _ _ px y2⟩
  -- the entry
  have ent : Go { g with ex := some ⟨a, cls, d⟩ } P ps e1 σ' H' (setO e1 x i) (putA σ' a i) H' := by
    cases i with
    | none => exact Go.refl s1'
    | some i => exact s1'.setv rxc (him i rfl)
  refine tS_eq.mpr ⟨_, ent.st, ?_⟩
  -- the way back
  have back : ∀ {e' : Env} {σ2 : L2.St} {H2 : Hp}, plainE (unO e' i) = true → Go { g with ex := some ⟨a, cls, d⟩ } P ps (setO e1 x i) (putA σ' a i) H' e' σ2 H2 →
      Go g P ps e1 σ' H' (unO e' i) (unS σ2 i) H2 ∧ (∀ b, Av P (unO e' i) (unS σ2 i) b → Av P e' σ2 b) := fun {e' σ2 H2} hp go => by
    have un : Go { g with ex := some ⟨a, cls, d⟩ } P ps e' σ2 H2 (unO e' i) (unS σ2 i) H2 := by
      cases i with
      | none => exact Go.refl go.st
      | some i => exact Go.unset go.st (him i rfl)
    have all := (ent.trans go).trans un
    refine ⟨⟨all.st.swap GX.ex.symm hp, all.kp, all.pr⟩, fun b hb => ?_⟩
    cases i with
    | none => exact hb
    | some i =>
      rcases hb with hb | ⟨j, ds, h1, h2⟩
      · exact .inl hb
      · rcases set_get h1 with ⟨_, w, _⟩ | ⟨hj, h1⟩
        · cases w
        · have h2 : (σ2.set i none)[j]? = some (some (.ref b)) := h2
          rw [List.getElem?_set_ne hj] at h2
          exact .inr ⟨j, ds, h1, h2⟩
  revert z
  unfold endC
  cases fs (setO e1 x i) with
  | bad => exact fun z => z.elim
  | exc x' e' => exact fun z => z.elim
  | nx e' =>
    intro z σ2 H2 go
    by_cases hp : plainE (unO e' i) = true
    · simp only [hp, if_true] at z
      have := z _ _ (back hp go).1
      cases i <;> exact this
    · simp only [hp, if_false] at z
      exact z.elim
  | bk e' =>
    intro z σ2 H2 go
    by_cases hp : plainE (unO e' i) = true
    · simp only [hp, if_true] at z
      have := z _ _ (back hp go).1
      cases i <;> exact this
    · simp only [hp, if_false] at z
      exact z.elim
  | ct e' =>
    intro z σ2 H2 go
    by_cases hp : plainE (unO e' i) = true
    · simp only [hp, if_true] at z
      have := z _ _ (back hp go).1
      cases i <;> exact this
    · simp only [hp, if_false] at z
      exact z.elim
  | rt sl e' =>
    cases sl with
    | v dv =>
      intro z v σ2 H2 go rv
      by_cases hp : plainE (unO e' i) = true ∧ plS (.v dv) = true
      · simp only [hp, and_self, if_true] at z
        obtain ⟨b1, b2⟩ := back hp.1 go
        have := z v _ _ b1 (Rep.mono b2 (Rep.swap GE.ex.symm _ _ hp.2 rv))
        cases i <;> exact this
      · simp only [hp, if_false] at z
        exact z.elim
    | m ds =>
      intro z c σ2 H2 gm
      by_cases hp : plainE (unO e' i) = true ∧ plS (.m ds) = true
      · simp only [hp, and_self, if_true] at z
        obtain ⟨b1, b2⟩ := back hp.1 gm.go
        have un : Go { g with ex := some ⟨a, cls, d⟩ } (Pl P c) ps e' σ2 H2 (unO e' i) (unS σ2 i) H2 := by
          cases i with
          | none => exact Go.refl gm.st
          | some i => exact Go.unset gm.st (him i rfl)
        obtain ⟨vs, w1, w2⟩ := gm.at_
        have sub : ∀ b, Av (Pl P c) (unO e' i) (unS σ2 i) b → Av (Pl P c) e' σ2 b := fun b hb => by
          rcases hb with hb | hb
          · exact .inl hb
          · rcases b2 b (.inr hb) with w | w
            · exact .inl (.inl w)
            · exact .inr w
        have := z c _ _ ⟨un.st.swap GX.ex.symm hp.1, (ent.kp.trans gm.kp).trans un.kp, fun b hb => (gm.pr b hb).trans (ent.pr b hb), gm.np, vs, w1, RepL.mono sub (RepL.swap GE.ex.symm _ _ hp.2 w2)⟩
        cases i <;> exact this
      · simp only [hp, if_false] at z
        exact z.elim
theorem hds_of {hds : List ExceptHandler} {l : List DCl} (hK : X.K = g.K) (hp : ps.map (·.1) = mp) (h : DHds g mp X hds l) : ∃ l' : List Cl, HdsA X hds l' ∧
    ∀ (Wout : WX) (x : Xc) (e1 : Env) (σ' : L2.St) (H' : Hp) (cls : Value) (d : Option Addr) (D : Ends), (∀ cls d σ2 H2, Go g P ps e1 σ' H' e1 σ2 H2 → XRep g H2 (Av P e1 σ2) x cls d → True) → StRel g P ps e1 σ' H' → plainE e1 = true → plainL (x.fs.map (·.2)) = true → XRep g H' (Av P e1 σ') x cls d →
      PRS g P ps Wout e1 σ' H' (catchC x e1 l) D → wAll X.K Wout D l' cls d σ' H' := by
  induction h with
  | nil => exact ⟨[], .nil, fun Wout x e1 σ' H' cls d D _ s1 pe px rx z => z _ _ _ _ (Go.refl s1) rx⟩
  | @cons x c r fs b₀ suite np pos' hds l hc hr hsu rest ih =>
    obtain ⟨l', h1, h2⟩ := ih
    refine ⟨_, .cons (ts := fun a cls d => tS { g with ex := some ⟨a, cls, d⟩ } P ps (fun _ _ _ _ => False) fs) hc (fun a oe cls d pn z f => (hsu a oe cls d pn z f).run P ps _ hp takesF) h1, fun Wout x e1 σ' H' cls d D nn s1 pe px rx z => ?_⟩
    unfold catchC at z
    cases hq : r x.cls with
    | none => rw [hq] at z; exact z.elim
    | some b =>
      rw [hq] at z
      refine ⟨b, by rw [hK, rx.1]; exact hr _ _ hq, fun hb a ha => ?_, fun hb => ?_⟩
      · subst hb
        exact suite_of (i := none) s1 pe px rx (fun j z => by cases z) z a
      · subst hb
        exact h2 Wout x e1 σ' H' cls d D nn s1 pe px rx z
  | @consA x n i c r fs b₀ suite np pos' hds l hi hln him hc hr hsu rest ih =>
    obtain ⟨l', h1, h2⟩ := ih
    refine ⟨_, .consA (ts := fun a cls d => tS { g with ex := some ⟨a, cls, d⟩ } P ps (fun _ _ _ _ => False) fs) hi hln hc (fun a oe cls d pn z f => (hsu a oe cls d pn z f).run P ps _ hp takesF) h1, fun Wout x e1 σ' H' cls d D nn s1 pe px rx z => ?_⟩
    unfold catchC at z
    cases hq : r x.cls with
    | none => rw [hq] at z; exact z.elim
    | some b =>
      rw [hq] at z
      refine ⟨b, by rw [hK, rx.1]; exact hr _ _ hq, fun hb a ha => ?_, fun hb => ?_⟩
      · subst hb
        exact suite_of (i := some i) s1 pe px rx (fun j z => by cases z; rw [hp]; exact him) z a
      · subst hb
        exact h2 Wout x e1 σ' H' cls d D nn s1 pe px rx z
theorem ds_try {body : List Stmt} {h₀ : ExceptHandler} {hds : List ExceptHandler} {l : List DCl} {pos : Pos} {fb : Env → RS} (hK : X.K = g.K) (hs : X.stack = X.env :: X.outer) (hf : X.env.frame = some X.env.locals) (hN : X.N.Nodup)
    (hb : ∀ (pn : List (Addr × Obj)) (xe : Value → Shared → Prop), PassesOwn (model X.prog X.w) X.A X.env xe → DSs g mp (X.tr pn xe) body fb) (hh : DHds g mp X (h₀ :: hds) l) : DS g mp X (.Try body (h₀ :: hds) [] [] pos) (sTry fb l) := by
  refine ⟨fun P ps W hp tk => ?_⟩
  obtain ⟨l', h1, h2⟩ := hds_of (P := P) hK hp hh
  refine ps_imp (ps_try_all (tb := fun W => tS g P ps W fb) hs hf hN tk (fun W' pn xe tk' po => (hb pn xe po).run P ps W' hp tk') h1) fun σ H D q => ?_
  obtain ⟨e, s, q⟩ := tS_eq.mp q
  refine tS_eq.mpr ⟨e, s, ?_⟩
  unfold sTry at q
  revert q
  cases fb e with
  | bad => exact fun q => q
  | nx e' => exact fun q => q
  | bk e' => exact fun q => q
  | ct e' => exact fun q => q
  | rt sl e' => cases sl <;> exact fun q => q
  | exc x e1 =>
    intro q cls d σ' H' go rx
    by_cases hpl : plainE e1 = true ∧ plainL (x.fs.map (·.2)) = true
    · simp only [hpl, and_self, if_true] at q
      exact h2 W x e1 σ' H' cls d D (fun _ _ _ _ _ _ => True.intro) go.st hpl.1 hpl.2 rx (PRS.shift q go)
    · simp only [hpl, if_false] at q
      exact q.elim
end
end DL
end

section
set_option Elab.async false
set_option linter.all false
set_option maxRecDepth 100000
set_option maxHeartbeats 4000000
namespace DX
open PySem PySem.Spec PyProof.Rows L2 PySem.W PySem.Calls
section
variable {prog : Program} {w : World} {A : Around} {E : Value → Shared → Prop} {s : Shared} {K : Frag} {x D : Addr} {ox : Obj} {od : Option Obj}
theorem findObj_data {C : Addr} {name : Str} {a g : Value} (hc : (clsIn K C).isSome = true) (ha : findIn K (.ref C) name = some (some a)) (hg : specialIn K a "__get__" = some (some g)) (ht : takesIn K a = some true) : findObj K C od name = some (.bind g a) := by
  obtain ⟨cd, hc⟩ := Option.isSome_iff_exists.mp hc
  unfold findObj
  rw [hc, Option.bind_some, ha, Option.bind_some]
  simp [hg, ht]
/-- x.__class__ of an exception, with or without a dict -/
theorem cls_of {Q : Option Value → Shared → Prop} (C : L2.ExcC K D) (X : K.In s.heap) (I : InstAt s.heap x ox D od) (h : Q (some (.ref D)) { s with toks := s.toks + 1 }) : wpAny (model prog w) A (getAttr? (.ref x) "__class__") Q E s := by
  have hf : findObj K D od "__class__" = some (.bind (.builtin "getset_descriptor.__get__") (.builtin "object.__class__")) := findObj_data (by obtain ⟨cd, hc, _⟩ := any_some C.hd; rw [hc]; rfl) C.ha C.hn C.ht
  obtain ⟨hp, g, d, t, os⟩ := s
  have L0 := I.type (M := model prog w)
  have L1 := looks_findIn (M := model prog w) X C.hg
  have L2 := looks_findIn (M := model prog w) X C.hk
  have L3 := looks_find (M := model prog w) X I hf
  have sub : Looks (model prog w) hp (isInstance (.ref x) (.type "BaseException")) true := L0.andThen (looks_subIn X C.hs)
  have hx2 : (Value.builtin "BaseException.__getattribute__" == Value.builtin "object.__getattribute__") = false := by decide +kernel
  have hx1 : (onTheHeap (Value.ref D) && Value.builtin "BaseException.__getattribute__" == Value.builtin "object.__getattribute__") = false := by rw [hx2]; rfl
  unfold getAttr? getAttrBy? getAttrBy
  refine wpAny_bind (wpAny_mkText (wpAny_bind (wpAny_attempt (wpAny_holding (wpAny_bind (L0.at (wpAny_bind (L1.at ?_))))))))
  show wpAny _ _ (if (onTheHeap (Value.ref D) && Value.builtin "BaseException.__getattribute__" == Value.builtin "object.__getattribute__") = true then _ else _) _ _ _
  rw [hx1, if_neg Bool.false_ne_true]
  unfold getAttrByItsOwn hookBefore
  refine wpAny_bind ?_
  rw [if_pos (show onTheHeap (Value.ref D) = true from rfl)]
  refine L2.at ?_
  refine wpAny_bind (wpAny_attempt (wpAny_holding ?_))
  unfold callGetattribute
  rw [show (false && onTheHeap (Value.builtin "BaseException.__getattribute__")) = false from rfl, if_neg Bool.false_ne_true]
  unfold boundAndCalled
  rw [PySem.F.excAttr_ValueError.ga.bind (.ref x)]
  refine wpAny_bind (wpAny_pure ?_)
  show wpAny _ _ (call (.builtin "BaseException.__getattribute__") [.ref x, .str "__class__" t]) _ _ _
  refine wpAny_call (codeAny_call_builtin PySem.F.excAttr_ValueError.ga.plain PySem.F.entry_bexc_ga ?_)
  refine @check_slot (model prog w) _ _ ⟨hp, g, d, t + 1, os⟩ "BaseException.__getattribute__" "BaseException" "__getattribute__" (.ref x) [.str "__class__" t] [] _ (by decide +kernel) (by decide +kernel) sub (PySem.F.args_bexc_ga (.ref x) (.str "__class__" t)) ?_
  unfold Builtin.«object.__getattribute__»
  refine wpAny_bind (wpAny_of_eq (a := ((Value.ref x : Value), [Value.str "__class__" t])) (by first | rfl | (simp only [slotArgs]; rfl)) ?_)
  refine wpAny_bind (wpAny_pure (wpAny_bind (L0.at (wpAny_bind (L3.at ?_)))))
  show wpAny _ _ (holding [Value.builtin "object.__class__"] (call (.builtin "getset_descriptor.__get__") [.builtin "object.__class__", .ref x, .ref D]) >>= ret) _ _ _
  refine wpAny_bind (wpAny_holding (wpAny_call (class_get (s := ⟨hp, g, d, t + 1, os⟩) (ox := ox) (od := od) X I C.hm ?_)))
  refine wpAny_pure ?_
  show wpAny _ _ (handedOut (.ref D)) _ _ _
  rw [handedOut_of (v := .ref D) rfl]
  first
    | exact wpAny_pure (wpAny_pure h)
    | exact wpAny_pure h
    | exact wpAny_pure (wpAny_bind (wpAny_pure (wpAny_pure h)))
theorem kit_exc (C : L2.ExcC K D) : KitX K (.ref x) (.ref D) (fun h => ∃ od, InstAt h x ox D od) where
  ty := fun _ _ _ ⟨_, I⟩ => I.type
  it := fun _ _ X _ => by
    obtain ⟨cdD, hcD, _⟩ := any_some C.hd
    unfold clsIn at hcD
    split at hcD
    · rename_i c' d' cd' sl' ho
      intro A' Q' E' s' k q
      unfold isType loadHead
      exact wpAny_bind (wpAny_loadPart (k _ _ (X _ _ ho)) (wpAny_pure q))
    · cases hcD
  ne := fun h tp dd its n sl X htp => by
    obtain ⟨cdD, hcD, _⟩ := any_some C.hd
    refine Bool.eq_false_iff.mpr fun q => ?_
    have e : D = tp := Value.ref.inj (beq_iff_eq.mp q)
    subst e
    unfold clsIn at hcD
    split at hcD
    · rename_i c' d' cd' sl' ho
      have z := (X _ _ ho).symm.trans htp
      cases z
    · cases hcD
  ca := fun X ⟨_, I⟩ k => cls_of C X I k
end
end DX
namespace DL
open PySem PySem.Spec PyProof.Rows L2 DX
/-- the exception that a suite looks at -/
def xAt (e : Env) (i : Nat) : Option (Nat × List Str × List D) := match e[i]? with
  | some (some (.v (.xc n ns ds))) => some (n, ns, ds)
  | _ => none
theorem xAt_some {e : Env} {i n ns ds} (h : xAt e i = some (n, ns, ds)) : e[i]? = some (some (.v (.xc n ns ds))) := by
  unfold xAt at h
  split at h
  · rename_i q; cases h; exact q
  · cases h
def dIsX (i : Nat) (r : Nat → Option Bool) : Env → R D := fun e => bnd (opt ((xAt e i).bind fun x => r x.1) e) fun b e => .ok (.bl b) e
def dXf (i : Nat) (f : Str) (r : Nat → Bool) : Env → R D := fun e => opt ((xAt e i).bind fun x => if r x.1 = true then (x.2.1.zip x.2.2).lookup f else none) e
theorem lookup_parts {g : G} {H : Hp} {A : Addr → Prop} {f : Str} : ∀ {fs : List (Str × V)} {ds : List D} {d : D}, RepL g H A ds (fs.map (·.2)) → ((fs.map (·.1)).zip ds).lookup f = some d → ∃ v, fs.lookup f = some v ∧ Rep g H A d v
  | [], ds, d, _, h => by simp at h
  | (n, v) :: fs, [], d, r, h => by simp at h
  | (n, v) :: fs, d0 :: ds, d, ⟨v', r', e, h1, h2⟩, h => by
    have e : v :: fs.map (·.2) = v' :: r' := e
    injection e with e1 e2
    subst e1 e2
    have h : ((n, d0) :: (fs.map (·.1)).zip ds).lookup f = some d := h
    rw [List.lookup_cons] at h ⊢
    cases hb : (f == n) with
    | true => rw [hb] at h; cases h; exact ⟨v, rfl, h1⟩
    | false => rw [hb] at h; exact lookup_parts h2 h
section
variable {g : G} {mp : List Nat} {X : Cx} {x y : Str} {p p2 p3 pos : Pos} {a : Addr} {oe : Obj} {cls : Value} {d : Option Addr} {pn : List (Addr × Obj)}
theorem exc_inst {pins : List (Addr × Obj)} {σ : L2.St} {H : Hp} {s : Shared} {D : Addr} {cls : Value} (hz : Zc cls d oe) (hf : ∃ vs, oe.data = .fields vs) (ec : cls = .ref D) (I : Inv (X.suite a ((a, oe) :: pn)) pins σ H s) (hd : ∀ dd, d = some dd → ∃ od, s.heap.get? dd = some od) : ∃ od, PySem.W.InstAt s.heap a oe D od := by
  obtain ⟨hget, _⟩ := I.pin (a, oe) (List.mem_append.mpr (.inl List.mem_cons_self))
  obtain ⟨vs, hv⟩ := hf
  subst ec
  obtain ⟨oc, odict, oda, osl⟩ := oe
  obtain ⟨h1, h2⟩ := hz
  dsimp only at h1 h2 hv
  subst h1 h2 hv
  cases odict with
  | none => exact ⟨none, hget, rfl, rfl, trivial⟩
  | some dd =>
    obtain ⟨od, q⟩ := hd dd rfl
    exact ⟨some od, hget, rfl, rfl, q⟩
/-- a row of classes, by their names -/
structure ClsL (X : Cx) (es : List Expr) (us : List Value) : Prop where
  ex : ∃ vs, PA X es (fun _ H Q => Q vs H) ∧ Paired ClsV vs us
theorem cl_nil {X : Cx} : ClsL X [] [] := ⟨[], pa_nil, .nil⟩
theorem cl_own {X : Cx} {x : Str} {p : Pos} {C : Addr} {es : List Expr} {us : List Value} (hg : Gl X x) (hm : X.mg x = some (.ref C)) (h : ClsL X es us) (hd : (x == ("__debug__" : Str)) = false := by decide) (hs : starEach (.Name x p :: es) X.env = (false, eval (.Name x p) X.env) :: starEach es X.env := by rfl) : ClsL X (.Name x p :: es) (.ref C :: us) := by
  obtain ⟨vs, h1, h2⟩ := h.ex
  exact ⟨_, pa_imp (pa_cons (pe_glob (v := .ref C) hg hm rfl hd) h1 hs) fun σ H Q q => q, .cons (.own C) h2⟩
theorem cl_ty {X : Cx} {x : Str} {p : Pos} {T : String} {es : List Expr} {us : List Value} (hg : Gl X x) (hm : X.mg x = none) (hv : bootBuiltins x = some (.type T)) (h : ClsL X es us) (hn : x ≠ "__name__" := by decide) (hd : (x == ("__debug__" : Str)) = false := by decide)
    (hs : starEach (.Name x p :: es) X.env = (false, eval (.Name x p) X.env) :: starEach es X.env := by rfl) : ClsL X (.Name x p :: es) (.type T :: us) := by
  obtain ⟨vs, h1, h2⟩ := h.ex
  exact ⟨_, pa_imp (pa_cons (pe_bltn (v := .ty T) hg hm hv rfl hn hd) h1 hs) fun σ H Q q => q, .cons (.ty T) h2⟩
def rIs1 (K : PySem.W.Frag) (a : Addr) (cls : Value) (d : Option Addr) : List V → Hp → VK → Prop := fun xs H Q => ∃ c cv b D, xs = [.ref a, c] ∧ ClsV c cv ∧ cls = .ref D ∧ (∀ dd, d = some dd → ∃ fs, H dd = some (.xd fs)) ∧ L2.ExcC K D ∧ PySem.W.kitOne K (.ref D) cv = some b ∧ Q (.bl b) H
def rIsTp (K : PySem.W.Frag) (a : Addr) (cls : Value) (d : Option Addr) : List V → Hp → VK → Prop := fun xs H Q => ∃ tp cs us b D, xs = [.ref a, .ref tp] ∧ H tp = some (.tup cs) ∧ Paired ClsV cs us ∧ cls = .ref D ∧ (∀ dd, d = some dd → ∃ fs, H dd = some (.xd fs)) ∧ L2.ExcC K D ∧ PySem.W.kitAny K (.ref D) us = some b ∧ Q (.bl b) H
theorem call_is1 (hz : Zc cls d oe) (hf : ∃ vs, oe.data = .fields vs) : CallR (X.suite a ((a, oe) :: pn)) (.builtin "isinstance") (rIs1 X.K a cls d) := by
  intro pins s σ H xs us Q I r h
  obtain ⟨c, cv, b, D, rfl, k, ec, hd, C, e, q⟩ := h
  obtain ⟨u1, u2, rfl, r1, r2⟩ := vals2 r
  cases (show u1 = Value.ref a from r1)
  have e2 := k.eq r2
  subst e2
  obtain ⟨od, J⟩ := exc_inst hz hf ec I fun dd q => by
    obtain ⟨fs, z⟩ := hd dd q
    exact objOk_get (I.hok dd _ z)
  exact PySem.W.kia_one (kit_exc C) I.kIn ⟨od, J⟩ e (fun z => nomatch z) fun tk => ⟨.bl b, H, I.tok tk, rfl, q⟩
theorem call_isTp (hz : Zc cls d oe) (hf : ∃ vs, oe.data = .fields vs) : CallR (X.suite a ((a, oe) :: pn)) (.builtin "isinstance") (rIsTp X.K a cls d) := by
  intro pins s σ H xs us Q I r h
  obtain ⟨tp, cs, ws, b, D, rfl, hT, k, ec, hd, C, e, q⟩ := h
  obtain ⟨u1, u2, rfl, r1, r2⟩ := vals2 r
  cases (show u1 = Value.ref a from r1)
  cases (show u2 = Value.ref tp from r2)
  obtain ⟨od, J⟩ := exc_inst hz hf ec I fun dd q => by
    obtain ⟨fs, z⟩ := hd dd q
    exact objOk_get (I.hok dd _ z)
  obtain ⟨_, its, rv, o, h1, h2, n, h3⟩ := (show ObjOk X.prog X.w H s.heap tp (.tup cs) from I.hok tp _ hT)
  have e3 := ClsV.all k rv
  subst e3
  obtain ⟨oc, od', dt, sl⟩ := o
  simp only at h2 h3
  subst h2 h3
  exact PySem.W.kia_tup (kit_exc C) I.kIn ⟨od, J⟩ h1 e (fun z => nomatch z) fun tk => ⟨.bl b, H, I.tok tk, rfl, q⟩
/-- what the slot tells of the exception -/
theorem xc_of {P ps e σ H i n ns ds} (s : StRel { g with ex := some ⟨a, cls, d⟩ } P ps e σ H) (h : xAt e i = some (n, ns, ds)) :
    σ[i]? = some (some (.ref a)) ∧ cls = .ref (g.clA n) ∧ (∀ dd, d = some dd → ∃ fs, H dd = some (.xd fs) ∧ ¬ Av P e σ dd ∧ fs.map (·.1) = ns ∧ RepL { g with ex := some ⟨a, cls, d⟩ } H (Av P e σ) ds (fs.map (·.2))) ∧ (d = none → ns = []) := by
  obtain ⟨v, h1, x, h2, h3, h4, h5, h6⟩ := s.vv i _ (xAt_some h)
  cases h2
  rw [h3] at h1
  refine ⟨h1, h4, fun dd hd => ?_, fun hd => ?_⟩
  · have hn : ns ≠ [] := fun z => by
      have := h5 z
      rw [hd] at this
      cases this
    obtain ⟨dd', fs, q1, ⟨q2, q3⟩, q4, q5⟩ := h6 hn
    rw [hd] at q1
    cases q1
    exact ⟨fs, q3, q2, q4, q5⟩
  · cases hn : ns with
    | nil => rfl
    | cons y r =>
      obtain ⟨dd', fs, q1, _⟩ := h6 (by rw [hn]; exact fun z => by cases z)
      rw [hd] at q1
      cases q1
theorem de_is1 (i : Nat) {c : Expr} {u : Value} {r : Nat → Option Bool} (hK : X.K = g.K) (hz : Zc cls d oe) (hf : ∃ vs, oe.data = .fields vs) (hg : Gl (X.suite a ((a, oe) :: pn)) "isinstance") (hm : X.mg "isinstance" = none) (hcl : ClsL (X.suite a ((a, oe) :: pn)) [c] [u])
    (hr : ∀ n b, r n = some b → L2.ExcC g.K (g.clA n) ∧ PySem.W.kitOne g.K (.ref (g.clA n)) u = some b) (hN : X.N[i]? = some x := by rfl) (hv : Vis X.env.scope x := by first | exact Or.inl rfl | exact Or.inr (Or.inl rfl) | exact Or.inr (Or.inr rfl)) (hd : (x == ("__debug__" : Str)) = false := by decide)
    (hcd : (x == ("__classdict__" : Str)) = false := by decide) (hs : starEach (.Name x p2 :: [c]) X.env = (false, eval (.Name x p2) X.env) :: starEach [c] X.env := by rfl) (hpl : (backTo pos (starEach [c] X.env)).any (·.1) = false := by rfl) :
    DE { g with ex := some ⟨a, cls, d⟩ } mp (X.suite a ((a, oe) :: pn)) (.Call (.Name "isinstance" p) [.Name x p2, c] [] pos) (dIsX i r) := by
  obtain ⟨vs, h1, h2⟩ := hcl.ex
  refine ⟨fun P ps W hp tk => pe_imp (pe_callB (X := X.suite a ((a, oe) :: pn)) (call_is1 hz hf) hg hm boot_isinstance (pa_cons (X := X.suite a ((a, oe) :: pn)) (pe_var hN hv hd hcd) h1 hs) (by decide) (by decide) hs hpl) fun σ H Q h => ?_⟩
  obtain ⟨e, s, h⟩ := tD_eq.mp h
  obtain ⟨b, q, h⟩ := PR.optM s h
  obtain ⟨⟨n, ns, ds⟩, q1, q2⟩ := Option.bind_eq_some_iff.mp q
  obtain ⟨x1, x2, x3, x4⟩ := xc_of s q1
  obtain ⟨y1, y2⟩ := hr n b q2
  rw [← hK] at y1 y2
  cases h2 with
  | cons k kr =>
    cases kr
    exact ⟨.ref a, x1, _, _, b, _, rfl, k, x2, fun dd hd => let ⟨fs, z, _⟩ := x3 dd hd; ⟨fs, z⟩, y1, y2, h _ (Go.refl s) _ rfl⟩
theorem de_isT (i : Nat) {es : List Expr} {k : Nat} {us : List Value} {r : Nat → Option Bool} (hK : X.K = g.K) (hz : Zc cls d oe) (hf : ∃ vs, oe.data = .fields vs) (hg : Gl (X.suite a ((a, oe) :: pn)) "isinstance") (hm : X.mg "isinstance" = none) (hcl : ClsL (X.suite a ((a, oe) :: pn)) es us) (hl : us.length ≤ 100)
    (hr : ∀ n b, r n = some b → L2.ExcC g.K (g.clA n) ∧ PySem.W.kitAny g.K (.ref (g.clA n)) us = some b) (hN : X.N[i]? = some x := by rfl) (hv : Vis X.env.scope x := by first | exact Or.inl rfl | exact Or.inr (Or.inl rfl) | exact Or.inr (Or.inr rfl)) (hd : (x == ("__debug__" : Str)) = false := by decide)
    (hcd : (x == ("__classdict__" : Str)) = false := by decide) (hs : starEach (.Name x p2 :: [.Tuple es k p3]) X.env = (false, eval (.Name x p2) X.env) :: starEach [.Tuple es k p3] X.env := by rfl) (hs2 : starEach (.Tuple es k p3 :: []) X.env = (false, eval (.Tuple es k p3) X.env) :: starEach [] X.env := by rfl) (hpl : (backTo pos (starEach [.Tuple es k p3] X.env)).any (·.1) = false := by rfl) :
    DE { g with ex := some ⟨a, cls, d⟩ } mp (X.suite a ((a, oe) :: pn)) (.Call (.Name "isinstance" p) [.Name x p2, .Tuple es k p3] [] pos) (dIsX i r) := by
  obtain ⟨vs, h1, h2⟩ := hcl.ex
  refine ⟨fun P ps W hp tk => pe_imp (pe_callB (X := X.suite a ((a, oe) :: pn)) (call_isTp hz hf) hg hm boot_isinstance (pa_cons (X := X.suite a ((a, oe) :: pn)) (pe_var hN hv hd hcd) (pa_cons (X := X.suite a ((a, oe) :: pn)) (pe_tup h1) pa_nil hs2) hs) (by decide) (by decide) hs hpl) fun σ H Q h => ?_⟩
  obtain ⟨e, s, h⟩ := tD_eq.mp h
  obtain ⟨b, q, h⟩ := PR.optM s h
  obtain ⟨⟨n, ns, ds⟩, q1, q2⟩ := Option.bind_eq_some_iff.mp q
  obtain ⟨x1, x2, x3, x4⟩ := xc_of s q1
  obtain ⟨y1, y2⟩ := hr n b q2
  rw [← hK] at y1 y2
  have hlen : vs.length ≤ sizeLine := by
    rw [Paired.length h2, sizeLine_eq]
    omega
  refine ⟨.ref a, x1, hlen, fun tp htp => ⟨tp, vs, us, b, _, rfl, upd_same, h2, x2, fun dd hd => ?_, y1, y2, h _ (Go.new s htp) _ rfl⟩⟩
  obtain ⟨fs, z, _⟩ := x3 dd hd
  exact ⟨fs, by rw [upd_ne (ne_of_none z htp)]; exact z⟩
theorem de_xf (i : Nat) {f : Str} {r : Nat → Bool} (hK : X.K = g.K) (hz : Zc cls d oe) (hf : ∃ vs, oe.data = .fields vs) (hr : ∀ n, r n = true → XfC g.K (g.clA n) ∧ PySem.W.findIn g.K (.ref (g.clA n)) f = some none) (hN : X.N[i]? = some x := by rfl) (hv : Vis X.env.scope x := by first | exact Or.inl rfl | exact Or.inr (Or.inl rfl) | exact Or.inr (Or.inr rfl)) (hd : (x == ("__debug__" : Str)) = false := by decide)
    (hcd : (x == ("__classdict__" : Str)) = false := by decide) (hb : attributeBase (.Name x p2) f X.env (eval (.Name x p2) X.env) = eval (.Name x p2) X.env := by rfl) : DE { g with ex := some ⟨a, cls, d⟩ } mp (X.suite a ((a, oe) :: pn)) (.Attribute (.Name x p2) f pos) (dXf i f r) := by
  refine ⟨fun P ps W hp tk => ⟨fun pins s σ H Q I h => ?_⟩⟩
  obtain ⟨e, st, h⟩ := tD_eq.mp h
  obtain ⟨dv, q, h⟩ := PR.opt h
  obtain ⟨⟨n, ns, ds⟩, q1, q2⟩ := Option.bind_eq_some_iff.mp q
  obtain ⟨x1, x2, x3, x4⟩ := xc_of st q1
  dsimp only at q2
  split at q2
  · rename_i hrn
    obtain ⟨y1, y2⟩ := hr n hrn
    rw [← hK] at y1 y2
    cases hdd : d with
    | none =>
      rw [x4 hdd] at q2
      simp at q2
    | some dd =>
      obtain ⟨fs, z1, z2, z3, z4⟩ := x3 dd hdd
      rw [← z3] at q2
      obtain ⟨v, w1, w2⟩ := lookup_parts z4 q2
      rw [hdd] at hz
      exact (pe_xf (X := X) (C := g.clA n) (pn := pn) (d := some dd) y1 y2 hz hf (pe_var (X := X.suite a ((a, oe) :: pn)) hN hv hd hcd) hb).run pins s σ H Q I ⟨.ref a, x1, rfl, x2, dd, fs, v, rfl, z1, w1, h _ (Go.refl st) _ w2⟩
  · cases q2
end
end DL
end

section
set_option Elab.async false
set_option linter.all false
set_option maxRecDepth 100000
set_option maxHeartbeats 4000000
namespace DX
open PySem PySem.Spec PyProof.Rows L2
/-! ### defs that are called where no repr is under way -/
structure FnG (P : Program) (w : World) (K : PySem.W.Frag) (mg : Str → Option Value) (base : Heap) (CX : CXT) (k : Nat) (f : Addr) (fd : FuncData) (ps : List Str) (sp : Sp) : Prop where
  len : ∀ vs H Q E, sp vs H Q E → vs.length = ps.length
  run : ∀ (A : Around) (outer : List PySem.Env) (s : Shared) (H : Hp) (args : Args) (us : List Value) (vs : List V) (Q : VK) (E : XK), Room k A → A.guards = some [] → Env0 P w K mg base A outer s H → BindsTo s fd args (ps.zip us) → Vals vs us → sp vs H Q E →
    codeAny (model P w) A (.call (.ref f) args) (CR CX outer P w H s Q E) s
theorem gd_deeper {A : Around} {env : PySem.Env} (h : A.guards = some []) : (A.deeper env).guards = some [] := h
section
variable {P : Program} {w : World} {K : PySem.W.Frag} {mg : Str → Option Value} {base : Heap} {CX : CXT}
theorem fnG_of {k : Nat} {f : Addr} {fd : FuncData} {ps : List Str} {sp : Sp} (F : FnOk P w K mg base CX k f fd ps sp) : FnG P w K mg base CX k f fd ps sp := ⟨F.len, fun A outer s H args us vs Q E hr _ => F.run A outer s H args us vs Q E hr⟩
theorem FnG.mono {j k : Nat} {f : Addr} {fd : FuncData} {ps : List Str} {sp : Sp} (F : FnG P w K mg base CX j f fd ps sp) (h : j ≤ k) : FnG P w K mg base CX k f fd ps sp := ⟨F.len, fun A outer s H args us vs Q E hr => F.run A outer s H args us vs Q E (hr.mono h)⟩
theorem fun_okG {x qual : Str} {st : Stmt} {f : Addr} {fd : FuncData} {N ps : List Str} {k : Nat} {sp : Sp} (F : Fun K x qual st f fd) (S : FnScope N ps (defScope st)) (len : ∀ vs H Q E, sp vs H Q E → vs.length = ps.length)
    (hbody : ∀ (cdv : Value) (A : Around) (outer : List PySem.Env) (s : Shared) (H : Hp) (vs : List V) (Q : VK) (E : XK), Room k (A.deeper (envOfC qual (defScope st) s.heap.objs.size f cdv)) → (A.deeper (envOfC qual (defScope st) s.heap.objs.size f cdv)).guards = some [] → sp vs H Q E →
      ∃ t, PSs (cxOf CX P w K mg base N qual (defScope st) f cdv A outer s H E) (defBody st) t ∧ t { nx := fun _ H' => Q .non H', rt := Q } (L2.start N vs) H) : FnG P w K mg base CX (k + 1) f fd ps sp := by
  obtain ⟨oc, od, kV, doc, pm, an, cdv, ct, osl, rfl, lk, hcd⟩ := F.ex
  exact ⟨len, fun A outer s H args us vs Q E hr hgd e0 hb r hsp => LamX.run_ofS lk hcd S hr e0 hb r (len _ _ _ _ hsp) fun hr' => hbody cdv A outer s H vs Q E hr' (gd_deeper hgd) hsp⟩
end
section
variable {X : Cx} {CX : CXT} {k : Nat} {f : Addr} {fd : FuncData} {ps : List Str} {sp : Sp} {E : L2.St → XK} {x : Str} {p pos : Pos} {e : Expr} {es : List Expr} {t : TA}
theorem run_fnSG {pins : List (Addr × Obj)} {σ : L2.St} {H : Hp} {s : Shared} {Q : VK} {us : List Value} {vs : List V} (F : FnG X.prog X.w X.K X.mg X.base CX k f fd ps sp) (hr : Room k X.A) (hgd : X.A.guards = some []) (hb : Binds X.K fd ps []) (hx : PassesAt CX X σ (E σ))
    (I : Inv X pins σ H s) (r : Vals vs us) (h : sp vs H Q (E σ)) : wpAny (model X.prog X.w) X.A (call (.ref f) us) (EP X pins σ Q) X.xe s := by
  have hl : us.length = ps.length := by rw [← r.length]; exact F.len _ _ _ _ h
  have b := hb s us I.kIn (by rw [List.append_nil]; exact hl)
  rw [List.append_nil] at b
  refine wpAny_call (codeAny_mono (F.run X.A X.stack s H ⟨us, []⟩ us vs Q (E σ) hr hgd I.env0 b r h) fun r s' hq => ?_)
  cases r with
  | error e => exact hx pins H s e s' I hq
  | ok fl =>
    cases fl with
    | ret u => exact I.after hq
    | next => exact False.elim hq
    | brk => exact False.elim hq
    | cont => exact False.elim hq
theorem pe_callSG (F : FnG X.prog X.w X.K X.mg X.base CX k f fd ps sp) (hr : Room k X.A) (hgd : X.A.guards = some []) (hg : Gl X x) (hm : X.mg x = some (.ref f)) (hk : PySem.W.keepIn X.K (.ref f) = true) (hb : Binds X.K fd ps []) (hx : ∀ σ, PassesAt CX X σ (E σ))
    (ha : PA X (e :: es) t) (hdb : (x == ("__debug__" : Str)) = false := by decide) (he : starEach (e :: es) X.env = (false, eval e X.env) :: starEach es X.env := by rfl) (hpl : (backTo pos (starEach es X.env)).any (·.1) = false := by rfl) :
    PE X (.Call (.Name x p) (e :: es) [] pos) (tCallS sp E t) := by
  refine ⟨fun pins s σ H Q I h => ?_⟩
  refine wpAny_Call_Name_kw (ld_glob I hg hm ?_ hdb)
  refine PySem.W.callWith_K (h₀ := X.base) I.ok.mod.kin hk (thn (ha.run pos pins s σ H _ I h) fun us s1 ⟨vs, H1, I1, r, q⟩ => ⟨I1.kIn, ?_⟩) he hpl
  exact run_fnSG F hr hgd hb (hx σ) I1 r q
/-- repr of data -/
def rRepr (K : PySem.W.Frag) : List V → Hp → VK → Prop := fun xs H Q => ∃ x d, xs = [x] ∧ Dp K H x d ∧ d.showable = true ∧ d.hasDict = false ∧ d.depth ≤ 60 ∧ d.shown.length ≤ 16777216 ∧ Q (.str d.shown) H
theorem call_repr (hu : X.A.units + 64 < cLine) (hgd : X.A.guards = some []) : CallR X (.builtin "repr") (rRepr X.K) := by
  intro pins s σ H xs us Q I r h
  obtain ⟨x, d, rfl, dp, h1, h2, h3, h4, q⟩ := h
  cases r with
  | cons rx rr =>
  cases rr
  rename_i u
  obtain ⟨as, rd⟩ := Dp.reads I d x u dp rx
  have hz : d.shown.length ≤ sizeLine := by rw [sizeLine_eq]; exact h4
  cases rd with
  | none => exact P.repr_of_none ⟨.str _, H, I.tok _, ⟨_, rfl⟩, q⟩
  | bool b => exact P.repr_of_bool ⟨.str _, H, I.tok _, ⟨_, rfl⟩, q⟩
  | int i t => exact P.repr_of_int (of_decide_eq_true h1) ⟨.str _, H, I.tok _, ⟨_, rfl⟩, q⟩
  | str y t => exact P.repr_of_str ⟨.str _, H, I.tok _, ⟨_, rfl⟩, q⟩ hz
  | list a b c e =>
    exact repr_of_reads' (Reads.list a b c e) h1 (PyData.noDict_hsm h2) hgd (by omega) (fun _ _ z => z) (fun h' u tk hk => ⟨.str _, H, I.kept (t' := tk) hk, ⟨_, rfl⟩, q⟩) hz
  | tuple a b c e =>
    exact repr_of_reads' (Reads.tuple a b c e) h1 (PyData.noDict_hsm h2) hgd (by omega) (fun _ _ z => z) (fun h' u tk hk => ⟨.str _, H, I.kept (t' := tk) hk, ⟨_, rfl⟩, q⟩) hz
  | dict a b c e f => cases h2
end
end DX
namespace DL
open PySem PySem.Spec PyProof.Rows L2 DX
/-! ### repr -/
def reprD (d : D) : Option D := if dep d ≤ 60 ∧ (toP d).showable = true ∧ (toP d).shown.length ≤ 16777216 then some (.str (toP d).shown) else none
mutual
theorem noDict_toP : ∀ d : D, (toP d).hasDict = false
  | .non => rfl
  | .bl _ => rfl
  | .int _ => rfl
  | .str _ => rfl
  | .tup xs => by simp only [toP, PyData.hasDict]; exact noDictL_toP xs
  | .lst xs => by simp only [toP, PyData.hasDict]; exact noDictL_toP xs
  | .dct _ _ => rfl
  | .fn _ => rfl
  | .cl _ => rfl
  | .ty _ => rfl
  | .th _ _ => rfl
  | .xc _ _ _ => rfl
theorem noDictL_toP : ∀ xs : List D, PyData.hasDictAll (toPL xs) = false
  | [] => rfl
  | x :: xs => by simp only [toPL, PyData.hasDictAll, noDict_toP x, noDictL_toP xs]; rfl
end
section
variable {g : G} {X : Cx}
theorem oc_repr (hK : X.K = g.K) : OpC g (rRepr X.K) (on1 reprD) := oc_on1 fun A H x a d Q tr ra h k => by
  unfold reprD at h
  split at h
  · rename_i q
    cases h
    exact ⟨x, toP a, rfl, dp_of hK a x (by omega) ra, q.2.1, noDict_toP a, by rw [(shape_toP a (by omega)).2]; exact q.1, q.2.2, k _ _ (Same.refl H) rfl⟩
  · cases h
end
/-! ### == of texts, whatever stands in them -/
def eqS : D → D → Option D
  | .str x, .str y => some (.bl (decide (x = y)))
  | a, b => eqD a b
def neS : D → D → Option D
  | .str x, .str y => some (.bl (!decide (x = y)))
  | a, b => neD a b
section
variable {g : G} {X : Cx}
theorem op_eqS (hu : X.A.units + 64 < cLine) : OpR X (compareOp .Eq) (fun x y H Q => rEq x y H Q ∨ rEqD X.K x y H Q) := op_eq.or (op_eqD hu)
theorem op_neS (hu : X.A.units + 64 < cLine) : OpR X (compareOp .NotEq) (fun x y H Q => rNe x y H Q ∨ rNeD X.K x y H Q) := op_ne.or (op_neD hu)
theorem dec_vs {x y : Str} : decide (V.str x = V.str y) = decide (x = y) := by
  rw [Bool.eq_iff_iff]
  simp
theorem o2_eqS (hK : X.K = g.K) : Op2 g (fun x y H Q => rEq x y H Q ∨ rEqD X.K x y H Q) eqS := fun A H x y a b d Q tr ra rb h k => by
  by_cases hs : ∃ u v, a = .str u ∧ b = .str v
  · obtain ⟨u, v, rfl, rfl⟩ := hs
    cases h
    rw [show x = .str u from ra, show y = .str v from rb]
    exact .inl ⟨rfl, by rw [dec_vs]; exact k _ _ (Same.refl H) rfl⟩
  · have h : eqD a b = some d := by
      cases a <;> first | exact h | (cases b <;> first | exact h | exact (hs ⟨_, _, rfl, rfl⟩).elim)
    exact .inr (o2_eq hK A H x y a b d Q tr ra rb h k)
theorem o2_neS (hK : X.K = g.K) : Op2 g (fun x y H Q => rNe x y H Q ∨ rNeD X.K x y H Q) neS := fun A H x y a b d Q tr ra rb h k => by
  by_cases hs : ∃ u v, a = .str u ∧ b = .str v
  · obtain ⟨u, v, rfl, rfl⟩ := hs
    cases h
    rw [show x = .str u from ra, show y = .str v from rb]
    exact .inl ⟨rfl, by rw [dec_vs]; exact k _ _ (Same.refl H) rfl⟩
  · have h : neD a b = some d := by
      cases a <;> first | exact h | (cases b <;> first | exact h | exact (hs ⟨_, _, rfl, rfl⟩).elim)
    exact .inr (o2_ne hK A H x y a b d Q tr ra rb h k)
end
/-! ### defs called where no repr is under way -/
structure DfnG (g : G) (Pr : Program) (w : World) (K : PySem.W.Frag) (mg : Str → Option Value) (base : Heap) (k : Nat) (x : Str) (m : Nat) (mp : List Nat) (F : List Slot → RF) : Prop where
  ex : ∃ f fd pn N, FnG Pr w K mg base (L2.CX Pr w) k f fd pn (spD g N mp m F) ∧ mg x = some (.ref f) ∧ PySem.W.keepIn K (.ref f) = true ∧ Binds K fd pn []
theorem DfnG.mono {g Pr w K mg base k k' x m mp F} (h : DfnG g Pr w K mg base k x m mp F) (hk : k ≤ k') : DfnG g Pr w K mg base k' x m mp F := by
  obtain ⟨f, fd, pn, N, h1, h2⟩ := h.ex
  exact ⟨f, fd, pn, N, h1.mono hk, h2⟩
theorem dfn_mkG {n : Nat} {g : G} {Pr : Program} {w : World} {mg : Str → Option Value} {base : Heap} {x : Str} {st : Stmt} {N pn : List Str} {k : Nat} {mp : List Nat} {fb : Env → RS} (h : DefAt g mg n x st) (S : FnScope N pn (defScope st))
    (hb : ∀ (kV doc pm : Value) (an : Option Addr) (cdv ct : Value) (us : List Value), us.length = pn.length → bindArgs (PySem.W.fnOf x x (defArgs st) (defBody st) (defScope st) .none kV doc pm an cdv ct) ⟨us, []⟩ = pure (pn.zip us))
    (hbody : ∀ (f : Addr) (cdv : Value) (A : Around) (outer : List PySem.Env) (s : Shared) (H : Hp) (E : XK), Room k (A.deeper (envOfC x (defScope st) s.heap.objs.size f cdv)) → (A.deeper (envOfC x (defScope st) s.heap.objs.size f cdv)).guards = some [] →
      DSs g mp (cxOf (L2.CX Pr w) Pr w g.K mg base N x (defScope st) f cdv A outer s H E) (defBody st) fb) :
    DfnG g Pr w g.K mg base (k + 1) x pn.length mp (fun ss => fin mp (fb (startE N.length ss))) := by
  obtain ⟨fd, F, hm⟩ := h.ex
  refine ⟨_, fd, pn, N, fun_okG F S (fun vs H Q E h => h.1) fun cdv A outer s H vs Q E hr hgd hsp => ?_, hm, F.kp, F.binds hb⟩
  obtain ⟨_, P, ps, ss, hm, hl, st, hA, hR⟩ := hsp
  refine ⟨_, (hbody _ cdv A outer s H E hr hgd).run P ps (fun cls d _ H' => E cls d H') hm (takes_of rfl rfl rfl rfl), ?_⟩
  refine tS_eq.mpr ⟨_, st, ?_⟩
  replace hR : ROK g P ps H (fin mp (fb (startE N.length ss))) Q E := hR
  revert hR
  cases fb (startE N.length ss) with
  | nx e' => exact fun hR σ' H' go => hR .non H' (go.after hm hA) rfl
  | rt z e' => cases z with
    | v d => exact fun hR v σ' H' go rv => hR v H' (go.after hm hA) (Rep.mono (fun a z => go.st.ap z) rv)
    | m ds => exact fun hR a σ' H' gm => hR a H' (gm.after hm hA)
  | bk e' => exact fun hR => hR.elim
  | ct e' => exact fun hR => hR.elim
  | exc y e' => exact fun hR cls d σ' H' go rx => hR cls d H' (go.after hm hA) (XRep.kp (fun b o q n => ⟨q, fun z => n.1 (go.st.ap z)⟩) rx)
  | bad => exact fun hR => hR.elim
section
variable {g : G} {mp mc : List Nat} {X : Cx} {fs : Env → R (List D)} {sh : List (Option Nat)} {pos p : Pos} {x : Str} {e : Expr} {es : List Expr}
theorem de_callG {k m : Nat} {F : List Slot → RF} (hF : DfnG g X.prog X.w X.K X.mg X.base k x m mc F) (hr : Room k X.A) (hgd : X.A.guards = some []) (hg : Gl X x) (ha : DAS g mp X (e :: es) sh fs) (hm : (psN 0 sh).map (·.1) = mc := by rfl) (hl : sh.length = m := by rfl) (nd : ((psN 0 sh).map (·.2)).Nodup := by decide)
    (hdb : (x == ("__debug__" : Str)) = false := by decide) (he : starEach (e :: es) X.env = (false, eval e X.env) :: starEach es X.env := by rfl) (hpl : (backTo pos (starEach es X.env)).any (·.1) = false := by rfl) :
    DE g mp X (.Call (.Name x p) (e :: es) [] pos) (dCall F sh fs) := by
  obtain ⟨f, fd, pn, N, h1, h2, h3, h4⟩ := hF.ex
  refine ⟨fun P ps W hp tk => pe_imp (pe_callSG h1 hr hgd hg h2 h3 h4 (E := WE W) (fun σ => passAt tk σ) (ha.run P ps W hp tk) hdb he hpl) fun σ H Q h => ?_⟩
  obtain ⟨e0, s, h⟩ := tD_eq.mp h
  refine ⟨e0, s, h.bnd.mono fun ds e1 H1 go1 z vs av => ?_⟩
  cases hs : mkS sh ds e1 with
  | none => rw [hs] at z; exact z.elim
  | some ss =>
    rw [hs] at z
    refine call_go go1.st hs av nd hm hl ?_
    revert z
    dsimp only
    cases F ss with
    | bad => exact fun z => z
    | exc x outs => exact fun z cls d H' go rx => z cls d H' go rx
    | ok s' outs => cases s' with
      | v d => exact fun z v H' go rv => z H' go v rv
      | m l => exact fun z a H' gm => z H' gm.go _ gm.rep
end
end DL
end

section
set_option Elab.async false
set_option linter.all false
set_option maxRecDepth 100000
set_option maxHeartbeats 4000000
namespace DX
open PySem PySem.Spec PyProof.Rows L2 LamX
section
variable {X : Cx} {pins : List (Addr × Obj)} {σ : L2.St} {H HZ : Hp} {s s1 : Shared}
/-- a(), in the def that got the lambda; what it raises is wished for at that def's slots -/
theorem pe_actS {Eg : XK} {Ng : List Str} {qg : Str} {sg : Scope} {gA f c' : Addr} {cdg pm ctv : Value} {params : Arguments} {body : Expr} {scope : Scope} {k i : Nat} {a : Str} {pn : List (Addr × Obj)} {xe : Value → Shared → Prop} {W : WX} {tb : XK → TE} {p1 p2 : Pos}
    (I : Inv X pins σ H s) (L : LamS X.env.scope scope) (hf : s.heap.get? f = some (PySem.W.kla_obj "<lambda>" (X.env.qual ++ "<lambda>") params body scope (cloFrom X.env.cells scope.names []) pm c' ctv)) (hfn : H f = none) (hfr : f ∉ frs X.stack)
    (hbind : bindArgs (PySem.W.kla_fn "<lambda>" (X.env.qual ++ "<lambda>") params body scope (cloFrom X.env.cells scope.names []) pm (.ref c') ctv) ⟨[], []⟩ = pure [])
    (tk : Takes ((cxOf (L2.CX X.prog X.w) X.prog X.w X.K X.mg X.base Ng qg sg gA cdg X.A X.stack s H Eg).tr pn xe) W) (hr : Room (k + 1) (X.A.deeper (envOfC qg sg s.heap.objs.size gA cdg)))
    (hbody : ∀ (A : Around) (outer : List PySem.Env) (s : Shared) (H : Hp) (E : XK), Room k (A.deeper (lamEnv X scope s.heap.objs.size f c')) → PE (lamCx X A outer s H E scope f c') body (tb E))
    (hN : Ng[i]? = some a) (hv : Vis sg a) (hd : (a == ("__debug__" : Str)) = false := by decide) (hcd : (a == ("__classdict__" : Str)) = false := by decide) :
    PE ((cxOf (L2.CX X.prog X.w) X.prog X.w X.K X.mg X.base Ng qg sg gA cdg X.A X.stack s H Eg).tr pn xe) (.Call (.Name a p1) [] [] p2)
      (fun σZ HZ Q => σZ[i]? = some (some (.ref f)) ∧ HZ c' = some (CodeO c' (X.env.qual ++ "<lambda>")) ∧ tb (WE W σZ) σ HZ Q) := by
  refine ⟨fun pinsZ sZ σZ HZ Q IZ h => ?_⟩
  obtain ⟨hs, hc, ht⟩ := h
  refine wpAny_Call_Name_kw (thn ((pe_var (pos := p1) (i := i) hN hv hd hcd).run pinsZ sZ σZ HZ (fun v H1 => v = .ref f ∧ H1 = HZ) IZ ⟨.ref f, hs, rfl, rfl⟩) fun u s1 ⟨v, H1, I1, r1, q1⟩ => ?_)
  obtain ⟨ev, eH⟩ := q1
  subst ev
  rw [eH] at I1
  obtain rfl : u = Value.ref f := r1
  have of1 : s1.heap.get? f = some (PySem.W.kla_obj "<lambda>" (X.env.qual ++ "<lambda>") params body scope (cloFrom X.env.cells scope.names []) pm c' ctv) := I1.base.keep f _ hf hfn hfr (fun z => nomatch (show f ∈ ([] : List Addr) from z))
  refine PySem.W.callWith_F0 ⟨_, _, _, _, of1⟩ ?_
  have un : Un (frs X.stack) [] H HZ s.heap s1.heap := I1.base
  obtain ⟨⟨oc, vs, t, hoc, hdc, hvc⟩, _, _⟩ := I1.hok c' _ hc
  have rc : codeAny (model X.prog X.w) (X.A.deeper (envOfC qg sg s.heap.objs.size gA cdg)) (.call (.ref f) ⟨[], []⟩) (CR (L2.CX X.prog X.w) (envOfC qg sg s.heap.objs.size gA cdg :: X.stack) X.prog X.w HZ s1 Q (WE W σZ)) s1 := by
    refine PySem.W.kla_callFunE hr.depth of1 rfl L.co L.gen rfl ⟨c', oc, vs, t, rfl, hoc, hdc, hvc⟩ ?_
    rw [hbind]
    refine wpAny_pure (wpAny_newFunctionEnv (fun y hy => (L.own y hy).2) (fun y hy => absurd hy (by simp)) (fun h₁ hns hsb => ⟨I1.nolimit.fresh _ hsb, ?_⟩) L.kind)
    show codeAny _ _ (.expr body (lamEnv X scope s1.heap.objs.size f c')) _ _
    have kp : ∀ b o, s1.heap.get? b = some o → h₁.get? b = some o := fun b o e => hsb.extBut b o (Nat.ne_of_lt (Heap.lt_size e)) (Heap.get?_push_of_some _ e)
    have J : Inv (lamCx X (X.A.deeper (envOfC qg sg s.heap.objs.size gA cdg)) (envOfC qg sg s.heap.objs.size gA cdg :: X.stack) s1 HZ (WE W σZ) scope f c') [] σ HZ { s1 with heap := h₁, toks := s1.toks + ([] : List (Str × Value)).length } :=
      lam_start2 I L I1.env0 hr.hd un hns kp
    refine PySem.W.kla_codeExpr (wpAny_mono ((hbody _ _ s1 HZ (WE W σZ) (hr.deeper _)).run [] _ _ HZ Q J ht) (fun v s' hq => ?_) fun e s' hq => hq)
    obtain ⟨w', H', J', rv, q⟩ := hq
    exact ⟨w', H', J'.os, J'.bare, J'.base, J'.hok, rv, q⟩
  refine wpAny_call (codeAny_mono rc fun r s' hq => ?_)
  cases r with
  | error e => exact passAt tk σZ pinsZ HZ s1 e s' I1 hq
  | ok fl =>
    cases fl with
    | ret u => exact I1.after hq
    | next => exact False.elim hq
    | brk => exact False.elim hq
    | cont => exact False.elim hq
end
/-- the def that calls what it got: a calls it -/
def GivesT (X : Cx) (Ng : List Str) (x : Str) (sg : Scope) (gA : Addr) (cdg : Value) (bg : List Stmt) (a : Str) (q : Str) (TT : (XK → Hp → VK → Prop) → Hp → VK → XK → Prop) : Prop :=
  ∀ (f c' : Addr) (s : Shared) (H : Hp) (Q : VK) (E : XK) (tl : XK → Hp → VK → Prop),
    (∀ (W : WX) (pn : List (Addr × Obj)) (xe : Value → Shared → Prop) (p1 p2 : Pos), Takes ((cxOf (L2.CX X.prog X.w) X.prog X.w X.K X.mg X.base Ng x sg gA cdg X.A X.stack s H E).tr pn xe) W →
      PE ((cxOf (L2.CX X.prog X.w) X.prog X.w X.K X.mg X.base Ng x sg gA cdg X.A X.stack s H E).tr pn xe) (.Call (.Name a p1) [] [] p2) (fun σZ HZ Q => σZ[0]? = some (some (.ref f)) ∧ HZ c' = some (CodeO c' q) ∧ tl (WE W σZ) HZ Q)) →
    H c' = some (CodeO c' q) → TT tl H Q E →
    ∃ t, PSs (cxOf (L2.CX X.prog X.w) X.prog X.w X.K X.mg X.base Ng x sg gA cdg X.A X.stack s H E) bg t ∧ t { nx := fun _ H' => Q .non H', rt := Q } (L2.start Ng [.ref f]) H
def tLamS (T : List (Addr × Str)) (TT : (XK → Hp → VK → Prop) → Hp → VK → XK → Prop) (W : WX) (t : XK → TE) : TE := fun σ H Q => Tabs T H ∧ ∀ H1, ExtN H H1 → Tabs T H1 → TT (fun E H' Q' => t E σ H' Q') H1 Q (WE W σ)
section
variable {X : Cx}
/-- x(lambda: body) -/
theorem pe_lamS {W : WX} {T : List (Addr × Str)} {TT : (XK → Hp → VK → Prop) → Hp → VK → XK → Prop} {x a : Str} {gA c P : Addr} {k : Nat} {pg : Arguments} {bg : List Stmt} {sg : Scope} {dV kV doc pm cdv ct oc : Value} {an od : Option Addr} {osl : Array (Option Value)} {Ng : List Str}
    {params : Arguments} {body : Expr} {scope : Scope} {t : XK → TE} {p lpos pos : Pos} (tk : Takes X W) (hg : Gl X x) (hm : X.mg x = some (.ref gA)) (hk : PySem.W.keepIn X.K (.ref gA) = true)
    (lk : X.K.lookup gA = some ⟨oc, od, .func (PySem.W.fnOf x x pg bg sg dV kV doc pm an cdv ct), osl⟩) (hcg : PySem.W.codeIn X.K cdv x = true) (hb : L2.Binds X.K (PySem.W.fnOf x x pg bg sg dV kV doc pm an cdv ct) [a] []) (Sg : FnScope Ng [a] sg) (hNg : Ng[0]? = some a) (hva : Vis sg a)
    (hG : GivesT X Ng x sg gA cdv bg a (X.env.qual ++ "<lambda>") TT)
    (TB : TabB X.base X.mg c P) (hcode : X.env.code = .ref c) (hmT : (P, X.env.qual ++ "<lambda>") ∈ T) (hu : ∀ p ∈ T, p.1 = P → p.2 = X.env.qual ++ "<lambda>") (hr : Room (k + 2) X.A) (L : LamS X.env.scope scope) (hdef : defaultsOf params X.env = ([], []))
    (hbind : ∀ (q : Str) (cl : List (Str × Addr)) (pm cv ctv : Value), bindArgs (PySem.W.kla_fn "<lambda>" q params body scope cl pm cv ctv) ⟨[], []⟩ = pure [])
    (hbody : ∀ (A : Around) (outer : List PySem.Env) (s : Shared) (H : Hp) (E : XK) (f c' : Addr), Room k (A.deeper (lamEnv X scope s.heap.objs.size f c')) → PE (lamCx X A outer s H E scope f c') body (t E))
    (hdb : (x == ("__debug__" : Str)) = false := by decide) (hd : (a == ("__debug__" : Str)) = false := by decide) (hcd : (a == ("__classdict__" : Str)) = false := by decide) :
    PE X (.Call (.Name x p) [.Lambda params body scope lpos] [] pos) (tLamS T TT W t) := by
  refine ⟨fun pins s σ H Q I h => ?_⟩
  obtain ⟨hT, h⟩ := h
  refine wpAny_Call_Name_kw (ld_glob I hg hm ?_ hdb)
  refine PySem.W.callWith_K (h₀ := X.base) I.ok.mod.kin hk ?_ (by rfl) (by rfl)
  show wpAny _ _ (spliced ((false, eval (.Lambda params body scope lpos) X.env) :: backTo pos (starEach [] X.env))) _ _ s
  refine Calls.spliced_cons (lam_make2 I TB hcode hmT hu hT hdef (L.has I.ok) fun f c' pm' ctv H1 s' I1 eN T1 hf hfn hfr hco => ?_)
  refine Calls.spliced_nil ⟨I1.kIn, ?_⟩
  have rc : codeAny (model X.prog X.w) X.A (.call (.ref gA) ⟨[.ref f], []⟩) (CR (L2.CX X.prog X.w) X.stack X.prog X.w H1 s' Q (WE W σ)) s' := by
    refine run_ofS (N := Ng) (ps := [a]) (us := [.ref f]) (vs := [.ref f]) lk hcg Sg hr I1.env0 (hb s' [.ref f] I1.kIn rfl) (.cons rfl .nil) rfl fun hr' => ?_
    exact hG f c' s' H1 Q (WE W σ) (fun E H' Q' => t E σ H' Q') (fun W' pn xe p1 p2 tk' => pe_actS (i := 0) I1 L hf hfn hfr (hbind _ _ _ _ _) tk' hr' (fun A outer s H E hr2 => hbody A outer s H E f c' hr2) hNg hva hd hcd) hco (h H1 eN T1)
  refine wpAny_call (codeAny_mono rc fun r s2 hq => ?_)
  cases r with
  | error e => exact passAt tk σ pins H1 s' e s2 I1 hq
  | ok fl =>
    cases fl with
    | ret u => exact I1.after hq
    | next => exact False.elim hq
    | brk => exact False.elim hq
    | cont => exact False.elim hq
end
end DX
end

section
set_option Elab.async false
set_option linter.all false
set_option maxRecDepth 100000
set_option maxHeartbeats 4000000
namespace DL
open PySem PySem.Spec PyProof.Rows L2 DX LamX
/-! ### a lambda handed to a def -/
/-- what a call of the lambda does, wherever -/
def contract (g : G) (tl : XK → Hp → VK → Prop) (A : Addr → Prop) (H : Hp) (r : List D) (x : Option (Nat × List Str)) : Prop :=
  ∀ (A1 : Addr → Prop) (H1 : Hp), Kp A H A1 H1 → (∀ b, A1 b → ∃ o, H1 b = some o ∧ NC o) → Tabs g.T H1 → ∀ (Q : VK) (E : XK),
    (∀ d, x = none → r = [d] → ∀ v H2, Kp A1 H1 A1 H2 → (∀ b, A1 b → H2 b = H1 b) → Tabs g.T H2 → Rep g H2 A1 d v → Q v H2) →
    (∀ c ns, x = some (c, ns) → ∀ cls dd H2, Kp A1 H1 A1 H2 → (∀ b, A1 b → H2 b = H1 b) → Tabs g.T H2 → XRep g H2 A1 ⟨c, ns.zip r⟩ cls dd → E cls dd H2) → tl E H1 Q
def thk (g : G) (f c : Addr) (q : Str) (tl : XK → Hp → VK → Prop) : Thk := ⟨f, c, q, contract g tl, fun _ _ _ _ _ _ k h A1 H1 k1 => h A1 H1 (k.trans k1)⟩
abbrev G.thn (g : G) (t : Thk) : G := { g with th := some t }
theorem GE.thn {g : G} {t : Thk} : GE g (g.thn t) := ⟨rfl, rfl, rfl, rfl⟩
theorem RepF.swap {g g' : G} {H : Hp} {A : Addr → Prop} (h : GE g g') : ∀ {l : List (Str × D)} {r : List (Str × V)}, plainL (l.map (·.2)) = true → RepF g H A l r → RepF g' H A l r
  | [], _, _, q => q
  | (n, d) :: l, _, p, ⟨v, r, e, h1, h2⟩ => by
    simp only [List.map_cons, plainL, Bool.and_eq_true] at p
    exact ⟨v, r, e, Rep.swap h _ _ p.1 h1, RepF.swap h p.2 h2⟩
theorem XRep.swap {g g' : G} {H : Hp} {A : Addr → Prop} (h : GE g g') {x : Xc} {cls : Value} {d : Option Addr} (p : plainL (x.fs.map (·.2)) = true) (r : XRep g H A x cls d) : XRep g' H A x cls d :=
  ⟨by rw [← h.clA]; exact r.1, r.2.1, fun z => by
    obtain ⟨dd, fs, q1, q2, q3, q4⟩ := r.2.2 z
    exact ⟨dd, fs, q1, q2, q3, q4.swap h p⟩⟩
def thAt (e : Env) (i : Nat) : Option (List D × Option (Nat × List Str)) := match e[i]? with
  | some (some (.v (.th r x))) => some (r, x)
  | _ => none
theorem thAt_some {e : Env} {i r x} (h : thAt e i = some (r, x)) : e[i]? = some (some (.v (.th r x))) := by
  unfold thAt at h
  split at h
  · rename_i q; cases h; exact q
  · cases h
def actR (e : Env) : List D × Option (Nat × List Str) → R D
  | ([d], none) => if plainD d = true then .ok d e else .bad
  | (r, some (c, ns)) => if plainL ((ns.zip r).map (·.2)) = true then .exc ⟨c, ns.zip r⟩ e else .bad
  | _ => .bad
theorem actR_exc {e : Env} {r : List D} {c : Nat} {ns : List Str} : actR e (r, some (c, ns)) = if plainL ((ns.zip r).map (·.2)) = true then .exc ⟨c, ns.zip r⟩ e else .bad := by
  cases r with
  | nil => rfl
  | cons d r => cases r <;> rfl
def dAct (i : Nat) : Env → R D := fun e => bnd (opt (thAt e i) e) fun t e => actR e t
theorem Go.stay {g : G} {P ps e σ H H'} (s : StRel g P ps e σ H) (k : Kp (Av P e σ) H (Av P e σ) H') (pr : ∀ b, Av P e σ b → H' b = H b) (t : Tabs g.T H') : Go g P ps e σ H e σ H' :=
  ⟨s.kp k (fun a h => pr a (.inr h)) (fun a h => pr a (.inl h)) t, k, fun a h => pr a (.inl h)⟩
section
variable {g : G} {mp : List Nat} {X : Cx}
theorem de_act {f c' : Addr} {q a : Str} {tl : XK → Hp → VK → Prop} {p1 p2 : Pos} (act : ∀ W, Takes X W → PE X (.Call (.Name a p1) [] [] p2) (fun σZ HZ Q => σZ[0]? = some (some (.ref f)) ∧ HZ c' = some (CodeO c' q) ∧ tl (WE W σZ) HZ Q)) :
    DE (g.thn (thk g f c' q tl)) mp X (.Call (.Name a p1) [] [] p2) (dAct 0) := ⟨fun P ps W hp tk => pe_imp (act W tk) fun σ H Q h => by
  obtain ⟨e, s, h⟩ := tD_eq.mp h
  obtain ⟨⟨r, x⟩, q0, h⟩ := PR.optM s h
  obtain ⟨v, h1, t, h2, h3, ⟨nA, h4⟩, h5⟩ := s.vv 0 _ (thAt_some q0)
  cases h2
  rw [h3] at h1
  refine ⟨h1, h4, h5 (Av P e σ) H Kp.refl (fun b hb => Av.nc s hb) s.tb Q (WE W σ) (fun d ex er v' H2 k pr tb rv => ?_) fun c ns ex cls dd H2 k pr tb rx => ?_⟩
  · subst ex er
    have h : PR _ P ps W e σ H (if plainD d = true then R.ok d e else .bad) _ := h
    by_cases hp : plainD d = true
    · rw [if_pos hp] at h
      exact h H2 (Go.stay s k pr tb) v' (Rep.swap GE.thn _ _ hp rv)
    · rw [if_neg hp] at h
      exact h.elim
  · subst ex
    rw [actR_exc] at h
    by_cases hp : plainL ((ns.zip r).map (·.2)) = true
    · rw [if_pos hp] at h
      exact h cls dd H2 (Go.stay s k pr tb) (XRep.swap GE.thn hp rx)
    · rw [if_neg hp] at h
      exact h.elim⟩
end
/-- the result of the def that got the lambda -/
def ROKm (g : G) (A : Addr → Prop) (H : Hp) (r : RF) (Q : VK) (E : XK) : Prop := match r with
  | .ok (.v d) _ => plainD d = true ∧ ∀ v H', Kp A H A H' → (∀ b, A b → H' b = H b) → Tabs g.T H' → Rep g H' A d v → Q v H'
  | .ok (.m ds) _ => plainL ds = true ∧ ∀ v H', Kp A H A H' → (∀ b, A b → H' b = H b) → Tabs g.T H' → Rep g H' A (.lst ds) v → Q v H'
  | .exc x _ => plainL (x.fs.map (·.2)) = true ∧ ∀ cls d H', Kp A H A H' → (∀ b, A b → H' b = H b) → Tabs g.T H' → XRep g H' A x cls d → E cls d H'
  | .bad => False
def TTm (g : G) (n : Nat) (fm : Env → RS) : (XK → Hp → VK → Prop) → Hp → VK → XK → Prop := fun tl H Q E => ∃ A r x, contract g tl A H r x ∧ (∀ b, A b → ∃ o, H b = some o ∧ NC o) ∧ Tabs g.T H ∧ ROKm g A H (fin [] (fm (startE n [.v (.th r x)]))) Q E
section
variable {g : G} {X : Cx}
theorem gives_of {Ng : List Str} {x a q : Str} {sg : Scope} {gA : Addr} {cdg : Value} {bg : List Stmt} {fm : Env → RS}
    (body : ∀ (f c' : Addr) (s : Shared) (H : Hp) (E : XK) (tl : XK → Hp → VK → Prop),
      (∀ (W : WX) (pn : List (Addr × Obj)) (xe : Value → Shared → Prop) (p1 p2 : Pos), Takes ((cxOf (L2.CX X.prog X.w) X.prog X.w X.K X.mg X.base Ng x sg gA cdg X.A X.stack s H E).tr pn xe) W →
        PE ((cxOf (L2.CX X.prog X.w) X.prog X.w X.K X.mg X.base Ng x sg gA cdg X.A X.stack s H E).tr pn xe) (.Call (.Name a p1) [] [] p2) (fun σZ HZ Q => σZ[0]? = some (some (.ref f)) ∧ HZ c' = some (CodeO c' q) ∧ tl (WE W σZ) HZ Q)) →
      DSs (g.thn (thk g f c' q tl)) [] (cxOf (L2.CX X.prog X.w) X.prog X.w X.K X.mg X.base Ng x sg gA cdg X.A X.stack s H E) bg fm) :
    GivesT X Ng x sg gA cdg bg a q (TTm g Ng.length fm) := by
  intro f c' s H Q E tl act hco hTT
  obtain ⟨A, r, xx, hc, hA, hT, hR⟩ := hTT
  refine ⟨_, (body f c' s H E tl act).run A [] (fun cls d _ H' => E cls d H') rfl (takes_of rfl rfl rfl rfl), ?_⟩
  have noM : ∀ b, ¬ isM (startE Ng.length [.v (.th r xx)]) (L2.start Ng [.ref f]) b := fun b ⟨i, ds, h1, _⟩ => by
    have z := startE_get h1
    cases i with
    | zero => cases z
    | succ i => simp at z
  have sub : ∀ b, Av A (startE Ng.length [.v (.th r xx)]) (L2.start Ng [.ref f]) b → A b := fun b z => z.elim id fun z => (noM b z).elim
  have nA : ¬ A c' := fun z => by
    obtain ⟨o, q1, q2⟩ := hA c' z
    rw [hco] at q1
    exact q2.1 _ _ (Option.some.inj q1)
  have s0 : StRel (g.thn (thk g f c' q tl)) A [] (startE Ng.length [.v (.th r xx)]) (L2.start Ng [.ref f]) H := by
    refine ⟨by unfold startE L2.start; simp, fun i d h => ?_, fun i ds h => ?_, fun i j b ds es h1 => ?_, hA, (fun p hp => by cases hp), hT⟩
    · have z := startE_get h
      cases i with
      | zero =>
        cases z
        refine ⟨.ref f, start_of rfl, _, rfl, rfl, ⟨fun z => nA (sub _ z), hco⟩, ?_⟩
        exact (thk g f c' q tl).stable A H _ H r xx (fun b o q n => ⟨q, fun z => n.1 (sub b z)⟩) hc
      | succ i => simp at z
    · exact (by
        have z := startE_get h
        cases i with
        | zero => cases z
        | succ i => simp at z)
    · exact (by
        have z := startE_get h1
        cases i with
        | zero => cases z
        | succ i => simp at z)
  refine tS_eq.mpr ⟨_, s0, ?_⟩
  have toK : ∀ {e' : Env} {σ' : L2.St} {H' : Hp}, Go (g.thn (thk g f c' q tl)) A [] (startE Ng.length [.v (.th r xx)]) (L2.start Ng [.ref f]) H e' σ' H' → Kp A H A H' := fun go b o q n => ⟨(go.kp b o q ⟨fun z => n.1 (sub b z), n.2⟩).1, fun z => (go.kp b o q ⟨fun z => n.1 (sub b z), n.2⟩).2 (.inl z)⟩
  revert hR
  cases fm (startE Ng.length [.v (.th r xx)]) with
  | nx e' => exact fun hR σ' H' go => hR.2 .non H' (toK go) go.pr go.st.tb rfl
  | bk e' => exact fun hR => hR.elim
  | ct e' => exact fun hR => hR.elim
  | bad => exact fun hR => hR.elim
  | exc y e' => exact fun hR cls d σ' H' go rx => hR.2 cls d H' (toK go) go.pr go.st.tb (XRep.swap GE.thn.symm hR.1 (XRep.kp (fun b o q n => ⟨q, fun z => n.1 (.inl z)⟩) rx))
  | rt z e' => cases z with
    | v d => exact fun hR v σ' H' go rv => hR.2 v H' (toK go) go.pr go.st.tb (Rep.swap GE.thn.symm _ _ hR.1 (Rep.mono (fun b z => .inl z) rv))
    | m ds => exact fun hR b σ' H' gm => hR.2 (.ref b) H' (toK gm.go) gm.go.pr gm.go.st.tb (Rep.swap GE.thn.symm _ _ (by simpa [plainD] using hR.1) (Rep.mono (fun b z => .inl z) gm.rep))
end
/-! ### where the lambda is made -/
def hideE (e : Env) : Env := e.map fun s => match s with
  | some (.v d) => some (.v d)
  | _ => none
theorem hideE_get {e : Env} {i : Nat} {s : Slot} (h : (hideE e)[i]? = some (some s)) : e[i]? = some (some s) ∧ ∃ d, s = .v d := by
  unfold hideE at h
  rw [List.getElem?_map] at h
  cases q : e[i]? with
  | none => rw [q] at h; cases h
  | some o =>
    rw [q] at h
    cases o with
    | none => cases h
    | some sl => cases sl with
      | v d => cases h; exact ⟨rfl, d, rfl⟩
      | m ds => cases h
def dLam (fm : Env → RS) (n : Nat) (fl : Env → R D) : Env → R D := fun e => match tellsO (fl (hideE e)) with
  | none => .bad
  | some (r, x) => match fin [] (fm (startE n [.v (.th r x)])) with
    | .ok (.v d) _ => if plainD d = true then .ok d e else .bad
    | .ok (.m ds) _ => if plainL ds = true then .ok (.lst ds) e else .bad
    | .exc x _ => if plainL (x.fs.map (·.2)) = true then .exc x e else .bad
    | .bad => .bad
theorem zip_parts : ∀ l : List (Str × D), (l.map (·.1)).zip (l.map (·.2)) = l
  | [] => rfl
  | (a, b) :: l => by
    show (a, b) :: (l.map (·.1)).zip (l.map (·.2)) = _
    rw [zip_parts l]
section
variable {g : G} {mp : List Nat} {X : Cx} {P : Addr → Prop} {ps : List (Nat × Addr)} {e : Env} {σ : L2.St} {H : Hp}
theorem contract_of {fl : Env → R D} {r : List D} {x : Option (Nat × List Str)} (s : StRel g P ps e σ H) (h : tellsO (fl (hideE e)) = some (r, x)) :
    contract g (fun E H' Q' => ∃ P', tD g P' [] (fun cls d _ H' => E cls d H') fl σ H' Q') (Av P e σ) H r x := by
  intro A1 H1 k hA hT Q E hQ hE
  have noM : ∀ b, ¬ isM (hideE e) σ b := fun b ⟨i, ds, h1, _⟩ => by
    obtain ⟨_, d, z⟩ := hideE_get h1
    cases z
  have sub : ∀ b, Av A1 (hideE e) σ b → A1 b := fun b z => z.elim id fun z => (noM b z).elim
  have s1 : StRel g A1 [] (hideE e) σ H1 := by
    refine ⟨by unfold hideE; rw [List.length_map]; exact s.len, fun i d q => ?_, fun i ds q => ?_, fun i j b ds es h1 => ?_, hA, (fun p hp => by cases hp), hT⟩
    · obtain ⟨v, h1, h2⟩ := s.vv i d (hideE_get q).1
      exact ⟨v, h1, Rep.mono sub (Rep.kp k _ _ h2)⟩
    · obtain ⟨_, d, z⟩ := hideE_get q
      cases z
    · obtain ⟨_, d, z⟩ := hideE_get h1
      cases z
  refine ⟨A1, tD_of s1 ?_⟩
  have toK : ∀ {e' : Env} {H' : Hp}, Go g A1 [] (hideE e) σ H1 e' σ H' → Kp A1 H1 A1 H' := fun go b o q n => ⟨(go.kp b o q ⟨fun z => n.1 (sub b z), n.2⟩).1, fun z => (go.kp b o q ⟨fun z => n.1 (sub b z), n.2⟩).2 (.inl z)⟩
  revert h
  cases fl (hideE e) with
  | bad => exact fun h => by cases h
  | ok d e' =>
    intro h H2 go v rv
    cases h
    exact hQ d rfl rfl v H2 (toK go) go.pr go.st.tb (Rep.mono (fun b z => .inl z) rv)
  | exc y e' =>
    intro h cls dd H2 go rx
    cases h
    refine hE _ _ rfl cls dd H2 (toK go) go.pr go.st.tb ?_
    rw [zip_parts]
    exact XRep.kp (fun b o q n => ⟨q, fun z => n.1 (.inl z)⟩) rx
theorem de_lam {x a : Str} {st : Stmt} {gA c Pt : Addr} {k : Nat} {Ng : List Str} {fm : Env → RS} {fl : Env → R D} {params : Arguments} {body : Expr} {scope : Scope} {p lpos pos : Pos} {fd : FuncData}
    (hg : Gl X x) (hm : X.mg x = some (.ref gA)) (F : Fun X.K x x st gA fd) (hbA : ∀ (kV doc pm : Value) (an : Option Addr) (cdv ct : Value) (us : List Value), us.length = [a].length → bindArgs (PySem.W.fnOf x x (defArgs st) (defBody st) (defScope st) .none kV doc pm an cdv ct) ⟨us, []⟩ = pure ([a].zip us))
    (Sg : FnScope Ng [a] (defScope st)) (hNg : Ng[0]? = some a) (hva : Vis (defScope st) a)
    (hG : ∀ cdg, GivesT X Ng x (defScope st) gA cdg (defBody st) a (X.env.qual ++ "<lambda>") (TTm g Ng.length fm))
    (TB : TabB X.base X.mg c Pt) (hcode : X.env.code = .ref c) (hmT : (Pt, X.env.qual ++ "<lambda>") ∈ g.T) (hu : ∀ p ∈ g.T, p.1 = Pt → p.2 = X.env.qual ++ "<lambda>") (hr : Room (k + 2) X.A) (L : LamS X.env.scope scope)
    (hbody : ∀ (A : Around) (outer : List PySem.Env) (s : Shared) (H : Hp) (E : XK) (f c' : Addr), Room k (A.deeper (lamEnv X scope s.heap.objs.size f c')) → DE g [] (lamCx X A outer s H E scope f c') body fl)
    (hbind : ∀ (q : Str) (cl : List (Str × Addr)) (pm cv ctv : Value), bindArgs (PySem.W.kla_fn "<lambda>" q params body scope cl pm cv ctv) ⟨[], []⟩ = pure [] := by intros; rfl) (hdef : defaultsOf params X.env = ([], []) := by rfl)
    (hdb : (x == ("__debug__" : Str)) = false := by decide) (hd : (a == ("__debug__" : Str)) = false := by decide) (hcd : (a == ("__classdict__" : Str)) = false := by decide) :
    DE g mp X (.Call (.Name x p) [.Lambda params body scope lpos] [] pos) (dLam fm Ng.length fl) := by
  have hkp := F.kp
  obtain ⟨oc, od, kV, doc, pm, an, cdv, ct, osl, rfl, lk, hcd'⟩ := F.ex
  refine ⟨fun P ps W hp tk => ?_⟩
  refine pe_imp (pe_lamS (W := W) (T := g.T) (TT := TTm g Ng.length fm) (t := fun E σ H Q => ∃ P', tD g P' [] (fun cls d _ H' => E cls d H') fl σ H Q) tk hg hm hkp lk hcd' (F.binds hbA) Sg hNg hva (hG cdv) TB hcode hmT hu hr L hdef hbind
    (fun A outer s H E f c' hr2 => ⟨fun pins s' σ' H' Q' I ⟨P', z⟩ => ((hbody A outer s H E f c' hr2).run P' [] _ rfl (takes_of rfl rfl rfl rfl)).run pins s' σ' H' Q' I z⟩) hdb hd hcd) fun σ H Q h => ?_
  obtain ⟨e, s, h⟩ := tD_eq.mp h
  refine ⟨s.tb, fun H1 eN T1 => ?_⟩
  unfold dLam at h
  cases ht : tellsO (fl (hideE e)) with
  | none => rw [ht] at h; exact h.elim
  | some rx =>
  obtain ⟨r, xx⟩ := rx
  rw [ht] at h
  have kN : Kp (Av P e σ) H (Av P e σ) H1 := fun b o q n => ⟨eN b o q n.2, n.1⟩
  have same : ∀ b, Av P e σ b → H1 b = H b := fun b hb => by
    obtain ⟨o, q1, q2⟩ := Av.nc s hb
    rw [q1, eN b o q1 q2.2]
  refine ⟨Av P e σ, r, xx, (thk g 0 0 "" _).stable _ _ _ _ _ _ kN (contract_of s ht), fun b hb => ?_, T1, ?_⟩
  · obtain ⟨o, q1, q2⟩ := Av.nc s hb
    exact ⟨o, by rw [same b hb]; exact q1, q2⟩
  have go : ∀ {H' : Hp}, Kp (Av P e σ) H1 (Av P e σ) H' → (∀ b, Av P e σ b → H' b = H1 b) → Tabs g.T H' → Go g P ps e σ H e σ H' := fun k pr t => Go.stay s (kN.trans k) (fun b hb => (pr b hb).trans (same b hb)) t
  dsimp only at h
  revert h
  cases fin [] (fm (startE Ng.length [.v (.th r xx)])) with
  | bad => exact fun h => h
  | exc y outs =>
    intro h
    by_cases hp : plainL (y.fs.map (·.2)) = true
    · simp only [hp, if_true] at h
      exact ⟨hp, fun cls d H' k pr t rx => h cls d H' (go k pr t) rx⟩
    · simp only [hp, if_false] at h
      exact h.elim
  | ok sl outs => cases sl with
    | v d =>
      intro h
      by_cases hp : plainD d = true
      · simp only [hp, if_true] at h
        exact ⟨hp, fun v H' k pr t rv => h H' (go k pr t) v rv⟩
      · simp only [hp, if_false] at h
        exact h.elim
    | m ds =>
      intro h
      by_cases hp : plainL ds = true
      · simp only [hp, if_true] at h
        exact ⟨hp, fun v H' k pr t rv => h H' (go k pr t) v rv⟩
      · simp only [hp, if_false] at h
        exact h.elim
end
end DL
end

section
set_option Elab.async false
set_option linter.all false
set_option maxRecDepth 100000
set_option maxHeartbeats 4000000
namespace DL
open PySem PySem.Spec PyProof.Rows L2 DX LamX
theorem hfn_of {g : G} {Pr : Program} {w : World} {mg : Str → Option Value} {base : Heap} {k n m : Nat} {x : Str} {st : Stmt} {mp : List Nat} {F : List Slot → RF} (h : DefAt g mg n x st) (hd : Dfn g Pr w g.K mg base k x m mp F) : Hfn g Pr w g.K mg base k n m mp F := by
  obtain ⟨fd, F1, hm⟩ := h.ex
  obtain ⟨f, fd', pn, N, h1, h2, h3, h4⟩ := hd.ex
  rw [hm] at h2
  cases h2
  exact ⟨fd', pn, N, h1, h3, h4⟩
theorem Hfn.mono {g : G} {Pr : Program} {w : World} {K : PySem.W.Frag} {mg : Str → Option Value} {base : Heap} {k k' n m : Nat} {mp : List Nat} {F : List Slot → RF} (h : Hfn g Pr w K mg base k n m mp F) (hk : k ≤ k') : Hfn g Pr w K mg base k' n m mp F := by
  obtain ⟨fd, pn, N, h1, h2⟩ := h.ex
  exact ⟨fd, pn, N, h1.mono hk, h2⟩
theorem Dfn.g {g : G} {Pr : Program} {w : World} {K : PySem.W.Frag} {mg : Str → Option Value} {base : Heap} {k m : Nat} {x : Str} {mp : List Nat} {F : List Slot → RF} (h : Dfn g Pr w K mg base k x m mp F) : DfnG g Pr w K mg base k x m mp F := by
  obtain ⟨f, fd, pn, N, h1, h2⟩ := h.ex
  exact ⟨f, fd, pn, N, fnG_of h1, h2⟩
/-- a def that makes lambdas: its code object -/
structure DefAtL (g : G) (mg : Str → Option Value) (n : Nat) (x : Str) (st : Stmt) (cc : Addr) : Prop where
  ex : ∃ (oc : Value) (od : Option Addr) (kV doc pm : Value) (an : Option Addr) (ct : Value) (osl : Array (Option Value)), g.K.lookup (g.fnA n) = some ⟨oc, od, .func (PySem.W.fnOf x x (defArgs st) (defBody st) (defScope st) .none kV doc pm an (.ref cc) ct), osl⟩ ∧ PySem.W.codeIn g.K (.ref cc) x = true
  kp : PySem.W.keepIn g.K (.ref (g.fnA n)) = true
  at_ : mg x = some (.ref (g.fnA n))
/-- the law's def: what it promises -/
theorem law_mk {n : Nat} {g : G} {Pr : Program} {w : World} {mg : Str → Option Value} {base : Heap} {x y : Str} {st : Stmt} {N : List Str} {k : Nat} {fb : Env → RS} {cc : Addr} (h : DefAtL g mg n x st cc) (S : FnScope N [y] (defScope st))
    (hb : ∀ (kV doc pm : Value) (an : Option Addr) (cdv ct : Value) (us : List Value), us.length = [y].length → bindArgs (PySem.W.fnOf x x (defArgs st) (defBody st) (defScope st) .none kV doc pm an cdv ct) ⟨us, []⟩ = pure ([y].zip us))
    (hbody : ∀ (f : Addr) (A : Around) (outer : List PySem.Env) (s : Shared) (H : Hp) (E : XK), Room k (A.deeper (envOfC x (defScope st) s.heap.objs.size f (.ref cc))) → (A.deeper (envOfC x (defScope st) s.heap.objs.size f (.ref cc))).guards = some [] →
      DSs g [] (cxOf (L2.CX Pr w) Pr w g.K mg base N x (defScope st) f (.ref cc) A outer s H E) (defBody st) fb) :
    ∀ (fd : FuncData) (oc2 : Value) (od2 : Option Addr) (osl2 : Array (Option Value)), g.K.lookup (g.fnA n) = some ⟨oc2, od2, .func fd, osl2⟩ → FnG Pr w g.K mg base (L2.CX Pr w) (k + 1) (g.fnA n) fd [y] (spD g N [] 1 fun ss => fin [] (fb (startE N.length ss))) ∧ (∀ (s : Shared) (u : Value), BindsTo s fd ⟨[u], []⟩ [(y, u)]) := by
  intro fd oc2 od2 osl2 lk2
  obtain ⟨oc, od, kV, doc, pm, an, ct, osl, lk, hcd⟩ := h.ex
  rw [lk] at lk2
  cases lk2
  refine ⟨⟨fun vs H Q E h => h.1, fun A outer s H args us vs Q E hr hgd e0 hbt r hsp => ?_⟩, fun s u => ?_⟩
  · refine LamX.run_ofS (N := N) (ps := [y]) lk hcd S hr e0 hbt r hsp.1 fun hr' => ?_
    obtain ⟨_, P, ps, ss, hm, hl, st', hA, hR⟩ := hsp
    refine ⟨_, (hbody _ A outer s H E hr' (gd_deeper hgd)).run P ps (fun cls d _ H' => E cls d H') hm (takes_of rfl rfl rfl rfl), ?_⟩
    refine tS_eq.mpr ⟨_, st', ?_⟩
    replace hR : ROK g P ps H (fin [] (fb (startE N.length ss))) Q E := hR
    revert hR
    cases fb (startE N.length ss) with
    | nx e' => exact fun hR σ' H' go => hR .non H' (go.after hm hA) rfl
    | rt z e' => cases z with
      | v d => exact fun hR v σ' H' go rv => hR v H' (go.after hm hA) (Rep.mono (fun a z => go.st.ap z) rv)
      | m ds => exact fun hR a σ' H' gm => hR a H' (gm.after hm hA)
    | bk e' => exact fun hR => hR.elim
    | ct e' => exact fun hR => hR.elim
    | exc y e' => exact fun hR cls d σ' H' go rx => hR cls d H' (go.after hm hA) (XRep.kp (fun b o q n => ⟨q, fun z => n.1 (go.st.ap z)⟩) rx)
    | bad => exact fun hR => hR.elim
  · exact .of_eq (hb kV doc pm an (.ref cc) ct [u] rfl)
end DL
namespace DX
open PySem PySem.Spec PyProof.Rows L2 LamX
/-- the law's call, from the caller under whom no repr is under way -/
theorem law_callG {P : Program} {w : World} {K : PySem.W.Frag} {mg mb : Str → Option Value} {CX : CXT} {k : Nat} {fa a : Addr} {cs : List (Addr × Addr)} {fd : FuncData} {x : Str} {sp : Sp} {s₁ : Shared} {vs : List Value} {ns : List Int}
    (KX : K.In s₁.heap) (hns : s₁.heap.Ns mainGlobals mg) (hb : s₁.heap.Ns builtinsNs mb) (hbb : ∀ x : Str, x ≠ "__name__" → mb x = bootBuiltins x) (hlim : s₁.heap.NoLimit) (hg : s₁.gens = #[])
    (hT : ∀ p ∈ cs, s₁.heap.get? p.2 = some { cls := .none, data := .fields #[] }) (nT : ∀ p ∈ cs, K.lookup p.2 = none) (C : ∀ p ∈ cs, PySem.W.CodeHd s₁.heap p.1 p.2)
    (hbm : ∃ (bm : Addr) (ob : Obj), mg "__builtins__" = some (.ref bm) ∧ bm ≠ builtinsNs ∧ s₁.heap.get? bm = some ob ∧ ob.cls = .type "module" ∧ ob.dict = some builtinsNs ∧ ob.data = .plain)
    (ha : s₁.heap.get? a = some { cls := .type "list", data := .seq vs.toArray }) (hi : IntsAre vs ns) (hl : ns.length ≤ sizeLine) (hr : Room k callerA)
    (F : ∀ base : Heap, K.In base → base.Ns mainGlobals mg → (∀ p ∈ cs, TabB base mg p.1 p.2) → FnG P w K mg base CX k fa fd [x] sp) (hbind : ∀ (s : Shared) (u : Value), BindsTo s fd ⟨[u], []⟩ [(x, u)])
    (hsp : ∀ H : Hp, (∀ p ∈ cs, H p.2 = some (.tbl #[])) → SqL K H a (ns.map V.int) → sp [.ref a] H (fun v _ => v = .bl true) fun _ _ _ => False)
    (hCX : ∀ H e s', CX [] H s₁ (fun _ _ _ => False) e s' → False) :
    codeAny (model P w) callerA (.call (.ref fa) ⟨[.ref a], []⟩) (fun r s' => r = .ok (.ret (.bool true)) ∧ OldK s₁.heap s'.heap ∧ s'.os = s₁.os ∧ AllBare s'.gens) s₁ := by
  have rv := vals_ints hi
  have lenV := hi.length
  have isT : ∀ b : Addr, b ∈ cs.map (·.2) → s₁.heap.get? b = some { cls := .none, data := .fields #[] } := fun b hb => by
    obtain ⟨p, hp, e⟩ := List.mem_map.mp hb
    rw [← e]
    exact hT p hp
  have aT : a ∉ cs.map (·.2) := fun z => by
    have q := isT a z
    rw [ha] at q
    have z' : Data.seq vs.toArray _ = Data.fields #[] := congrArg Obj.data (Option.some.inj q)
    cases z'
  have memT : ∀ p ∈ cs, p.2 ∈ cs.map (·.2) := fun p hp => List.mem_map.mpr ⟨p, hp, rfl⟩
  have core : ∀ H : Hp, (∀ p ∈ cs, H p.2 = some (.tbl #[])) → (∀ b, H b = none ∨ b ∈ cs.map (·.2) ∨ ∃ o xs, H b = some (.frz o (.lst xs))) → SqL K H a (ns.map V.int) → HOk P w H s₁.heap → (∀ b, H b ≠ none → b = a ∨ b ∈ cs.map (·.2)) → (H a ≠ none → K.lookup a = none) →
      codeAny (model P w) callerA (.call (.ref fa) ⟨[.ref a], []⟩) (fun r s' => r = .ok (.ret (.bool true)) ∧ OldK s₁.heap s'.heap ∧ s'.os = s₁.os ∧ AllBare s'.gens) s₁ := by
    intro H hH hO hS hok hA hK
    have base_of : ∀ {b : Addr} {o : Obj}, s₁.heap.get? b = some o → H b = none → (hidT s₁.heap H).get? b = some o := fun e n => hidT_get e n
    have noD : ∀ {b : Addr} {o : Obj}, s₁.heap.get? b = some o → (∀ vs n, o.data ≠ .seq vs n) → o.data ≠ .fields #[] → H b = none := fun {b o} e h1 h2 => by
      cases q : H b with
      | none => rfl
      | some u =>
        rcases hA b (by rw [q]; simp) with e' | e'
        · rw [e', ha] at e
          cases e
          exact (h1 _ _ rfl).elim
        · rw [isT b e'] at e
          cases e
          exact (h2 rfl).elim
    have noA : ∀ {b : Addr} {o : Obj} {es : Array DictEntry} {ep : Nat}, s₁.heap.get? b = some o → o.data = .dict es ep → H b = none := fun {b o es ep} e d => by
      refine noD e (fun vs n z => ?_) fun z => ?_
      · rw [d] at z
        cases z
      · rw [d] at z
        cases z
    have nsK : ∀ {b : Addr} {m : Str → Option Value}, s₁.heap.Ns b m → (hidT s₁.heap H).Ns b m := fun {b m} ⟨o, es, ep, e, d, r⟩ => ⟨o, es, ep, base_of e (noA e d), d, r⟩
    have hKb : K.In (hidT s₁.heap H) := fun b o e => base_of (KX b o e) (by
      cases q : H b with
      | none => rfl
      | some u =>
        rcases hA b (by rw [q]; simp) with e' | e'
        · rw [e'] at e q
          rw [hK (by rw [q]; simp)] at e
          cases e
        · obtain ⟨p, hp, ep⟩ := List.mem_map.mp e'
          rw [← ep, nT p hp] at e
          cases e)
    have hM : L2.Mod K mg (hidT s₁.heap H) := ⟨hKb, nsK hns, ⟨mb, nsK hb, hbb⟩, let ⟨mc, h1, h2⟩ := hlim; ⟨mc, nsK h1, h2⟩⟩
    have TB : ∀ p ∈ cs, TabB (hidT s₁.heap H) mg p.1 p.2 := fun p hp => by
      have hTp := hT p hp
      refine ⟨?_, ?_, fun z => ?_⟩
      · obtain ⟨o, us, file, tf, flags, tg, inF, text, tt, e1, r1, r2, r3, r4, r5, r6, r7, r8, hne⟩ := C p hp
        refine ⟨o, us, file, tf, flags, tg, inF, text, tt, base_of e1 (noD e1 (fun vs n z => ?_) fun z => ?_), r1, r2, r3, r4, r5, r6, r7, r8, hne⟩
        · rw [r2] at z
          cases z
        · rw [r2] at z
          cases z
          simp at r3
      · obtain ⟨bm, ob, b1, b2, b3, b4, b5, b6⟩ := hbm
        have nG : bm ≠ mainGlobals := fun q => by
          obtain ⟨o, es, ep, e, hd, _⟩ := hns
          rw [q, e] at b3
          cases b3
          rw [hd] at b6
          cases b6
        have nP : bm ≠ p.2 := fun q => by
          rw [q, hTp] at b3
          cases b3
          cases b6
        refine ⟨bm, ob, b1, b2, nG, nP, base_of b3 (noD b3 (fun vs n z => ?_) fun z => ?_), b4, b5, b6⟩
        · rw [b6] at z
          cases z
        · rw [b6] at z
          cases z
      · obtain ⟨o, es, ep, e, hd, _⟩ := hns
        rw [z, hTp] at e
        cases e
        cases hd
    have e0 : Env0 P w K mg (hidT s₁.heap H) callerA [] s₁ H := ⟨rfl, hM, fun b o e => of_hidT e, Nat.le_of_eq (hidT_size _ _), trivial, fun b hb => absurd (show b ∈ ([] : List Addr) from hb) (by simp), hok, .of_eq hg⟩
    refine codeAny_mono ((F _ hKb (nsK hns) TB).run callerA [] s₁ H ⟨[.ref a], []⟩ [.ref a] [.ref a] _ _ hr rfl e0 (hbind s₁ (.ref a)) (.cons rfl .nil) (hsp H hH hS)) fun r s' h => ?_
    cases r with
    | error e => exact (hCX H e s' h).elim
    | ok fl =>
      cases fl with
      | next => exact False.elim h
      | brk => exact False.elim h
      | cont => exact False.elim h
      | ret u =>
        obtain ⟨v, H', os, bare, un, hok', r', q⟩ := h
        have q' : v = .bl true := q
        subst q'
        obtain rfl : u = Value.bool true := r'
        have key : ∀ b o, b ∉ cs.map (·.2) → s₁.heap.get? b = some o → s'.heap.get? b = some o := fun b o nb e => by
          cases q : H b with
          | none => exact un.keep b o e q (by intro z; exact absurd (show b ∈ ([] : List Addr) from z) (by simp)) (by simp)
          | some u =>
            rcases hO b with z | z | ⟨ob, xs, z⟩
            · rw [q] at z; cases z
            · exact absurd z nb
            · have z2 := un.frzs b ob _ z
              obtain ⟨e1, _⟩ := hok b _ z
              obtain ⟨e2, _⟩ := hok' b _ z2
              rw [e] at e1; cases e1
              exact e2
        have grown : ∀ p ∈ cs, ∃ more : Array Value, s'.heap.get? p.2 = some { cls := .none, data := .fields more } := fun p hp => by
          obtain ⟨more, z⟩ := un.tbls p.2 #[] (hH p hp)
          exact ⟨_, hok' p.2 _ z⟩
        refine ⟨rfl, ⟨fun b o e => ?_, fun b o e => ?_⟩, os, bare⟩
        · by_cases hb : b ∈ cs.map (·.2)
          · obtain ⟨p, hp, ep⟩ := List.mem_map.mp hb
            obtain ⟨more, hm⟩ := grown p hp
            rw [← ep] at e ⊢
            rw [hT p hp] at e
            cases e
            exact .inr (.inl ⟨((C p hp).tab (hT p hp)).isCodeTable, rfl, #[], more, rfl, by rw [Array.empty_append]; exact hm⟩)
          · exact .inl (key b o hb e)
        · by_cases hb : b ∈ cs.map (·.2)
          · obtain ⟨p, hp, ep⟩ := List.mem_map.mp hb
            obtain ⟨more, hm⟩ := grown p hp
            rw [← ep]
            exact ⟨_, hm⟩
          · exact ⟨o, key b o hb e⟩
  cases hk : K.lookup a with
  | some o =>
    have e := KX a o hk
    rw [ha] at e
    cases e
    refine core (fun b => if b ∈ cs.map (·.2) then some (.tbl #[]) else none) (fun p hp => if_pos (memT p hp)) (fun b => ?_) (.inr ⟨_, vs.toArray, _, hk, rfl, rfl, rfl, by rw [List.size_toArray, lenV]; exact hl, by simpa using rv⟩) (fun b u z => ?_) (fun b z => ?_) fun z => absurd (show (if a ∈ cs.map (·.2) then some (HO.tbl #[]) else none) = none from if_neg aT) z
    · by_cases hb : b ∈ cs.map (·.2)
      · exact .inr (.inl hb)
      · exact .inl (if_neg hb)
    · by_cases hb : b ∈ cs.map (·.2)
      · have z' := (if_pos hb).symm.trans z
        cases z'
        exact isT b hb
      · have z' := (if_neg hb).symm.trans z
        cases z'
    · by_cases hb : b ∈ cs.map (·.2)
      · exact .inr hb
      · exact absurd (if_neg hb) z
  | none =>
    refine core (fun b => if b = a then some (.frz { cls := .type "list", data := .seq vs.toArray } (.lst (ns.map V.int))) else if b ∈ cs.map (·.2) then some (.tbl #[]) else none) (fun p hp => (if_neg (show ¬ p.2 = a from fun z => aT (by rw [← z]; exact memT p hp))).trans (if_pos (memT p hp))) (fun b => ?_)
      (.inl (.inr ⟨{ cls := .type "list", data := .seq vs.toArray }, if_pos rfl⟩)) (fun b u z => ?_) (fun b z => ?_) fun _ => hk
    · by_cases hb : b = a
      · exact .inr (.inr ⟨_, _, if_pos hb⟩)
      · by_cases hb2 : b ∈ cs.map (·.2)
        · exact .inr (.inl hb2)
        · exact .inl ((if_neg hb).trans (if_neg hb2))
    · by_cases hb : b = a
      · have z' := (if_pos hb).symm.trans z
        cases z'
        rw [hb]
        exact ⟨ha, by rw [List.length_map]; exact hl, vs, _, rv, ha⟩
      · have z1 := (if_neg hb).symm.trans z
        by_cases hb2 : b ∈ cs.map (·.2)
        · have z' := (if_pos hb2).symm.trans z1
          cases z'
          exact isT b hb2
        · have z' := (if_neg hb2).symm.trans z1
          cases z'
    · by_cases hb : b = a
      · exact .inl hb
      · by_cases hb2 : b ∈ cs.map (·.2)
        · exact .inr hb2
        · exact absurd ((if_neg hb).trans (if_neg hb2)) z
/-- what is known of the law's promise at the head's heap -/
def LawAtG (l : PySem.W.OpenLaw) (w : World) (K : PySem.W.Frag) (k n : Nat) (x : Str) (mg : Str → Option Value) (fa : Addr) (h : Heap) : Prop :=
  ∃ (fd : FuncData) (cs : List (Addr × Addr)) (sp : Sp), (∀ p ∈ cs, h.get? p.2 = some { cls := .none, data := .fields #[] }) ∧ (∀ p ∈ cs, K.lookup p.2 = none) ∧ (∀ p ∈ cs, PySem.W.CodeHd h p.1 p.2) ∧ (∀ (s : Shared) (u : Value), BindsTo s fd ⟨[u], []⟩ [(x, u)]) ∧
    (∀ (H : Hp) (a : Addr) (ns : List Int), ns.length ≤ n → (∀ z ∈ ns, Builtin.Int.intBits z ≤ 1048576) → (∀ p ∈ cs, H p.2 = some (.tbl #[])) → SqL K H a (ns.map V.int) → sp [.ref a] H (fun v _ => v = .bl true) fun _ _ _ => False) ∧
    ∀ base : Heap, K.In base → base.Ns mainGlobals mg → (∀ p ∈ cs, TabB base mg p.1 p.2) → FnG l.prog w K mg base (L2.CX l.prog w) k fa fd [x] sp
theorem walk_ofG {l : PySem.W.OpenLaw} {n k : Nat} {q : Program} {loose : List Str} {XP : (Str → Option Value) → Heap → Prop} {YP : World → Heap → Prop} {d : DefRec} {x : Str}
    (hn : l.most = some n) (hn2 : n ≤ sizeLine) (hdf : d.params.defaults = []) (hr : Room k callerA)
    (F : ∀ (w : World) (mg : Str → Option Value) (fa : Addr) (h : Heap), YP w h → h.Ns mainGlobals mg → mg d.name = some (.ref fa) → ∃ K : PySem.W.Frag, K.In h ∧ LawAtG l w K k n x mg fa h) :
    PySem.W.WalkO q loose XP YP l.row.toRowW d [] (fun f vs => PySem.call f vs) := by
  refine Att.attach_callB hn hdf fun w s₀ s₁ mg mb fa o pm cd doc a vs ns G Y ho hd hcd hmg hobj hints hlen hbits hg => ?_
  obtain ⟨K, KX, fd, cs, sp, hT, nT, C, hb, hsp, hF⟩ := F w mg fa _ Y G.T.g hmg
  refine law_callG KX G.T.g G.T.b G.T.builtins G.T.nolimit hg hT nT C G.T.bmain hobj hints (Nat.le_trans hlen hn2) hr hF hb (fun H hH hS => hsp H a ns hlen hbits hH hS) fun H e s' z => ?_
  obtain ⟨_, _, _, _, _, _, _, _, _, _, _, _, z⟩ := z
  exact z.elim
end DX
end

section
set_option Elab.async false
set_option linter.all false
set_option maxRecDepth 100000
set_option maxHeartbeats 4000000
/-! from the head's looks to the facts of the data layer -/
namespace DL
open PySem PySem.Spec PyProof.Rows L2 DX LamX
theorem ktab_no {K : PySem.W.Frag} {a : Addr} {P : Params} {ks : List Str} {z : Str} (h : He.dicW K a = some (He.keysIn P ks)) (hz : z ∉ ks) : PySem.W.nsIn K a z = some none := by
  unfold He.dicW at h
  cases q : K.lookup a with
  | none => rw [q] at h; cases h
  | some o =>
    obtain ⟨oc, od, dt, osl⟩ := o
    rw [q] at h
    cases oc with
    | type c =>
      cases od with
      | none =>
        cases dt with
        | dict es n =>
          have h1 : (match decide (c = "dict") && (osl.isEmpty && !(a == sysModules)) with
            | true => some (es.toList.map He.keyOf)
            | false => none) = some (He.keysIn P ks) := h
          cases y : decide (c = "dict") && (osl.isEmpty && !(a == sysModules)) with
          | false => rw [y] at h1; cases h1
          | true =>
            rw [y] at h1
            have h2 := Option.some.inj h1
            have key : ∀ e ∈ es.toList, ∃ k t, k ∈ ks ∧ e.key = .str k t := fun e he => by
              have m : He.keyOf e ∈ He.keysIn P ks := by rw [← h2]; exact List.mem_map_of_mem he
              obtain ⟨k, hk, e2⟩ := List.mem_map.mp m
              unfold He.keyOf at e2
              split at e2
              · rename_i x t ek
                have e3 : k = x := congrArg Prod.fst (Option.some.inj e2)
                exact ⟨k, t, hk, by rw [ek, e3]⟩
              · cases e2
            have nf : es.toList.find? (·.key.isStr z) = none := List.find?_eq_none.mpr fun e he w => by
              obtain ⟨k, t, hk, ek⟩ := key e he
              rw [ek] at w
              have : k = z := by
                have w : (k == z) = true := w
                exact eq_of_beq w
              exact hz (by rw [← this]; exact hk)
            have nr : es.toList.any (·.refKey) = false := by
              rw [List.any_eq_false]
              intro e he w
              obtain ⟨k, t, hk, ek⟩ := key e he
              unfold DictEntry.refKey at w
              rw [ek] at w
              cases w
            unfold PySem.W.nsIn
            rw [q]
            dsimp only
            rw [nf]
            dsimp only
            rw [nr]
            rfl
        | _ => cases h
      | some b => cases dt <;> cases h
    | _ => cases od <;> cases dt <;> cases h
theorem lookup_in {α : Type} {k : Nat} {v : α} : ∀ {l : List (Nat × α)}, l.lookup k = some v → (k, v) ∈ l
  | [], h => by cases h
  | (a, b) :: r, h => by
    rw [List.lookup_cons] at h
    cases e : (k == a) with
    | true =>
      rw [e] at h
      cases h
      rw [beq_iff_eq.mp e]
      exact List.mem_cons_self ..
    | false =>
      rw [e] at h
      exact List.mem_cons_of_mem _ (lookup_in h)
theorem lookup_inS {α : Type} {k : Str} {v : α} : ∀ {l : List (Str × α)}, l.lookup k = some v → (k, v) ∈ l
  | [], h => by cases h
  | (a, b) :: r, h => by
    rw [List.lookup_cons] at h
    cases e : (k == a) with
    | true =>
      rw [e] at h
      cases h
      rw [beq_iff_eq.mp e]
      exact List.mem_cons_self ..
    | false =>
      rw [e] at h
      exact List.mem_cons_of_mem _ (lookup_inS h)
theorem lookup_noS {α : Type} {k : Str} : ∀ {l : List (Str × α)}, l.lookup k = none → k ∉ l.map (·.1)
  | [], _ => by simp
  | (a, b) :: r, h => by
    rw [List.lookup_cons] at h
    cases e : (k == a) with
    | true => rw [e] at h; cases h
    | false =>
      rw [e] at h
      intro z
      rcases List.mem_cons.mp z with z | z
      · rw [show k = a from z] at e
        simp at e
      · exact lookup_noS h z
/-- the table of the top: keys in order, what they stand for -/
theorem ktab_of {g : G} {w : World} {d : Addr} {tab : List (Str × Nat)} (h : He.dicW g.K d = some (He.keysIn w.params (tab.map (·.1)))) (hv : (tab.all fun p => decide (PySem.W.nsIn g.K d p.1 = some (some (.ref (g.fnA p.2))))) = true) : KTab g w d tab :=
  ⟨He.dicW_ok h, fun z hz => ktab_no h (lookup_noS hz), fun z n hz => of_decide_eq_true (List.all_eq_true.mp hv _ (lookup_inS hz))⟩
theorem fun_ofD {K : PySem.W.Frag} {x q : Str} {st : Stmt} {f : Addr} {fd : FuncData} (F : FunD K x q (defArgs st) (defBody st) (defScope st) [] [] f fd) : Fun K x q st f fd := by
  obtain ⟨oc, od, dV, kV, doc, pm, an, cdv, ct, osl, e, lk, hcd, hd, _⟩ := F.ex
  have : dV = .none := by
    rcases hd with ⟨_, h⟩ | ⟨h, _⟩
    · exact h
    · exact (h rfl).elim
  subst this
  exact ⟨⟨oc, od, kV, doc, pm, an, cdv, ct, osl, e, lk, hcd⟩, F.kp⟩
theorem defAtL_of {g : G} {mg : Str → Option Value} {n : Nat} {x : Str} {st : Stmt} {fd : FuncData} (F : FunD g.K x x (defArgs st) (defBody st) (defScope st) [] [] (g.fnA n) fd) (hm : mg x = some (.ref (g.fnA n))) (hf : g.fnA n = He.fAd g.K (x, none)) : DefAtL g mg n x st (He.codeOf g.K (x, none)) := by
  obtain ⟨oc, od, dV, kV, doc, pm, an, cdv, ct, osl, e, lk, hcd, hd, _⟩ := F.ex
  have : dV = .none := by
    rcases hd with ⟨_, h⟩ | ⟨h, _⟩
    · exact h
    · exact (h rfl).elim
  subst this
  obtain ⟨c, rfl⟩ := He.codeIn_ref hcd
  rw [e] at lk
  have hc : He.codeOf g.K (x, none) = c := He.codeOf_eq (p := (x, none)) (by rw [← hf]; exact lk) rfl
  rw [hc]
  exact ⟨⟨oc, od, kV, doc, pm, an, ct, osl, lk, hcd⟩, F.kp, hm⟩
/-! ### Bool looks -/
def excCB (K : PySem.W.Frag) (D : Addr) : Bool := decide (PySem.W.findIn K (.ref D) "__getattribute__" = some (some (.builtin "BaseException.__getattribute__"))) && (decide (PySem.W.findIn K (.ref D) "__getattr__" = some none) && (decide (PySem.W.subIn K (.ref D) (.type "BaseException") = some true) && (PySem.W.hasDictIn K D &&
  (decide (PySem.W.findIn K (.ref D) "__class__" = some (some (.builtin "object.__class__"))) && (decide (PySem.W.specialIn K (.builtin "object.__class__") "__get__" = some (some (.builtin "getset_descriptor.__get__"))) && (decide (PySem.W.takesIn K (.builtin "object.__class__") = some true) && decide (PySem.W.mroIn K D (.type "object") = some true)))))))
theorem excCB_ok {K : PySem.W.Frag} {D : Addr} (h : excCB K D = true) : L2.ExcC K D := by
  unfold excCB at h
  simp only [Bool.and_eq_true, decide_eq_true_eq] at h
  obtain ⟨h1, h2, h3, h4, h5, h6, h7, h8⟩ := h
  exact ⟨h1, h2, h3, h4, h5, h6, h7, h8⟩
def oexTB (K : PySem.W.Frag) (C : Addr) (newId : String) (tl : List Value) : Bool := (match K.lookup C with
  | some ⟨.type c, _, .cls cd, sl⟩ => (match cd.mro, sl.toList with
    | .ref C' :: bm, [_, _, _, _, some (.builtin n), _] => decide (c = "type") && (C' == C && (decide (n = newId) && (!cd.hasDel && (cd.hasDict && refsT tl bm))))
    | _, _ => false)
  | _ => false) && (decide (PySem.W.findIn K (.ref C) "__setattr__" = some (some (.builtin "object.__setattr__"))) && (decide (PySem.W.subIn K (.ref C) (.type "BaseException") = some true) && (decide (PySem.W.typeIn K (.ref C) = some (.type "type")) && PySem.W.keepIn K (.ref C))))
theorem oexTB_ok {K : PySem.W.Frag} {C : Addr} {newId : String} {tl : List Value} (h : oexTB K C newId tl = true) : OexT K C newId tl := by
  unfold oexTB at h
  simp only [Bool.and_eq_true, decide_eq_true_eq] at h
  obtain ⟨h1, h2, h3, h4, h5⟩ := h
  refine ⟨?_, h2, h3, h4, h5⟩
  split at h1
  · rename_i c dd cd sl ho
    split at h1
    · rename_i C' bm k0 k1 k2 k3 n k5 hm hs
      simp only [Bool.and_eq_true, decide_eq_true_eq, beq_iff_eq, Bool.not_eq_true'] at h1
      obtain ⟨rfl, rfl, rfl, h6, h7, h8⟩ := h1
      obtain ⟨nm, bs, mro, ns, qn, hd, sn, sub, ab, col, del⟩ := cd
      dsimp only at hm h6 h7
      subst hm h6 h7
      have hsl : sl = #[k0, k1, k2, k3, some (.builtin n), k5] := by
        obtain ⟨l⟩ := sl
        simp only at hs
        rw [hs]
      subst hsl
      exact ⟨nm, qn, ns, bs, bm, sn, sub, ab, col, dd, k0, k1, k2, k3, k5, ho, h8⟩
    · cases h1
  · cases h1
theorem excV_of {g : G} {n : Nat} {x : Str} (h : (He.Fa.exc x).ok g.K = true) (e : g.clA n = He.ga g.K x) : ExcV g n := by
  obtain ⟨h1, h⟩ := He.ba (show (PySem.W.excIn g.K (He.ga g.K x) He.veBase "ValueError.__new__" && (PySem.W.keepIn g.K (.ref (He.ga g.K x)) && (decide (PySem.W.subIn g.K (.ref (He.ga g.K x)) (.type "BaseException") = some true) && decide (PySem.W.typeIn g.K (.ref (He.ga g.K x)) = some (.type "type"))))) = true from h)
  obtain ⟨h2, h⟩ := He.ba h
  obtain ⟨h3, h4⟩ := He.ba h
  rw [← e] at h1 h2 h3 h4
  exact ⟨h1, h2, of_decide_eq_true h3, of_decide_eq_true h4⟩
end DL
namespace DL
open PySem PySem.Spec PyProof.Rows L2 DX LamX
theorem vV_le (K : PySem.W.Frag) : PySem.W.findCls K (.type "LookupError") (.type "type") "__init__" = some (.val (.builtin "LookupError.__init__")) := by kernel_rfl
theorem ty_le : typeOf (.type "LookupError") = pure (.type "type") := by kernel_rfl
theorem vV_ve (K : PySem.W.Frag) : PySem.W.findCls K (.type "ValueError") (.type "type") "__init__" = some (.val (.builtin "ValueError.__init__")) := by kernel_rfl
theorem ty_ve : typeOf (.type "ValueError") = pure (.type "type") := by kernel_rfl
/-- C(LookupError) with __init__(self, y): LookupError.__init__(self, 'text'); self.f = y -/
theorem excF_le {g : G} {Pr : Program} {w : World} {mg : Str → Option Value} {base : Heap} {n : Nat} {fI : Addr} {qual f y : Str} {st : Stmt} {fd : FuncData} {txt : Str} {j : Nat} {p1 p2 p3 p4 p5 p6 p7 p8 p9 p10 : Pos}
    (h1 : oexTB g.K (g.clA n) "LookupError.__new__" leTail = true) (h2 : PySem.W.findIn g.K (.ref (g.clA n)) "__init__" = some (some (.ref fI))) (h3 : PySem.W.typeIn g.K (.ref fI) = some (.type "function")) (h4 : PySem.W.findIn g.K (.ref (g.clA n)) f = some none)
    (Fd : FunD g.K "__init__" qual (defArgs st) (defBody st) (defScope st) [] [] fI fd) (hm : mg "LookupError" = none) (S : FnScope [("self" : Str), y] [("self" : Str), y] (defScope st))
    (hst : defBody st = [.Expr (.Call (.Attribute (.Name "LookupError" p1) "__init__" p2) [.Name "self" p3, .Constant (.str txt) j p4] [] p5) p6, .Assign [.Attribute (.Name "self" p7) f p8] (.Name y p9) p10])
    (hb : ∀ (kV doc pm : Value) (an : Option Addr) (cdv ct : Value) (us : List Value), us.length = [("self" : Str), y].length → bindArgs (PySem.W.fnOf "__init__" qual (defArgs st) (defBody st) (defScope st) .none kV doc pm an cdv ct) ⟨us, []⟩ = pure ([("self" : Str), y].zip us))
    (hg : (defScope st).names.lookup ("LookupError" : Str) = some .globalImplicit) (h0 : Vis (defScope st) "self") (hy1 : Vis (defScope st) y) (hy : (y == ("__debug__" : Str)) = false) (hy2 : (y == ("__classdict__" : Str)) = false)
    (hline : ∀ env : PySem.Env, swapsWith (.Call (.Attribute (.Name "LookupError" p1) "__init__" p2) [.Name "self" p3, .Constant (.str txt) j p4] [] p5) none p6.line env = pure false)
    (hline2 : ∀ env : PySem.Env, env.kindOf y = (defScope st).names.lookup y → swapsWith (.Name y p9) (some (.Attribute (.Name "self" p7) f p8)) p10.line env = pure false)
    (hc : ∀ env : PySem.Env, ∃ pl : Sem Bool, eval (.Call (.Attribute (.Name "LookupError" p1) "__init__" p2) [.Name "self" p3, .Constant (.str txt) j p4] [] p5) env = (do
      let ov ← eval (.Name "LookupError" p1) env
      standAt p2.atName
      let (f, first) ← holding [ov] (getMethod ov "__init__" pl)
      callWith p5 f first (backTo p5 (starEach [.Name "self" p3, .Constant (.str txt) j p4] env)) (backToKw p5 (keywordEach [] env)))) : ExcF g Pr w mg base n f := by
  have Fn := fun_ofD Fd
  have OT := oexTB_ok h1
  exact ⟨"LookupError.__new__", leTail, "LookupError", "LookupError.__init__", fI, fd, ["self", y], OT, F.excBase_LookupError, h2, h3,
    init_ok Fn S hst OT tail_le F.excBase_LookupError hm (by decide +kernel) ty_le (vV_le _) (by decide) (by decide) (by decide +kernel) (by decide +kernel) h4 hg h0 hy1 hy hy2 hline hline2 hc, Fn.binds hb⟩
theorem ql_of {g : G} {H : Hp} {a : Addr} {vs : List V} (h : SqL g.K H a vs) : QL g H (fun _ => False) a vs := by
  rcases h with h | h
  · exact .inl ⟨fun z => z, h⟩
  · exact .inr h
/-- the law's promise at the script -/
theorem spec_of {g : G} {N : List Str} {F : List Slot → RF} {H : Hp} {a : Addr} {ns : List Int} (h : SqL g.K H a (ns.map V.int)) (hT : Tabs g.T H) (hF : F [.v (.lst (ns.map .int))] = .ok (.v (.bl true)) []) : spD g N [] 1 F [.ref a] H (fun v _ => v = .bl true) fun _ _ _ => False := by
  have noM : ∀ b, ¬ isM (startE N.length [.v (.lst (ns.map D.int))]) (L2.start N [.ref a]) b := fun b ⟨i, ds, h1, _⟩ => by
    have z := startE_get h1
    cases i with
    | zero => cases z
    | succ i => simp at z
  have sub : ∀ b, Av (fun _ => False) (startE N.length [.v (.lst (ns.map D.int))]) (L2.start N [.ref a]) b → (fun _ => False) b := fun b z => z.elim id fun z => (noM b z).elim
  refine ⟨rfl, fun _ => False, [], [.v (.lst (ns.map .int))], rfl, rfl, ⟨by unfold startE L2.start; simp, fun i d q => ?_, fun i ds q => ?_, fun i j b ds es q => ?_, fun b q => q.elim, (fun p hp => by cases hp), hT⟩, fun b z => (sub b z).elim, ?_⟩
  · have z := startE_get q
    cases i with
    | zero =>
      cases z
      exact ⟨.ref a, start_of rfl, a, _, rfl, (ql_of h).kp (fun b o q n => ⟨q, fun z => (sub b z).elim⟩), RepL.ints ns⟩
    | succ i => simp at z
  · have z := startE_get q
    cases i with
    | zero => cases z
    | succ i => simp at z
  · have z := startE_get q
    cases i with
    | zero => cases z
    | succ i => simp at z
  · rw [hF]
    exact fun v H' _ rv => rv
end DL
end

section
set_option Elab.async false
set_option linter.all false
set_option maxRecDepth 100000
set_option maxHeartbeats 4000000
/-! DlX: defs by fuel, enumerate and zip of lists and tuples, list.index and list.count. -/
namespace DX
open PySem PySem.Spec PyProof.Rows L2
theorem meets_enumB {v : Value} {o : Obj} {H : Heap → Prop} (B : Begins v o H) :
    Meets (Builtin.«enumerate.__new__» ⟨[.type "enumerate", v], []⟩) (fun _ R s => H s.heap ∧
      R (.ok (.ret (.ref (s.heap.push o).objs.size))) { s with heap := (s.heap.push o).push { cls := .type "enumerate", data := .fields #[.none, .bool false, .ref s.heap.objs.size, rawInt 0, .none, .none] } }) :=
  .of_wp fun prog w A R s h => by
    obtain ⟨hp, g, d, tk, os⟩ := s; obtain ⟨h1, h⟩ := h
    have hsb := sub_enumerate
    have q1 : ∀ {A' : Around} {E : Value → Shared → Prop} {Q : Value → Shared → Prop}, Q (.ref hp.objs.size) ⟨hp.push o, g, d, tk, os⟩ → wpAny (model prog w) A' (pyIter v) Q E ⟨hp, g, d, tk, os⟩ :=
      fun q => B.iter prog w _ _ ⟨hp, g, d, tk, os⟩ _ h1 q
    wp_walk using q1
    refine wpAny_stack_any fun st => wpAny_pure ?_
    split
    · rename_i c _ _ _ _ _
      cases (c == Value.type "enumerate")
      · wp_walk using q1
        exact ⟨_, rfl, h⟩
      · wp_walk using q1
        exact ⟨_, rfl, h⟩
    · wp_walk using q1
      exact ⟨_, rfl, h⟩
section
variable {prog : Program} {w : World} {A : Around} {E : Value → Shared → Prop} {s : Shared}
theorem enumB {v : Value} {o : Obj} {H : Heap → Prop} {Q : Value → Shared → Prop} (B : Begins v o H) (h1 : H s.heap)
    (h : ∀ h', IsEnum h' (s.heap.objs.size + 1) s.heap.objs.size 0 .none → h'.get? s.heap.objs.size = some o →
      (∀ b o, s.heap.get? b = some o → h'.get? b = some o) → Q (.ref (s.heap.objs.size + 1)) { s with heap := h' }) :
    wpAny (model prog w) A (call (.type "enumerate") [v]) Q E s := by
  refine callType_new F.called_enumerate (by decide) (F.typeCall_enumerate_1 _) (F.newCall_enumerate_1 _) (fun obj => F.args_object_init_2 obj _) F.entry_enumerate_new
    (meets_enumB B) ⟨h1, ?_⟩
  have hz : (s.heap.push o).objs.size = s.heap.objs.size + 1 := Heap.size_push ..
  show _ ∧ _
  rw [hz]
  have he : IsEnum ((s.heap.push o).push { cls := .type "enumerate", data := .fields #[.none, .bool false, .ref s.heap.objs.size, rawInt 0, .none, .none] }) (s.heap.objs.size + 1) s.heap.objs.size 0 .none := by
    have z := Heap.get?_push_size (s.heap.push o) (o := { cls := .type "enumerate", data := .fields #[.none, .bool false, .ref s.heap.objs.size, rawInt 0, .none, .none] }) rfl
    rw [hz] at z; exact z
  exact ⟨⟨_, he, rfl⟩, h _ he (Heap.get?_push_of_some _ (Heap.get?_push_size _ B.free)) fun b o x => Heap.get?_push_of_some _ (Heap.get?_push_of_some _ x)⟩
end
/-- an iterator that hands out new tuples, told by the library's walk over them -/
theorem turn_wt {P : Program} {w : World} {K : PySem.W.Frag} {elts : List Expr} {kk : Nat} {tpos : Pos} {J : It} {I : Addr} {fp : List Addr} {tn : Nat → Heap → Prop} (hmem : I ∈ fp)
    (hobj : ∀ i h, tn i h → ∀ b ∈ fp, ∃ o, h.get? b = some o ∧ ∀ v, o.data ≠ .cell v)
    (hkeep : ∀ i h h', tn i h → (∀ b ∈ fp, ∀ o, h.get? b = some o → h'.get? b = some o) → tn i h')
    (hself : ∀ (A : Around) (i : Nat) (s : Shared) (Q : Value → Shared → Prop) (E : Value → Shared → Prop), tn i s.heap → Q (.ref I) s → wpAny (model P w) A (pyIter (.ref I)) Q E s)
    (hgo : ∀ (X : Cx), X.prog = P → X.w = w → X.K = K → X.A.handled = none → ∀ (i : Nat) (pins : List (Addr × Obj)) (s : Shared) (σ : L2.St) (H : Hp), Inv X pins σ H s → tn i s.heap → J.go i H →
      ∃ n Pt St Mid fp' wr, (∀ b ∈ wr, b ∈ fp) ∧ WalksT X.prog X.w X.A I fp' wr n Pt St Mid ∧ i < n ∧ St i s.heap ∧ (∀ h, St (i + 1) h → tn (i + 1) h) ∧
        ∀ vals, Pt i vals → ∃ xs : List V, Vals xs vals.toList ∧ xs.length ≤ sizeLine ∧ ∀ T, H T = none → J.yld i H (.ref T) (upd H T (.tup xs)))
    (hstop : ∀ (X : Cx), X.prog = P → X.w = w → X.K = K → X.A.handled = none → ∀ (i : Nat) (pins : List (Addr × Obj)) (s : Shared) (σ : L2.St) (H : Hp), Inv X pins σ H s → tn i s.heap → J.stop i H →
      ∃ n Pt St Mid fp' wr, (∀ b ∈ wr, b ∈ fp) ∧ WalksT X.prog X.w X.A I fp' wr n Pt St Mid ∧ St n s.heap) :
    Turn P w K (.Tuple elts kk tpos) J fp I tn where
  mem := hmem
  obj := hobj
  keep := hkeep
  item := by
    intro X hP hw hK hc i pins s σ H E Iv hf st hg
    obtain ⟨n, Pt, St, Mid, fp', wr, hwr, W, hi, hSt, hnx, hrel⟩ := hgo X hP hw hK (Iv.ok.hd hc) i pins s σ H Iv st hg
    subst hP hw hK
    refine W.item i s _ E hi hSt fun T vals h' tk hPt hle hT hmid hk => ⟨_, rfl, ?_⟩
    refine W.go elts kk tpos i T { s with heap := h', toks := tk } _ E hmid fun h'' hSt' hk' => ?_
    obtain ⟨xs, hv, hl, hy⟩ := hrel vals hPt
    have hT2 : h''.IsTuple T vals := hT.at fun o q => hk' T o (W.apart _ _ _ hmid) q
    obtain ⟨⟨cls, dct, dt, sl⟩, hg2, hcls, nn, hdt⟩ := hT2
    simp only at hcls hdt
    subst hcls hdt
    have new : ObjOk X.prog X.w (upd H T (.tup xs)) h'' T (.tup xs) := ⟨hl, vals.toList, hv, ⟨_, hg2, rfl, _, rfl⟩⟩
    have I1 : Inv X pins σ (upd H T (.tup xs)) { s with heap := h'', toks := tk } :=
      Iv.turnedNew (ch := fp) (fun b ob hb q => hk' b ob (fun z => hb (hwr b z)) (hk b ob (fun z => hb (hwr b z)) q)) hf hle new
    refine ⟨.ref T, _, I1, rfl, hy T (Iv.hok.fresh hle), hnx _ hSt', fun b hb => ?_⟩
    obtain ⟨o, ho, _⟩ := hobj i s.heap st b hb
    rw [upd_ne (Nat.ne_of_lt (Nat.lt_of_lt_of_le (Heap.lt_size ho) hle))]
    exact (hf b hb).1
  done := by
    intro X hP hw hK hc i pins s σ H E Iv hf st hg
    obtain ⟨n, Pt, St, Mid, fp', wr, hwr, W, hSt⟩ := hstop X hP hw hK (Iv.ok.hd hc) i pins s σ H Iv st hg
    subst hP hw hK
    exact W.done s _ E hSt fun h' tk hk => ⟨rfl, Iv.turnedL (t' := tk) (ch := fp) (fun b o hb q => hk b o (fun z => hb (hwr b z)) q) hf⟩
  self := hself

/-! ### lists and tuples alike -/
def Sq2 (K : PySem.W.Frag) (t : Bool) (H : Hp) (a : Addr) (xs : List V) : Prop := match t with
  | true => SqT K H a xs
  | false => SqL K H a xs
def It2 (t : Bool) (h : Heap) (it a : Addr) (i : Nat) : Prop := match t with
  | true => h.IsTupleIter it a i
  | false => h.IsListIter it a i
def Is2 (t : Bool) (h : Heap) (a : Addr) (its : Array Value) : Prop := match t with
  | true => h.IsTuple a its
  | false => h.IsList a its
def ob2 (t : Bool) (a : Addr) : Obj := match t with
  | true => { cls := .type "tuple_iterator", data := .fields #[.ref a, .int 0 0] }
  | false => { cls := .type "list_iterator", data := .fields #[.ref a, .int 0 0] }
theorem begins2 (t : Bool) (a : Addr) (its : Array Value) : Begins (.ref a) (ob2 t a) (fun h => Is2 t h a its) := by
  cases t
  · exact begins_list a its
  · exact begins_tuple a its
theorem draws2 {prog : Program} {w : World} {A : Around} (hh : A.handled = none) (t : Bool) (it a : Addr) (hne : a ≠ it) (its : Array Value) :
    Draws prog w A it [it, a] its.size (fun i v => its[i]? = some v) (fun i h => It2 t h it a i ∧ Is2 t h a its) := by
  cases t
  · exact Draws.list hh it a hne its
  · exact Draws.tuple hh it a hne its
theorem It2.new {t : Bool} {h : Heap} {it a : Addr} (e : h.get? it = some (ob2 t a)) : It2 t h it a 0 := by
  cases t
  · exact ⟨_, e, rfl, rfl⟩
  · exact ⟨_, e, rfl, rfl⟩
theorem It2.at {t : Bool} {h h' : Heap} {it a : Addr} {i : Nat} (p : It2 t h it a i) (k : ∀ o, h.get? it = some o → h'.get? it = some o) : It2 t h' it a i := by
  cases t
  · obtain ⟨o, e, r⟩ := p; exact ⟨o, k o e, r⟩
  · obtain ⟨o, e, r⟩ := p; exact ⟨o, k o e, r⟩
theorem It2.obj {t : Bool} {h : Heap} {it a : Addr} {i : Nat} (p : It2 t h it a i) : ∃ o, h.get? it = some o ∧ ∀ v, o.data ≠ .cell v := by
  cases t
  · obtain ⟨o, e, _, d⟩ := p; exact ⟨o, e, fun v q => by rw [d] at q; cases q⟩
  · obtain ⟨o, e, _, d⟩ := p; exact ⟨o, e, fun v q => by rw [d] at q; cases q⟩
theorem Is2.lt {t : Bool} {h : Heap} {a : Addr} {its : Array Value} (p : Is2 t h a its) : a < h.objs.size := by
  cases t
  · obtain ⟨o, e, _⟩ := p; exact Heap.lt_size e
  · obtain ⟨o, e, _⟩ := p; exact Heap.lt_size e
theorem inv2 {X : Cx} {pins : List (Addr × Obj)} {σ : L2.St} {H : Hp} {s : Shared} (I : Inv X pins σ H s) {t : Bool} {a : Addr} {xs : List V} (h : Sq2 X.K t H a xs) : ∃ its : List Value, Vals xs its ∧ Is2 t s.heap a its.toArray := by
  cases t
  · obtain ⟨its, rv, p, _⟩ := I.list h; exact ⟨its, rv, p.isList⟩
  · obtain ⟨its, rv, p, _⟩ := I.tuple h; exact ⟨its, rv, p⟩
theorem inj2 {X : Cx} {pins : List (Addr × Obj)} {σ : L2.St} {H : Hp} {s : Shared} (I : Inv X pins σ H s) {t : Bool} {a : Addr} {xs ys : List V} (h : Sq2 X.K t H a xs) (h2 : Sq2 X.K t H a ys) : xs = ys := by
  cases t
  · exact I.list_inj h h2
  · exact I.tuple_inj h h2
theorem vals_get {xs : List V} {its : List Value} (rv : Vals xs its) {i : Nat} {v : Value} (h : its.toArray[i]? = some v) : ∃ x, xs[i]? = some x ∧ RelV x v := by
  have hl := rv.length
  have h' : its[i]? = some v := by simpa using h
  obtain ⟨hi, _⟩ := List.getElem?_eq_some_iff.mp h'
  have hx : xs[i]? = some (xs[i]'(by omega)) := List.getElem?_eq_getElem _
  obtain ⟨u, hu, ru⟩ := rv.get hx
  rw [h'] at hu
  cases hu
  exact ⟨_, hx, ru⟩

/-! ### enumerate -/
def IteA (K : PySem.W.Frag) (t : Bool) (a : Addr) : It :=
  ⟨fun i H => ∃ (xs : List V) (x : V), Sq2 K t H a xs ∧ xs[i]? = some x, fun i H v H' => ∃ T x, v = .ref T ∧ H T = none ∧ H' = upd H T (.tup [.int (i : Nat), x]) ∧ ∀ xs, Sq2 K t H a xs → xs[i]? = some x, fun i H => ∃ xs : List V, Sq2 K t H a xs ∧ xs.length = i⟩
theorem turn_enumA {P : Program} {w : World} {K : PySem.W.Frag} {elts : List Expr} {kk : Nat} {tpos : Pos} (t : Bool) (a e it : Addr) (hei : e ≠ it) (hea : e ≠ a) (hai : a ≠ it) :
    Turn P w K (.Tuple elts kk tpos) (IteA K t a) [e, it] e (fun i h => (∃ old, IsEnum h e it (0 + (i : Int)) old) ∧ It2 t h it a i) := by
  refine turn_wt (by simp) (fun i h st b hb => ?_) (fun i h h' st k => ⟨?_, st.2.at fun o q => k it (by simp) o q⟩) (fun A i s Q E st h => ?_) (fun X hP hw hK hh i pins s σ H I st hg => ?_) (fun X hP hw hK hh i pins s σ H I st hg => ?_)
  · obtain ⟨⟨old, he⟩, hi⟩ := st
    have e' : b = e ∨ b = it := by simpa using hb
    rcases e' with z | z
    · rw [z]; exact ⟨_, he, fun v q => nomatch q⟩
    · rw [z]; exact hi.obj
  · obtain ⟨⟨old, he⟩, _⟩ := st
    exact ⟨old, k e (by simp) _ he⟩
  · obtain ⟨⟨_, he⟩, _⟩ := st
    exact wpAny_pyIter_enum he h
  · subst hP hw hK
    obtain ⟨xs, x, hq, hx⟩ := hg
    obtain ⟨its, rv, p⟩ := inv2 I hq
    have hl := rv.length
    obtain ⟨hxi, _⟩ := List.getElem?_eq_some_iff.mp hx
    refine ⟨_, _, _, _, _, _, fun b hb => hb, WalksT.enumFrom 0 (draws2 (A := X.A.in1) hh t it a hai its.toArray) e hei (by simp [hei, hea]) (by simp), by simp; omega, ⟨st.1, st.2, p⟩, fun h q => ⟨q.1, q.2.1⟩, fun vals q => ?_⟩
    obtain ⟨tk, u, hu, rfl⟩ := q
    obtain ⟨x', hx', ru⟩ := vals_get rv hu
    rw [hx] at hx'
    cases hx'
    refine ⟨[.int (i : Nat), x], .cons ⟨tk, ?_⟩ (.cons ru .nil), by show 2 ≤ sizeLine; decide, fun T hT => ⟨T, x, rfl, hT, rfl, fun ys hy => by rw [inj2 I hy hq]; exact hx⟩⟩
    show Value.int (0 + (i : Int)) tk = Value.int (i : Int) tk
    rw [Int.zero_add]
  · subst hP hw hK
    obtain ⟨xs, hq, hx⟩ := hg
    obtain ⟨its, rv, p⟩ := inv2 I hq
    have hl := rv.length
    have hn : its.toArray.size = i := by simp; omega
    refine ⟨_, _, _, _, _, _, fun b hb => hb, WalksT.enumFrom 0 (draws2 (A := X.A.in1) hh t it a hai its.toArray) e hei (by simp [hei, hea]) (by simp), ?_⟩
    rw [hn]
    exact ⟨st.1, st.2, p⟩
def iEnumA (K : PySem.W.Frag) (ta : TA) : TI := fun σ H R => ta σ H fun vs H1 => ∃ t a xs, vs = [.ref a] ∧ Sq2 K t H1 a xs ∧ R (IteA K t a) H1
theorem pi_enumA {X : Cx} {e : Expr} {ta : TA} {p pos tpos : Pos} {elts : List Expr} {kk : Nat} (hg : Gl X "enumerate") (hm : X.mg "enumerate" = none) (ha : PA X [e] ta) (hs : starEach [e] X.env = [(false, eval e X.env)] := by rfl) :
    PI X (.Tuple elts kk tpos) (.Call (.Name "enumerate" p) [e] [] pos) (iEnumA X.K ta) := by
  refine ⟨fun pins s σ H R I h => ?_⟩
  refine Call_ (ld_blt I hg hm boot_enumerate (PyProof.Rows.callWith_type1 (thn (ha.run pos pins s σ H _ I h) fun us s1 ⟨vs, H1, I1, r1, q1⟩ => ?_) hs rfl))
  obtain ⟨t, a, xs, ex, hq, q⟩ := q1
  subst ex
  cases r1 with
  | cons r rr =>
    cases rr
    cases r
    obtain ⟨its, rv, p'⟩ := inv2 I1 hq
    have hlt := p'.lt
    refine enumB (begins2 t a its.toArray) p' fun h' he hit hk => wpAny_pyIter_enum he ?_
    have I2 : Inv X pins σ H1 { s1 with heap := h' } := I1.kept (t' := s1.toks) hk
    have ne1 : s1.heap.objs.size + 1 ≠ s1.heap.objs.size := Nat.succ_ne_self _
    refine ⟨s1.heap.objs.size + 1, [s1.heap.objs.size + 1, s1.heap.objs.size], _, _, H1, rfl, I2, turn_enumA t a (s1.heap.objs.size + 1) s1.heap.objs.size ne1 (Nat.ne_of_gt (Nat.lt_succ_of_lt hlt)) (Nat.ne_of_lt hlt), ⟨⟨.none, he⟩, It2.new hit⟩, fun b hb => ?_, q⟩
    have e' : b = s1.heap.objs.size + 1 ∨ b = s1.heap.objs.size := by simpa using hb
    have hle : s1.heap.objs.size ≤ b := by
      rcases e' with z | z
      · rw [z]; exact Nat.le_add_right _ _
      · rw [z]; exact Nat.le_refl _
    exact I1.fpOk hle (I1.hok.fresh hle)

/-! ### zip of two -/
def ItzA (K : PySem.W.Frag) (t u : Bool) (a b : Addr) : It :=
  ⟨fun i H => ∃ (xs ys : List V) (x y : V), Sq2 K t H a xs ∧ Sq2 K u H b ys ∧ xs[i]? = some x ∧ ys[i]? = some y,
    fun i H v H' => ∃ T x y, v = .ref T ∧ H T = none ∧ H' = upd H T (.tup [x, y]) ∧ (∀ xs, Sq2 K t H a xs → xs[i]? = some x) ∧ ∀ ys, Sq2 K u H b ys → ys[i]? = some y,
    fun i H => ∃ xs ys : List V, Sq2 K t H a xs ∧ Sq2 K u H b ys ∧ min xs.length ys.length = i⟩
theorem turn_zipA {P : Program} {w : World} {K : PySem.W.Frag} {elts : List Expr} {kk : Nat} {tpos : Pos} (t u : Bool) {a b z TI TO i1 i2 : Addr} (S : ZipSep2 z TI TO i1 i2 [i1, a] [i2, b]) (h1 : a ≠ i1) (h2 : b ≠ i2) :
    Turn P w K (.Tuple elts kk tpos) (ItzA K t u a b) [z, TI, TO, i1, i2] z (fun i h => IsZip h z TI TO .none ∧ IsTupOf2 h TI (.ref i1) (.ref i2) ∧ (∃ a1 a2, IsTupOf2 h TO a1 a2) ∧ It2 t h i1 a i ∧ It2 u h i2 b i) := by
  have hwr : ∀ c ∈ [z, TO, i1, i2], c ∈ [z, TI, TO, i1, i2] := fun c hc => by
    simp only [List.mem_cons, List.mem_nil_iff, or_false] at hc ⊢
    rcases hc with q | q | q | q
    · exact .inl q
    · exact .inr (.inr (.inl q))
    · exact .inr (.inr (.inr (.inl q)))
    · exact .inr (.inr (.inr (.inr q)))
  refine turn_wt (by simp) (fun i h st c hc => ?_) (fun i h h' st k => ?_) (fun A i s Q E st h => ?_) (fun X hP hw hK hh i pins s σ H I st hg => ?_) (fun X hP hw hK hh i pins s σ H I st hg => ?_)
  · obtain ⟨hz, hTI, ⟨x, y, hTO⟩, q1, q2⟩ := st
    have e' : c = z ∨ c = TI ∨ c = TO ∨ c = i1 ∨ c = i2 := by simpa using hc
    rcases e' with q | q | q | q | q
    · rw [q]; exact ⟨_, hz, fun v q => nomatch q⟩
    · rw [q]; exact ⟨_, hTI, fun v q => nomatch q⟩
    · rw [q]; exact ⟨_, hTO, fun v q => nomatch q⟩
    · rw [q]; exact q1.obj
    · rw [q]; exact q2.obj
  · obtain ⟨hz, hTI, ⟨x, y, hTO⟩, q1, q2⟩ := st
    exact ⟨k z (by simp) _ hz, k TI (by simp) _ hTI, ⟨x, y, k TO (by simp) _ hTO⟩, q1.at fun o q => k i1 (by simp) o q, q2.at fun o q => k i2 (by simp) o q⟩
  · exact wpAny_pyIter_zip st.1 h
  · subst hP hw hK
    obtain ⟨hz, hTI, hTO, q1, q2⟩ := st
    obtain ⟨xs, ys, x, y, hqx, hqy, hx, hy⟩ := hg
    obtain ⟨its, rv, p⟩ := inv2 I hqx
    obtain ⟨its2, rv2, p2⟩ := inv2 I hqy
    have hl := rv.length
    have hl2 := rv2.length
    obtain ⟨hxi, _⟩ := List.getElem?_eq_some_iff.mp hx
    obtain ⟨hyi, _⟩ := List.getElem?_eq_some_iff.mp hy
    refine ⟨_, _, _, _, _, _, hwr, WalksT.zipD2 S (draws2 (A := X.A.in1) hh t i1 a h1 its.toArray) (draws2 (A := X.A.in1) hh u i2 b h2 its2.toArray), by simp; omega, ⟨hz, hTI, hTO, ⟨q1, p⟩, ⟨q2, p2⟩⟩, fun h q => ⟨q.1, q.2.1, q.2.2.1, q.2.2.2.1.1, q.2.2.2.2.1⟩, fun vals q => ?_⟩
    obtain ⟨v1, v2, hv1, hv2, rfl⟩ := q
    obtain ⟨x', hx', r1⟩ := vals_get rv hv1
    obtain ⟨y', hy', r2⟩ := vals_get rv2 hv2
    rw [hx] at hx'
    rw [hy] at hy'
    cases hx'
    cases hy'
    exact ⟨[x, y], .cons r1 (.cons r2 .nil), by show 2 ≤ sizeLine; decide, fun T hT => ⟨T, x, y, rfl, hT, rfl, fun l hl => by rw [inj2 I hl hqx]; exact hx, fun l hl => by rw [inj2 I hl hqy]; exact hy⟩⟩
  · subst hP hw hK
    obtain ⟨hz, hTI, hTO, q1, q2⟩ := st
    obtain ⟨xs, ys, hqx, hqy, hend⟩ := hg
    obtain ⟨its, rv, p⟩ := inv2 I hqx
    obtain ⟨its2, rv2, p2⟩ := inv2 I hqy
    have hl := rv.length
    have hl2 := rv2.length
    have hn : min its.toArray.size its2.toArray.size = i := by simp; omega
    refine ⟨_, _, _, _, _, _, hwr, WalksT.zipD2 S (draws2 (A := X.A.in1) hh t i1 a h1 its.toArray) (draws2 (A := X.A.in1) hh u i2 b h2 its2.toArray), ?_⟩
    rw [hn]
    exact ⟨hz, hTI, hTO, ⟨q1, p⟩, ⟨q2, p2⟩⟩
def iZipA2 (K : PySem.W.Frag) (ta : TA) : TI := fun σ H R => ta σ H fun vs H1 => ∃ t u a b xs ys, vs = [.ref a, .ref b] ∧ Sq2 K t H1 a xs ∧ Sq2 K u H1 b ys ∧ R (ItzA K t u a b) H1
theorem pi_zipA2 {X : Cx} {e e2 : Expr} {ta : TA} {p pos tpos : Pos} {elts : List Expr} {kk : Nat} (hg : Gl X "zip") (hm : X.mg "zip" = none) (ha : PA X [e, e2] ta)
    (hs : starEach [e, e2] X.env = (false, eval e X.env) :: starEach [e2] X.env := by rfl) (hpl : (backTo pos (starEach [e2] X.env)).any (·.1) = false := by rfl) :
    PI X (.Tuple elts kk tpos) (.Call (.Name "zip" p) [e, e2] [] pos) (iZipA2 X.K ta) := by
  refine ⟨fun pins s σ H R I h => ?_⟩
  refine Call_ (ld_blt I hg hm PyProof.Rows.boot_zip (PyProof.Rows.callWith_type1 (thn (ha.run pos pins s σ H _ I h) fun us s1 ⟨vs, H1, I1, r1, q1⟩ => ?_) hs hpl))
  obtain ⟨t, u, a, b, xs, ys, ex, hqx, hqy, q⟩ := q1
  subst ex
  cases r1 with
  | cons r rr =>
    cases rr with
    | cons r' rr =>
      cases rr
      cases r
      cases r'
      obtain ⟨its, rv, p1⟩ := inv2 I1 hqx
      obtain ⟨its2, rv2, p2⟩ := inv2 I1 hqy
      have l1 := p1.lt
      have l2 := p2.lt
      refine zip_begins2 (begins2 t a its.toArray) (begins2 u b its2.toArray) p1 p2 fun h' hz hTI hTO g1 g2 hsz hk => wpAny_pyIter_zip hz ?_
      have I2 : Inv X pins σ H1 { s1 with heap := h' } := I1.kept (t' := s1.toks) hk
      have S : ZipSep2 (s1.heap.objs.size + 4) (s1.heap.objs.size + 2) (s1.heap.objs.size + 3) s1.heap.objs.size (s1.heap.objs.size + 1) [s1.heap.objs.size, a] [s1.heap.objs.size + 1, b] :=
        zip_sep2 (N := s1.heap.objs.size) (fp1 := [a]) (fp2 := [b]) (fun c hc => by rw [List.mem_singleton.mp hc]; exact l1) (fun c hc => by rw [List.mem_singleton.mp hc]; exact l2)
      refine ⟨s1.heap.objs.size + 4, [s1.heap.objs.size + 4, s1.heap.objs.size + 2, s1.heap.objs.size + 3, s1.heap.objs.size, s1.heap.objs.size + 1], _, _, H1, rfl, I2,
        turn_zipA t u S (Nat.ne_of_lt l1) (Nat.ne_of_lt (Nat.lt_succ_of_lt l2)), ⟨hz, hTI, ⟨_, _, hTO⟩, It2.new g1, It2.new g2⟩, fun c hcm => ?_, q⟩
      have e' : c = s1.heap.objs.size + 4 ∨ c = s1.heap.objs.size + 2 ∨ c = s1.heap.objs.size + 3 ∨ c = s1.heap.objs.size ∨ c = s1.heap.objs.size + 1 := by simpa using hcm
      have hle : s1.heap.objs.size ≤ c := by
        rcases e' with z | z | z | z | z
        · rw [z]; exact Nat.le_add_right _ _
        · rw [z]; exact Nat.le_add_right _ _
        · rw [z]; exact Nat.le_add_right _ _
        · rw [z]; exact Nat.le_refl _
        · rw [z]; exact Nat.le_add_right _ _
      exact I1.fpOk hle (I1.hok.fresh hle)
end DX
end

section
set_option Elab.async false
set_option linter.all false
set_option maxRecDepth 100000
set_option maxHeartbeats 4000000
/-! DlY: enumerate and zip walked, methods of lists with one argument, defs by fuel. -/
namespace DL
open PySem PySem.Spec PyProof.Rows L2 DX

/-! ### enumerate -/
def enumL : Nat → List D → List D
  | _, [] => []
  | n, d :: ds => .tup [.int (n : Int), d] :: enumL (n + 1) ds
def zipL : List D → List D → List D
  | a :: as, b :: bs => .tup [a, b] :: zipL as bs
  | _, _ => []
theorem enumL_get : ∀ (ds : List D) (n i : Nat) (d : D), (enumL n ds)[i]? = some d → ∃ x, ds[i]? = some x ∧ d = .tup [.int ((n + i : Nat) : Int), x]
  | [], n, i, d, h => by unfold enumL at h; cases h
  | x :: ds, n, 0, d, h => by unfold enumL at h; cases h; exact ⟨x, rfl, rfl⟩
  | x :: ds, n, i + 1, d, h => by
    unfold enumL at h
    obtain ⟨y, h1, h2⟩ := enumL_get ds (n + 1) i d h
    exact ⟨y, h1, by rw [h2, show n + 1 + i = n + (i + 1) by omega]⟩
theorem enumL_length : ∀ (ds : List D) (n : Nat), (enumL n ds).length = ds.length
  | [], n => rfl
  | x :: ds, n => by unfold enumL; rw [List.length_cons, List.length_cons, enumL_length ds (n + 1)]
theorem zipL_get : ∀ (as bs : List D) (i : Nat) (d : D), (zipL as bs)[i]? = some d → ∃ a b, as[i]? = some a ∧ bs[i]? = some b ∧ d = .tup [a, b]
  | [], bs, i, d, h => by unfold zipL at h; cases h
  | a :: as, [], i, d, h => by unfold zipL at h; cases h
  | a :: as, b :: bs, 0, d, h => by unfold zipL at h; cases h; exact ⟨a, b, rfl, rfl, rfl⟩
  | a :: as, b :: bs, i + 1, d, h => by
    unfold zipL at h
    obtain ⟨x, y, h1, h2, h3⟩ := zipL_get as bs i d h
    exact ⟨x, y, h1, h2, h3⟩
theorem zipL_length : ∀ (as bs : List D), (zipL as bs).length = min as.length bs.length
  | [], bs => by unfold zipL; simp
  | a :: as, [] => by unfold zipL; simp
  | a :: as, b :: bs => by unfold zipL; rw [List.length_cons, List.length_cons, List.length_cons, zipL_length as bs]; omega
def iEnum1 (f : Env → R D) : Env → R (List D) := fun e => bnd (f e) fun d e1 => bnd (opt (itemsD d) e1) fun ds e1 => .ok (enumL 0 ds) e1
def iZip2 (fa fb : Env → R D) : Env → R (List D) := fun e => bnd (fa e) fun a e1 => bnd (fb e1) fun b e2 => bnd (opt (itemsD a) e2) fun xs e2 => bnd (opt (itemsD b) e2) fun ys e2 => .ok (zipL xs ys) e2
def kindT : D → Bool
  | .tup _ => true
  | _ => false
section
variable {g : G} {P : Addr → Prop} {ps : List (Nat × Addr)} {e : Env} {σ : L2.St} {H : Hp}
/-- the items of a list or a tuple, whatever goes on -/
theorem items_sq {d : D} {ds : List D} {v : V} (q : itemsD d = some ds) (r : Rep g H (Av P e σ) d v) : ∃ a vs, v = .ref a ∧ RepL g H (Av P e σ) ds vs ∧
    ∀ P1 e1 σ1 H1, Kp (Av P e σ) H (Av P1 e1 σ1) H1 → Sq2 g.K (kindT d) H1 a vs ∧ RepL g H1 (Av P1 e1 σ1) ds vs := by
  cases d <;> first | (cases q; done) | skip
  · cases q
    obtain ⟨p, vs, rfl, hq, rr⟩ := r
    exact ⟨p, vs, rfl, rr, fun P1 e1 σ1 H1 k => ⟨(hq.kp k).sq, RepL.kp k _ _ rr⟩⟩
  · cases q
    obtain ⟨p, vs, rfl, hq, rr⟩ := r
    exact ⟨p, vs, rfl, rr, fun P1 e1 σ1 H1 k => ⟨(hq.kp k).sq, RepL.kp k _ _ rr⟩⟩
theorem itOk_enum {K : PySem.W.Frag} (hK : K = g.K) {d : D} {ds : List D} {a : Addr} {vs : List V} (hh : ∀ P1 e1 σ1 H1, Kp (Av P e σ) H (Av P1 e1 σ1) H1 → Sq2 g.K (kindT d) H1 a vs ∧ RepL g H1 (Av P1 e1 σ1) ds vs) (hl : ds.length = vs.length) :
    ItOk g P ps e σ H (IteA K (kindT d) a) (enumL 0 ds) where
  go := fun i y h P1 e1 σ1 H1 st1 kp1 => by
    obtain ⟨h1, h2⟩ := hh P1 e1 σ1 H1 kp1
    rw [← hK] at h1
    obtain ⟨x, hx, rfl⟩ := enumL_get ds 0 i y h
    obtain ⟨v, hv, rv⟩ := h2.at hx
    refine ⟨⟨vs, v, h1, hv⟩, fun z H2 yy => ?_⟩
    obtain ⟨T, v', rfl, hT, rfl, y⟩ := yy
    have z := y vs h1
    rw [hv] at z
    cases z
    refine ⟨same_new hT, ?_⟩
    rw [Nat.zero_add]
    exact rep_tup (st1.fresh hT) hT ⟨.int (i : Int), [v], rfl, rfl, v, [], rfl, rv, rfl⟩
  stop := fun P1 e1 σ1 H1 st1 kp1 => by
    obtain ⟨h1, h2⟩ := hh P1 e1 σ1 H1 kp1
    rw [← hK] at h1
    exact ⟨vs, h1, by rw [enumL_length, hl]⟩
theorem itOk_zip {K : PySem.W.Frag} (hK : K = g.K) {d d2 : D} {ds ds2 : List D} {a a2 : Addr} {vs vs2 : List V}
    (hh : ∀ P1 e1 σ1 H1, Kp (Av P e σ) H (Av P1 e1 σ1) H1 → Sq2 g.K (kindT d) H1 a vs ∧ RepL g H1 (Av P1 e1 σ1) ds vs) (hl : ds.length = vs.length)
    (hh2 : ∀ P1 e1 σ1 H1, Kp (Av P e σ) H (Av P1 e1 σ1) H1 → Sq2 g.K (kindT d2) H1 a2 vs2 ∧ RepL g H1 (Av P1 e1 σ1) ds2 vs2) (hl2 : ds2.length = vs2.length) :
    ItOk g P ps e σ H (ItzA K (kindT d) (kindT d2) a a2) (zipL ds ds2) where
  go := fun i y h P1 e1 σ1 H1 st1 kp1 => by
    obtain ⟨h1, h2⟩ := hh P1 e1 σ1 H1 kp1
    obtain ⟨h3, h4⟩ := hh2 P1 e1 σ1 H1 kp1
    rw [← hK] at h1 h3
    obtain ⟨x, x2, hx, hx2, rfl⟩ := zipL_get ds ds2 i y h
    obtain ⟨v, hv, rv⟩ := h2.at hx
    obtain ⟨v2, hv2, rv2⟩ := h4.at hx2
    refine ⟨⟨vs, vs2, v, v2, h1, h3, hv, hv2⟩, fun z H2 yy => ?_⟩
    obtain ⟨T, v', v2', rfl, hT, rfl, y, y2⟩ := yy
    have z := y vs h1
    rw [hv] at z
    cases z
    have z := y2 vs2 h3
    rw [hv2] at z
    cases z
    exact ⟨same_new hT, rep_tup (st1.fresh hT) hT ⟨v, [v2], rfl, rv, v2, [], rfl, rv2, rfl⟩⟩
  stop := fun P1 e1 σ1 H1 st1 kp1 => by
    obtain ⟨h1, h2⟩ := hh P1 e1 σ1 H1 kp1
    obtain ⟨h3, h4⟩ := hh2 P1 e1 σ1 H1 kp1
    rw [← hK] at h1 h3
    exact ⟨vs, vs2, h1, h3, by rw [zipL_length, hl, hl2]⟩
end
section
variable {g : G} {mp : List Nat} {X : Cx} {a b : Expr} {fa fb : Env → R D}
theorem di_enum (hK : X.K = g.K) {p pos tpos : Pos} {elts : List Expr} {kk : Nat} (hg : Gl X "enumerate") (hm : X.mg "enumerate" = none) (ha : DE g mp X a fa) (hs : starEach [a] X.env = [(false, eval a X.env)] := by rfl) (hs1 : starEach (a :: []) X.env = (false, eval a X.env) :: starEach [] X.env := by rfl) :
    DI g mp X (.Tuple elts kk tpos) (.Call (.Name "enumerate" p) [a] [] pos) (iEnum1 fa) := ⟨fun P ps W hp tk => pi_imp (pi_enumA hg hm (pa_cons (ha.run P ps W hp tk) pa_nil hs1) hs) fun σ H R ⟨e, s, h⟩ => by
  refine tD_of s (h.bnd.mono fun d e1 H1 go1 z v rv => ?_)
  obtain ⟨ds, q, z2⟩ := PR.optM go1.st z
  clear z h
  obtain ⟨p, vs, rfl, rr, hh⟩ := items_sq q rv
  have h0 := hh _ _ _ _ Kp.refl
  exact ⟨kindT d, p, vs, rfl, by rw [hK]; exact h0.1, z2 _ (Go.refl go1.st) _ (itOk_enum hK hh rr.length)⟩⟩
theorem di_zip (hK : X.K = g.K) {p pos tpos : Pos} {elts : List Expr} {kk : Nat} (hg : Gl X "zip") (hm : X.mg "zip" = none) (ha : DE g mp X a fa) (hb : DE g mp X b fb)
    (hs : starEach [a, b] X.env = (false, eval a X.env) :: starEach [b] X.env := by rfl) (hpl : (backTo pos (starEach [b] X.env)).any (·.1) = false := by rfl) (hs3 : starEach (b :: []) X.env = (false, eval b X.env) :: starEach [] X.env := by rfl) :
    DI g mp X (.Tuple elts kk tpos) (.Call (.Name "zip" p) [a, b] [] pos) (iZip2 fa fb) := ⟨fun P ps W hp tk => pi_imp (pi_zipA2 hg hm (pa_cons (ha.run P ps W hp tk) (pa_cons (hb.run P ps W hp tk) pa_nil hs3) hs) hs hpl) fun σ H R ⟨e, s, h⟩ => by
  refine tD_of s (h.bnd.mono fun d e1 H1 go1 z v rv => tD_of go1.st (z.bnd.mono fun d2 e2 H2 go2 z2 v2 rv2 => ?_))
  obtain ⟨ds, q, z3⟩ := PR.optM go2.st z2
  obtain ⟨ds2, q2, z4⟩ := PR.optM go2.st z3
  clear z z2 z3 h
  obtain ⟨p, vs, rfl, rr, hh⟩ := items_sq q (Rep.kp go2.kp _ _ rv)
  obtain ⟨p2, vs2, rfl, rr2, hh2⟩ := items_sq q2 rv2
  have h0 := hh _ _ _ _ Kp.refl
  have h1 := hh2 _ _ _ _ Kp.refl
  exact ⟨kindT d, kindT d2, p, p2, vs, vs2, rfl, by rw [hK]; exact h0.1, by rw [hK]; exact h1.1, z4 _ (Go.refl go2.st) _ (itOk_zip hK hh rr.length hh2 rr2.length)⟩⟩
end

/-! ### defs by fuel -/
theorem dfn_bad {n : Nat} {g : G} {Pr : Program} {w : World} {mg : Str → Option Value} {base : Heap} {x : Str} {st : Stmt} {pn : List Str} (k : Nat) {mp : List Nat} (h : DefAt g mg n x st)
    (hb : ∀ (kV doc pm : Value) (an : Option Addr) (cdv ct : Value) (us : List Value), us.length = pn.length → bindArgs (PySem.W.fnOf x x (defArgs st) (defBody st) (defScope st) .none kV doc pm an cdv ct) ⟨us, []⟩ = pure (pn.zip us)) :
    Dfn g Pr w g.K mg base k x pn.length mp (fun _ => .bad) := by
  obtain ⟨fd, F, hm⟩ := h.ex
  refine ⟨_, fd, pn, [], ⟨fun vs H Q E h => h.1, fun A outer s H args us vs Q E hr he hbt hv hs => ?_⟩, hm, F.kp, F.binds hb⟩
  obtain ⟨_, P, ps, ss, hm, hl, st, hA, hR⟩ := hs
  exact (show False from hR).elim
theorem dfn_badG {n : Nat} {g : G} {Pr : Program} {w : World} {mg : Str → Option Value} {base : Heap} {x : Str} {st : Stmt} {pn : List Str} (k : Nat) {mp : List Nat} (h : DefAt g mg n x st)
    (hb : ∀ (kV doc pm : Value) (an : Option Addr) (cdv ct : Value) (us : List Value), us.length = pn.length → bindArgs (PySem.W.fnOf x x (defArgs st) (defBody st) (defScope st) .none kV doc pm an cdv ct) ⟨us, []⟩ = pure (pn.zip us)) :
    DfnG g Pr w g.K mg base k x pn.length mp (fun _ => .bad) := by
  obtain ⟨fd, F, hm⟩ := h.ex
  refine ⟨_, fd, pn, [], ⟨fun vs H Q E h => h.1, fun A outer s H args us vs Q E hr hgd he hbt hv hs => ?_⟩, hm, F.kp, F.binds hb⟩
  obtain ⟨_, P, ps, ss, hm, hl, st, hA, hR⟩ := hs
  exact (show False from hR).elim

/-! ### methods of lists with one argument -/
def isLst : D → Option Unit
  | .lst _ => some ()
  | _ => none
def dMeth (ok : D → Option Unit) (F : D → D → Option D) (fa fb : Env → R D) : Env → R D := fun e => bnd (fa e) fun a e1 => bnd (opt (ok a) e1) fun _ e1 => bnd (fb e1) fun b e2 => opt (F a b) e2
def lidxD : D → D → Option D
  | .lst xs, y => if depL xs ≤ 59 ∧ dep y ≤ 60 ∧ xs.length ≤ 16777216 then (xs.findIdx? fun x => eqv x y).map fun j => .int (j : Nat) else none
  | _, _ => none
def lcntD : D → D → Option D
  | .lst xs, y => if depL xs ≤ 59 ∧ dep y ≤ 60 then some (.int ((xs.countP fun x => eqv x y : Nat))) else none
  | _, _ => none
def rCntD (K : PySem.W.Frag) : V → List V → Hp → VK → Prop := fun x xs H Q => ∃ (a : Addr) (y : V) (d : PyData) (ds : List PyData), x = V.ref a ∧ xs = [y] ∧ Dp K H (V.ref a) (.list ds) ∧ Dp K H y d ∧
  SeqAt.shaped (.list ds) = true ∧ SeqAt.shaped d = true ∧ Q (.int ((ds.countP fun z => PyData.eqv z d : Nat))) H
theorem mt_countD {X : Cx} (hu : X.A.units + 65 < cLine) : MtR X "list.count" (rCntD X.K) := by
  intro pins s σ H x xs v us Q I rx rxs h
  obtain ⟨a, y, d, ds, rfl, rfl, hl, hy, sl, sd, q⟩ := h
  cases rx
  cases rxs with
  | cons ry rt =>
    rename_i uy ut
    cases rt
    obtain ⟨bs, r1⟩ := Dp.reads I d y uy hy ry
    have hxs : PyData.canLayAll0 ds = true := SeqAt.canLay_of_shaped sl
    have hroom : X.A.units + 1 + min (PyData.depthAll ds) d.depth < cLine := room_in_shaped sd hu
    cases hl with
    | lst hs ha =>
      obtain ⟨its, rv, ⟨⟨cls, dd, data, sls⟩, n, ho, hc, hdn, hdt⟩, hlen⟩ := I.list hs
      simp only at hc hdt
      subst hc hdt
      obtain ⟨as, h4⟩ := Dp.readsAll I ds _ its ha rv
      have hmap : its.map (SeqAt.readOf s.heap) = ds := SeqAt.readsAll_map ds its as hxs h4
      refine call_meets PySem.F.slot_list_count ⟨_, ho, rfl⟩ PySem.F.entry_list_count (PySem.F.args_list_count_2 _ _)
        (SeqAt.list_countAt a its.toArray n dd sls uy (fun u => PyData.eqv (SeqAt.readOf s.heap u) d)) ⟨ho, SeqAt.items_eqAt (vs := its.toArray) (show ReadsAll s.heap its.toArray.toList ds as from h4) r1 hxs (SeqAt.canLay_of_shaped sd) hroom, ?_⟩
      have e1 : its.toArray.toList.countP (fun u => PyData.eqv (SeqAt.readOf s.heap u) d) = ds.countP fun z => PyData.eqv z d := by
        rw [← hmap, List.countP_map]; rfl
      rw [e1]
      exact ⟨.int _, H, I.tok _, ⟨_, rfl⟩, q⟩
theorem toPL_get : ∀ (xs : List D) (i : Nat), (toPL xs)[i]? = (xs[i]?).map toP
  | [], i => by simp [toPL]
  | x :: xs, 0 => by simp [toPL]
  | x :: xs, i + 1 => by simp [toPL, toPL_get xs i]
theorem dep_mem {x : D} : ∀ {xs : List D}, x ∈ xs → dep x ≤ depL xs
  | y :: ys, h => by
    unfold depL
    rcases List.mem_cons.mp h with q | q
    · rw [q]; omega
    · have := dep_mem q; omega
theorem cnt_toP {y : D} (hy : dep y ≤ 60) : ∀ (xs : List D), depL xs ≤ 60 → (toPL xs).countP (fun z => PyData.eqv z (toP y)) = xs.countP fun x => eqv x y
  | [], _ => rfl
  | x :: xs, h => by
    unfold depL at h
    unfold toPL
    rw [List.countP_cons, List.countP_cons, cnt_toP hy xs (by omega), eqv_toP x y (by omega) (by omega)]
section
variable {g : G} {mp : List Nat} {X : Cx} {a b : Expr} {fa fb : Env → R D}
theorem de_lcount {apos cpos : Pos} (hK : X.K = g.K) (hu : X.A.units + 65 < cLine) (ha : DE g mp X a fa) (hb : DE g mp X b fb)
    (hbase : attributeBase a "count" X.env (eval a X.env) = eval a X.env := by rfl)
    (hfew : ((backTo cpos (starEach (b :: []) X.env)).all (fun x => !x.1) && (backToKw cpos (keywordEach [] X.env)).all (fun x => x.1.isSome)
      && decide ((b :: []).length + ([] : List Keyword).length + (if ([] : List Keyword).isEmpty then 0 else 1) < 30)) = true := by rfl)
    (hline : (apos.endLine == cpos.line) = true := by rfl) (hs : starEach (b :: []) X.env = (false, eval b X.env) :: starEach [] X.env := by rfl) (hplain : (backTo cpos (starEach [] X.env)).any (·.1) = false := by rfl) :
    DE g mp X (.Call (.Attribute a "count" apos) [b] [] cpos) (dMeth isLst lcntD fa fb) := ⟨fun P ps W hp tk => pe_imp (pe_bm PySem.F.plainAttrs_list PySem.F.slot_list_count PySem.F.type_list_count (mt_countD hu) (ha.run P ps W hp tk) (pa_cons (hb.run P ps W hp tk) pa_nil hs) hbase hfew hline hs hplain) fun σ H Q q => by
  obtain ⟨e, s, q⟩ := tD_eq.mp q
  refine tD_of s (q.bnd.mono fun d e1 H1 go1 z v rv => ?_)
  obtain ⟨_, qd, z⟩ := PR.optM go1.st z
  cases d with
  | lst ds =>
    obtain ⟨p, vs, hv, hq, rr⟩ := id rv
    refine ⟨by rw [hv]; exact .inl ⟨rfl, vs, by rw [hK]; exact hq.sq⟩, tD_of go1.st (z.bnd.mono fun k e2 H2 go2 z2 v2 rv2 => ?_)⟩
    obtain ⟨d', q', z4⟩ := PR.opt z2
    rw [show lcntD (.lst ds) k = if depL ds ≤ 59 ∧ dep k ≤ 60 then some (.int ((ds.countP fun x => eqv x k : Nat))) else none from rfl] at q'
    split at q'
    case isFalse => cases q'
    rename_i hc
    cases q'
    have d0 : dep (.lst ds) ≤ 60 := by unfold dep; omega
    have hD := dp_of hK (.lst ds) v (by omega) (Rep.kp go2.kp _ _ rv)
    have hD2 := dp_of hK k v2 (by omega) rv2
    refine ⟨p, v2, toP k, toPL ds, hv, rfl, by rw [← hv]; exact hD, hD2, shaped_toP d0, shaped_toP hc.2, ?_⟩
    rw [cnt_toP hc.2 ds (by omega)]
    exact z4 _ (Go.refl go2.st) _ rfl
  | _ => cases qd⟩
theorem de_lindex {apos cpos : Pos} (hK : X.K = g.K) (hu : X.A.units + 65 < cLine) (ha : DE g mp X a fa) (hb : DE g mp X b fb)
    (hbase : attributeBase a "index" X.env (eval a X.env) = eval a X.env := by rfl)
    (hfew : ((backTo cpos (starEach (b :: []) X.env)).all (fun x => !x.1) && (backToKw cpos (keywordEach [] X.env)).all (fun x => x.1.isSome)
      && decide ((b :: []).length + ([] : List Keyword).length + (if ([] : List Keyword).isEmpty then 0 else 1) < 30)) = true := by rfl)
    (hline : (apos.endLine == cpos.line) = true := by rfl) (hs : starEach (b :: []) X.env = (false, eval b X.env) :: starEach [] X.env := by rfl) (hplain : (backTo cpos (starEach [] X.env)).any (·.1) = false := by rfl) :
    DE g mp X (.Call (.Attribute a "index" apos) [b] [] cpos) (dMeth isLst lidxD fa fb) := ⟨fun P ps W hp tk => pe_imp (pe_bm PySem.F.plainAttrs_list PySem.F.slot_list_index PySem.F.type_list_index (mt_indexD hu) (ha.run P ps W hp tk) (pa_cons (hb.run P ps W hp tk) pa_nil hs) hbase hfew hline hs hplain) fun σ H Q q => by
  obtain ⟨e, s, q⟩ := tD_eq.mp q
  refine tD_of s (q.bnd.mono fun d e1 H1 go1 z v rv => ?_)
  obtain ⟨_, qd, z⟩ := PR.optM go1.st z
  cases d with
  | lst ds =>
    obtain ⟨p, vs, hv, hq, rr⟩ := id rv
    refine ⟨by rw [hv]; exact .inl ⟨rfl, vs, by rw [hK]; exact hq.sq⟩, tD_of go1.st (z.bnd.mono fun k e2 H2 go2 z2 v2 rv2 => ?_)⟩
    obtain ⟨d', q', z4⟩ := PR.opt z2
    rw [show lidxD (.lst ds) k = if depL ds ≤ 59 ∧ dep k ≤ 60 ∧ ds.length ≤ 16777216 then (ds.findIdx? fun x => eqv x k).map fun j => .int (j : Nat) else none from rfl] at q'
    split at q'
    case isFalse => cases q'
    rename_i hc
    obtain ⟨j, hj, rfl⟩ := Option.map_eq_some_iff.mp q'
    obtain ⟨h1, h2, h3⟩ := List.findIdx?_eq_some_iff_getElem.mp hj
    have d0 : dep (.lst ds) ≤ 60 := by unfold dep; omega
    have hD := dp_of hK (.lst ds) v (by omega) (Rep.kp go2.kp _ _ rv)
    have hD2 := dp_of hK k v2 (by omega) rv2
    refine ⟨p, v2, toP k, toPL ds, j, toP (ds[j]), hv, rfl, by rw [← hv]; exact hD, hD2, shaped_toP d0, shaped_toP hc.2.1, by rw [toPL_get, List.getElem?_eq_getElem h1]; rfl, ?_, fun m z' hm hz => ?_, z4 _ (Go.refl go2.st) _ rfl⟩
    · rw [eqv_toP _ _ (Nat.le_trans (dep_mem (List.getElem_mem h1)) (by omega)) (by omega)]
      exact h2
    · have hml : m < ds.length := by omega
      rw [toPL_get, List.getElem?_eq_getElem hml] at hz
      cases hz
      rw [eqv_toP _ _ (Nat.le_trans (dep_mem (List.getElem_mem hml)) (by omega)) (by omega)]
      simpa using h3 m hm
  | _ => cases qd⟩
end
theorem u65 {k : Nat} {A : Around} (h : Room k A) : A.units + 65 < cLine := by have := h.un; omega
end DL
end

section
set_option Elab.async false
set_option linter.all false
set_option maxRecDepth 100000
set_option maxHeartbeats 4000000
/-! DlZ: comprehensions of two clauses. -/
namespace DL
open PySem PySem.Spec PyProof.Rows L2 DX
def compL2 (vs vs1 : List Nat) (t : D → Env → Option Env) (tt : Env → R Bool) (fi1 : Env → R (List D)) (t1 : D → Env → Option Env) (tt1 : Env → R Bool) (fe : Env → R D) : List D → Env → R (List D)
  | [], e => .ok [] e
  | d :: ds, e => bnd (opt (t d e) e) fun e1 _ => bnd (tt e1) fun k e2 =>
      if k = true then bnd (fi1 e2) fun ds1 e3 => bnd (compL vs1 t1 tt1 fe ds1 (wipeE e3 vs1)) fun rs e4 => bnd (compL2 vs vs1 t tt fi1 t1 tt1 fe ds (wipeE e4 vs)) fun r e5 => .ok (rs ++ r) e5
      else compL2 vs vs1 t tt fi1 t1 tt1 fe ds (wipeE e2 vs)
def mComp2 (vs vs1 : List Nat) (fi : Env → R (List D)) (t : D → Env → Option Env) (tt : Env → R Bool) (fi1 : Env → R (List D)) (t1 : D → Env → Option Env) (tt1 : Env → R Bool) (fe : Env → R D) : Env → R (List D) := fun e => bnd (fi e) fun ds e1 =>
  if vs.all (noM e1) = true then match compL2 vs vs1 t tt fi1 t1 tt1 fe ds (wipeE e1 vs) with
    | .ok r e2 => if r.length < 16777216 then .ok r (backE e2 e1 vs) else .bad
    | _ => .bad
  else .bad
/-- the new list grows -/
theorem grow {g : G} {P : Addr → Prop} {ps : List (Nat × Addr)} {Dd : Addr} {e : Env} {σ : L2.St} {H : Hp} {us : List V} {acc : List D} {yd : D} {w : V} (s : StRel g (Pl P Dd) ps e σ H) (hD : H Dd = some (.lst us))
    (ra : RepL g H (Av (Pl P Dd) e σ) acc us) (rw' : Rep g H (Av (Pl P Dd) e σ) yd w) :
    StRel g (Pl P Dd) ps e σ (upd H Dd (.lst (us ++ [w]))) ∧ Kp (Av (Pl P Dd) e σ) H (Av (Pl P Dd) e σ) (upd H Dd (.lst (us ++ [w]))) ∧ RepL g (upd H Dd (.lst (us ++ [w]))) (Av (Pl P Dd) e σ) (acc ++ [yd]) (us ++ [w]) := by
  have kD : Kp (Av (Pl P Dd) e σ) H (Av (Pl P Dd) e σ) (upd H Dd (.lst (us ++ [w]))) := fun b o q n => by
    have nb : b ≠ Dd := fun z => n.1 (by rw [z]; exact .inl (.inr rfl))
    exact ⟨by rw [upd_ne nb]; exact q, n.1⟩
  refine ⟨⟨s.len, fun j d' z => ?_, fun j es z => ?_, s.inj, fun b z => ?_, s.par, tabs_upd s.tb hD⟩, kD, RepL.kp kD _ _ (RepL.append ra ⟨w, [], rfl, rw', rfl⟩)⟩
  · obtain ⟨v, h1, h2⟩ := s.vv j d' z
    exact ⟨v, h1, Rep.kp kD _ _ h2⟩
  · obtain ⟨c, ws, h1, h2, h3, h4⟩ := s.mm j es z
    have nc : c ≠ Dd := fun y => h4 (.inr y)
    exact ⟨c, ws, h1, by rw [upd_ne nc]; exact h2, RepL.kp kD _ _ h3, h4⟩
  · by_cases hb : b = Dd
    · rw [hb, upd_same]; exact ⟨_, rfl, nc_lst⟩
    · rw [upd_ne hb]; exact s.prv b z
section
variable {g : G} {mp : List Nat} {X : Cx} {elt tg iter tg1 iter1 : Expr} {ifs ifs1 : List Expr} {scope : Scope} {own : List (Str × Nat)} {vs1 : List Nat} {pos : Pos} {fi fi1 : Env → R (List D)} {sl sl1 : List Nat} {t t1 : D → Env → Option Env} {tt tt1 : Env → R Bool} {fe : Env → R D}
theorem tLc2_of {P ps W} (hp : ∀ p ∈ ps, p.1 ∉ own.map (·.2)) (hsl : ∀ j ∈ sl, j ∈ own.map (·.2)) (hv1 : ∀ j ∈ vs1, j ∈ own.map (·.2)) (hsl1 : ∀ j ∈ sl1, j ∈ vs1) {σ H Q} (h : tM g P ps W (mComp2 (own.map (·.2)) vs1 fi t tt fi1 t1 tt1 fe) σ H Q) (g2 : TG) (t2 : TT) (i2 : TI) (g3 : TG) (t3 : TT) (e2 : TE)
    (hg2 : ∀ (a : Addr) v σ H Q, tG g (Pl P a) ps sl t v σ H Q → g2 v σ H Q) (ht2 : ∀ (a : Addr) σ H Q, tB g (Pl P a) ps (fun _ _ _ _ => False) tt σ H Q → t2 σ H Q)
    (hi2 : ∀ (a : Addr) σ H Q, tI g (Pl P a) ps (fun _ _ _ _ => False) fi1 σ H Q → i2 σ H Q)
    (hg3 : ∀ (a : Addr) v σ H Q, tG g (Pl P a) ps sl1 t1 v σ H Q → g3 v σ H Q) (ht3 : ∀ (a : Addr) σ H Q, tB g (Pl P a) ps (fun _ _ _ _ => False) tt1 σ H Q → t3 σ H Q)
    (he2 : ∀ (a : Addr) σ H Q, tD g (Pl P a) ps (fun _ _ _ _ => False) fe σ H Q → e2 σ H Q) :
    tLc2 (tI g P ps W fi) g2 t2 i2 g3 t3 e2 (own.map (·.2)) vs1 σ H Q := by
  obtain ⟨e, s, h⟩ := tM_eq.mp h
  refine ⟨e, s, h.bnd.mono fun ds e1 H1 go1 z J ok Dd hD => ?_⟩
  clear h
  have hp1 : ∀ p ∈ ps, p.1 ∉ vs1 := fun p hq z => hp p hq (hv1 _ z)
  have z : PM g P ps W e1 σ H1 (if (own.map (·.2)).all (noM e1) = true then match compL2 (own.map (·.2)) vs1 t tt fi1 t1 tt1 fe ds (wipeE e1 (own.map (·.2))) with
    | .ok r e2 => if r.length < 16777216 then .ok r (backE e2 e1 (own.map (·.2))) else .bad
    | _ => .bad
  else .bad) Q := z
  split at z
  case isFalse => exact z.elim
  rename_i hv
  cases hc : compL2 (own.map (·.2)) vs1 t tt fi1 t1 tt1 fe ds (wipeE e1 (own.map (·.2))) with
  | bad => rw [hc] at z; exact z.elim
  | exc x e2 => rw [hc] at z; exact z.elim
  | ok res efin =>
  rw [hc] at z
  have z : PM g P ps W e1 σ H1 (if res.length < 16777216 then .ok res (backE efin e1 (own.map (·.2))) else .bad) Q := z
  split at z
  case isFalse => exact z.elim
  rename_i hlen
  have nD : ¬ Av P e1 σ Dd := go1.st.fresh hD
  have gm0 : GoM g P ps e1 σ H1 Dd [] e1 σ (upd H1 Dd (.lst [])) := GoM.new go1.st hD (vs := []) rfl
  have gw : Go g (Pl P Dd) ps e1 σ (upd H1 Dd (.lst [])) (wipeE e1 (own.map (·.2))) (L2.wipe σ (own.map (·.2))) (upd H1 Dd (.lst [])) := gm0.st.wipe hp
  refine ⟨fun i m H2 => m = ds.length - i ∧ i ≤ ds.length ∧ ∃ e2 acc us rest, StRel g (Pl P Dd) ps e2 (L2.wipe σ (own.map (·.2))) H2 ∧ Kp (Av P e1 σ) H1 (Av (Pl P Dd) e2 (L2.wipe σ (own.map (·.2)))) H2 ∧ (∀ b, P b → H2 b = H1 b) ∧
      H2 Dd = some (.lst us) ∧ RepL g H2 (Av (Pl P Dd) e2 (L2.wipe σ (own.map (·.2)))) acc us ∧ compL2 (own.map (·.2)) vs1 t tt fi1 t1 tt1 fe (ds.drop i) e2 = .ok rest efin ∧ res = acc ++ rest,
    ⟨_, rfl, Nat.zero_le _, _, [], [], res, gw.st, ?_, fun b hb => ?_, upd_same, rfl, hc, rfl⟩, ?_⟩
  · exact fun b o q n => gw.kp b o (gm0.kp b o q n).1 ⟨(gm0.kp b o q n).2, n.2⟩
  · exact gm0.pr b hb
  rintro i m H2 ⟨rfl, hi, e2, acc, us, rest, s2, k2, p2, hD2, ra, hc2, hres⟩
  by_cases hlt : i < ds.length
  · obtain ⟨d, hd⟩ : ∃ d, ds[i]? = some d := ⟨ds[i], List.getElem?_eq_getElem hlt⟩
    obtain ⟨ok1, ok2⟩ := ok.go i d hd _ e2 _ H2 s2 k2
    rw [drop_get hd] at hc2
    refine .inr ⟨ok1, _, fun H' hN => ⟨ds.length - (i + 1), by omega, rfl, hlt, hN⟩, fun x H3 y => ?_⟩
    obtain ⟨sm3, rx⟩ := ok2 x H3 y
    have go3 := Go.same s2 sm3
    refine hg2 Dd _ _ _ _ ⟨e2, d, go3.st, rx, ?_⟩
    rw [compL2] at hc2
    cases q4 : t d e2 with
    | none => rw [q4] at hc2; cases hc2
    | some e4 =>
    rw [q4, opt_some, bnd_ok] at hc2
    refine ⟨e4, rfl, fun σ4 H4 go4 o4 => ⟨wipe_only o4 hsl, ht2 Dd _ _ _ (tB_of go4.st ?_)⟩⟩
    cases q5 : tt e4 with
    | bad => rw [q5] at hc2; cases hc2
    | exc x e5 => rw [q5] at hc2; cases hc2
    | ok k e5 =>
    rw [q5, bnd_ok] at hc2
    intro H5 go5
    have g5 := go3.trans (go4.trans go5)
    have back : ∀ {e6 : Env} {H6 : Hp}, Go g (Pl P Dd) ps e2 (L2.wipe σ (own.map (·.2))) H2 e6 σ4 H6 → Go g (Pl P Dd) ps e2 (L2.wipe σ (own.map (·.2))) H2 (wipeE e6 (own.map (·.2))) (L2.wipe σ (own.map (·.2))) H6 := fun {e6 H6} g6 => by
      have w := g6.st.wipe (vs := own.map (·.2)) hp
      rw [wipe_only o4 hsl] at w
      exact g6.trans w
    cases k with
    | false =>
      rw [if_neg Bool.false_ne_true] at hc2 ⊢
      have g6 := back g5
      exact ⟨_, acc, us, rest, g6.st, fun b o q n => g6.kp b o (k2 b o q n).1 ⟨(k2 b o q n).2, n.2⟩, fun b w => (g6.pr b (.inl w)).trans (p2 b w), (g6.pr Dd (.inr rfl)).trans hD2, RepL.kp g6.kp _ _ ra, hc2, hres⟩
    | true =>
      rw [if_pos rfl] at hc2 ⊢
      cases q6 : fi1 e5 with
      | bad => rw [q6] at hc2; cases hc2
      | exc x e6 => rw [q6] at hc2; cases hc2
      | ok ds1 e6 =>
      rw [q6, bnd_ok] at hc2
      cases q7 : compL vs1 t1 tt1 fe ds1 (wipeE e6 vs1) with
      | bad => rw [q7] at hc2; cases hc2
      | exc x e7 => rw [q7] at hc2; cases hc2
      | ok rs e7 =>
      rw [q7, bnd_ok] at hc2
      cases q8 : compL2 (own.map (·.2)) vs1 t tt fi1 t1 tt1 fe (ds.drop (i + 1)) (wipeE e7 (own.map (·.2))) with
      | bad => rw [q8] at hc2; cases hc2
      | exc x e8 => rw [q8] at hc2; cases hc2
      | ok r8 e8 =>
      rw [q8, bnd_ok] at hc2
      cases hc2
      refine hi2 Dd _ _ _ ⟨e5, go5.st, ?_⟩
      rw [q6]
      intro H6 go6 J1 okJ
      have g6 := g5.trans go6
      have w6 := go6.st.wipe (vs := vs1) hp1
      -- the state of the inner turns: what the outer list had, and what came since
      refine ⟨fun j m H7 => m = ds1.length - j ∧ j ≤ ds1.length ∧ ∃ ej acc2 us2 rest2, StRel g (Pl P Dd) ps ej (L2.wipe σ4 vs1) H7 ∧ Kp (Av P e1 σ) H1 (Av (Pl P Dd) ej (L2.wipe σ4 vs1)) H7 ∧ Kp (Av (Pl P Dd) e6 σ4) H6 (Av (Pl P Dd) ej (L2.wipe σ4 vs1)) H7 ∧ (∀ b, P b → H7 b = H1 b) ∧
          H7 Dd = some (.lst us2) ∧ RepL g H7 (Av (Pl P Dd) ej (L2.wipe σ4 vs1)) acc2 us2 ∧ compL vs1 t1 tt1 fe (ds1.drop j) ej = .ok rest2 e7 ∧ acc ++ rs = acc2 ++ rest2,
        ⟨_, rfl, Nat.zero_le _, _, acc, us, rs, w6.st, ?_, w6.kp, fun b hb => ?_, ?_, ?_, q7, rfl⟩, ?_⟩
      · exact fun b o q n => w6.kp b o (g6.kp b o (k2 b o q n).1 ⟨(k2 b o q n).2, n.2⟩).1 ⟨(g6.kp b o (k2 b o q n).1 ⟨(k2 b o q n).2, n.2⟩).2, n.2⟩
      · exact (g6.pr b (.inl hb)).trans (p2 b hb)
      · exact (g6.pr Dd (.inr rfl)).trans hD2
      · exact RepL.kp w6.kp _ _ (RepL.kp g6.kp _ _ ra)
      rintro j mj H7 ⟨rfl, hj, ej, acc2, us2, rest2, s7, k7, kj7, p7, hD7, ra7, hc7, hres7⟩
      by_cases hltj : j < ds1.length
      · obtain ⟨dj, hdj⟩ : ∃ d, ds1[j]? = some d := ⟨ds1[j], List.getElem?_eq_getElem hltj⟩
        obtain ⟨okj1, okj2⟩ := okJ.go j dj hdj _ ej _ H7 s7 kj7
        rw [drop_get hdj] at hc7
        refine .inr ⟨okj1, _, fun H' hN => ⟨ds1.length - (j + 1), by omega, rfl, hltj, hN⟩, fun x H8 y => ?_⟩
        obtain ⟨sm8, rx8⟩ := okj2 x H8 y
        have go8 := Go.same s7 sm8
        refine hg3 Dd _ _ _ _ ⟨ej, dj, go8.st, rx8, ?_⟩
        rw [compL] at hc7
        cases q9 : t1 dj ej with
        | none => rw [q9] at hc7; cases hc7
        | some e9 =>
        rw [q9, opt_some, bnd_ok] at hc7
        refine ⟨e9, rfl, fun σ9 H9 go9 o9 => ⟨wipe_only o9 hsl1, ht3 Dd _ _ _ (tB_of go9.st ?_)⟩⟩
        cases q10 : tt1 e9 with
        | bad => rw [q10] at hc7; cases hc7
        | exc x e10 => rw [q10] at hc7; cases hc7
        | ok k e10 =>
        rw [q10, bnd_ok] at hc7
        intro H10 go10
        have g10 := go8.trans (go9.trans go10)
        have back1 : ∀ {e6 : Env} {H6 : Hp}, Go g (Pl P Dd) ps ej (L2.wipe σ4 vs1) H7 e6 σ9 H6 → Go g (Pl P Dd) ps ej (L2.wipe σ4 vs1) H7 (wipeE e6 vs1) (L2.wipe σ4 vs1) H6 := fun {e6 H6} g6 => by
          have w := g6.st.wipe (vs := vs1) hp1
          rw [wipe_only o9 hsl1] at w
          exact g6.trans w
        cases k with
        | false =>
          rw [if_neg Bool.false_ne_true] at hc7 ⊢
          have g11 := back1 g10
          exact ⟨_, acc2, us2, rest2, g11.st, fun b o q n => g11.kp b o (k7 b o q n).1 ⟨(k7 b o q n).2, n.2⟩, fun b o q n => g11.kp b o (kj7 b o q n).1 ⟨(kj7 b o q n).2, n.2⟩, fun b w => (g11.pr b (.inl w)).trans (p7 b w), (g11.pr Dd (.inr rfl)).trans hD7, RepL.kp g11.kp _ _ ra7, hc7, hres7⟩
        | true =>
          rw [if_pos rfl] at hc7 ⊢
          cases q11 : fe e10 with
          | bad => rw [q11] at hc7; cases hc7
          | exc x e11 => rw [q11] at hc7; cases hc7
          | ok yd e11 =>
          rw [q11, bnd_ok] at hc7
          cases q12 : compL vs1 t1 tt1 fe (ds1.drop (j + 1)) (wipeE e11 vs1) with
          | bad => rw [q12] at hc7; cases hc7
          | exc x e12 => rw [q12] at hc7; cases hc7
          | ok r12 e12 =>
          rw [q12, bnd_ok] at hc7
          cases hc7
          refine he2 Dd _ _ _ (tD_of go10.st ?_)
          rw [q11]
          intro H11 go11 w rw'
          have g11 := g10.trans go11
          have hD11 : H11 Dd = some (.lst us2) := (g11.pr Dd (.inr rfl)).trans hD7
          have g12 := back1 g11
          have w12 := go11.st.wipe (vs := vs1) hp1
          rw [wipe_only o9 hsl1] at w12
          have ra12 := RepL.kp g12.kp _ _ ra7
          have hle : acc2.length < 16777216 := by
            have e1 : (acc2 ++ yd :: r12).length = (acc ++ rs).length := by rw [hres7]
            have e2 : (acc ++ (rs ++ r8)).length < 16777216 := by rw [← hres]; exact hlen
            simp only [List.length_append, List.length_cons] at e1 e2
            omega
          refine ⟨us2, hD11, by rw [sizeLine_eq, ← ra12.length]; omega, ?_⟩
          obtain ⟨h1, h2, h3⟩ := grow g12.st hD11 ra12 (Rep.kp w12.kp _ _ rw')
          refine ⟨_, acc2 ++ [yd], us2 ++ [w], r12, h1, fun b o q n => ?_, fun b o q n => ?_, fun b hb => ?_, upd_same, h3, q12, by rw [hres7, List.append_assoc]; rfl⟩
          · obtain ⟨y1, y2⟩ := g12.kp b o (k7 b o q n).1 ⟨(k7 b o q n).2, n.2⟩
            exact h2 b o y1 ⟨y2, n.2⟩
          · obtain ⟨y1, y2⟩ := g12.kp b o (kj7 b o q n).1 ⟨(kj7 b o q n).2, n.2⟩
            exact h2 b o y1 ⟨y2, n.2⟩
          · have hb' : b ≠ Dd := fun y => nD (.inl (by rw [← y]; exact hb))
            rw [upd_ne hb']
            exact (g12.pr b (.inl hb)).trans (p7 b hb)
      · have e9 : j = ds1.length := by omega
        subst e9
        rw [List.drop_length] at hc7
        cases hc7
        rw [List.append_nil] at hres7
        refine .inl ⟨okJ.stop _ _ _ H7 s7 kj7, ?_⟩
        -- back to the outer turns
        have wo := s7.wipe (vs := own.map (·.2)) hp
        have ew : L2.wipe (L2.wipe σ4 vs1) (own.map (·.2)) = L2.wipe σ (own.map (·.2)) := by
          rw [← wipe_only o4 hsl]
          apply List.ext_getElem?
          intro y
          by_cases hy : y ∈ own.map (·.2)
          · have key : ∀ τ τ' : L2.St, τ.length = τ'.length → ∀ us : List Nat, y ∈ us → (L2.wipe τ us)[y]? = (L2.wipe τ' us)[y]? := by
              intro τ τ' hτ us
              induction us with
              | nil => intro z; cases z
              | cons u us ih =>
                intro z
                unfold L2.wipe
                by_cases hu : u = y
                · subst hu
                  rw [List.getElem?_set, List.getElem?_set, wipe_length, wipe_length, hτ]
                  simp
                · rw [List.getElem?_set_ne hu, List.getElem?_set_ne hu]
                  rcases List.mem_cons.mp z with w | w
                  · exact absurd w.symm hu
                  · exact ih w
            exact key _ _ (wipe_length _ _) _ hy
          · have hy1 : y ∉ vs1 := fun z => hy (hv1 _ z)
            rw [wipe_out1 hy, wipe_out1 hy1, wipe_out1 hy]
        rw [ew] at wo
        refine ⟨_, acc2, us2, r8, wo.st, fun b o q n => wo.kp b o (k7 b o q n).1 ⟨(k7 b o q n).2, n.2⟩, p7, hD7, RepL.kp wo.kp _ _ ra7, q8, by rw [hres, ← List.append_assoc, hres7]⟩
  · have e9 : i = ds.length := by omega
    subst e9
    rw [List.drop_length] at hc2
    cases hc2
    refine .inl ⟨ok.stop _ _ _ H2 s2 k2, ?_⟩
    rw [List.append_nil] at hres
    subst hres
    exact z _ _ (GoM.unwipe go1.st hv s2 k2 p2 (fun w => nD (.inl w)) hD2 ra)
theorem dm_comp2 (vs1 : List Nat) (hN : X.N.Nodup) (hc : X.calm = true) (hi : DI g mp X tg iter fi) (ok : BlkOk X.N X.env.scope scope own)
    (hg : ∀ (s : Shared) (H : Hp) (C : Addr) (cl : List (Str × Addr)) (fp : List Addr), DG g mp (X.blk s H scope (compEnvC scope cl C X.env) fp) tg sl t) (ht : ∀ (s : Shared) (H : Hp) (C : Addr) (cl : List (Str × Addr)) (fp : List Addr), DTs g mp (X.blk s H scope (compEnvC scope cl C X.env) fp) ifs tt)
    (hi1 : ∀ (s : Shared) (H : Hp) (C : Addr) (cl : List (Str × Addr)) (fp : List Addr), DI g mp (X.blk s H scope (compEnvC scope cl C X.env) fp) tg1 iter1 fi1)
    (hg1 : ∀ (s : Shared) (H : Hp) (C : Addr) (cl : List (Str × Addr)) (fp : List Addr), DG g mp (X.blk s H scope (compEnvC scope cl C X.env) fp) tg1 sl1 t1) (ht1 : ∀ (s : Shared) (H : Hp) (C : Addr) (cl : List (Str × Addr)) (fp : List Addr), DTs g mp (X.blk s H scope (compEnvC scope cl C X.env) fp) ifs1 tt1)
    (he : ∀ (s : Shared) (H : Hp) (C : Addr) (cl : List (Str × Addr)) (fp : List Addr), DE g mp (X.blk s H scope (compEnvC scope cl C X.env) fp) elt fe) (hm : ∀ j ∈ own.map (·.2), j ∉ mp := by decide) (hsl : ∀ j ∈ sl, j ∈ own.map (·.2) := by decide)
    (hv1 : ∀ j ∈ vs1, j ∈ own.map (·.2) := by decide) (hsl1 : ∀ j ∈ sl1, j ∈ vs1 := by decide) (hs : ∀ x, foldedSetIterable iter X.env x = pure x := by intro _; rfl) (hs1 : ∀ env x, foldedSetIterable iter1 env x = pure x := by intro _ _; rfl) :
    DM g mp X (.ListComp elt [⟨tg, iter, ifs, 0⟩, ⟨tg1, iter1, ifs1, 0⟩] scope pos) (mComp2 (own.map (·.2)) vs1 fi t tt fi1 t1 tt1 fe) := ⟨fun P ps W hp tk => by
  have hpo : ∀ p ∈ ps, p.1 ∉ own.map (·.2) := fun p h z => hm _ z (by rw [← hp]; exact List.mem_map_of_mem h)
  refine ⟨fun pins s σ H Q I q => ?_⟩
  refine (pe_lc2 (g := fun v σ H Q => ∃ a, tG g (Pl P a) ps sl t v σ H Q) (tt := fun σ H Q => ∃ a, tB g (Pl P a) ps (fun _ _ _ _ => False) tt σ H Q) (wi1 := fun σ H Q => ∃ a, tI g (Pl P a) ps (fun _ _ _ _ => False) fi1 σ H Q)
      (g1 := fun v σ H Q => ∃ a, tG g (Pl P a) ps sl1 t1 v σ H Q) (tt1 := fun σ H Q => ∃ a, tB g (Pl P a) ps (fun _ _ _ _ => False) tt1 σ H Q) (te := fun σ H Q => ∃ a, tD g (Pl P a) ps (fun _ _ _ _ => False) fe σ H Q) hc hN (hi.run P ps W hp tk) ok hv1
      (fun s H C cl fp => ?_) (fun s H C cl fp => ?_) (fun s H C cl fp => ?_) (fun s H C cl fp => ?_) (fun s H C cl fp => ?_) (fun s H C cl fp => ?_) hs hs1).run pins s σ H Q I
    (tLc2_of hpo hsl hv1 hsl1 q _ _ _ _ _ _ (fun a v σ H Q z => ⟨a, z⟩) (fun a σ H Q z => ⟨a, z⟩) (fun a σ H Q z => ⟨a, z⟩) (fun a v σ H Q z => ⟨a, z⟩) (fun a σ H Q z => ⟨a, z⟩) (fun a σ H Q z => ⟨a, z⟩))
  · exact ⟨fun pins s' σ' H' v u Q I r ⟨a, z⟩ => ((hg s H C cl fp).run (Pl P a) ps hp).run pins s' σ' H' v u Q I r z⟩
  · exact ⟨fun pins s' σ' H' Q I ⟨a, z⟩ => ((ht s H C cl fp).run (Pl P a) ps _ hp takes0).run pins s' σ' H' Q I z⟩
  · exact ⟨fun pins s' σ' H' Q I ⟨a, z⟩ => ((hi1 s H C cl fp).run (Pl P a) ps _ hp takes0).run pins s' σ' H' Q I z⟩
  · exact ⟨fun pins s' σ' H' v u Q I r ⟨a, z⟩ => ((hg1 s H C cl fp).run (Pl P a) ps hp).run pins s' σ' H' v u Q I r z⟩
  · exact ⟨fun pins s' σ' H' Q I ⟨a, z⟩ => ((ht1 s H C cl fp).run (Pl P a) ps _ hp takes0).run pins s' σ' H' Q I z⟩
  · exact ⟨fun pins s' σ' H' Q I ⟨a, z⟩ => ((he s H C cl fp).run (Pl P a) ps _ hp takes0).run pins s' σ' H' Q I z⟩⟩
theorem ds_lc2 (i : Nat) (vs1 : List Nat) {y : Str} {py spos : Pos} {f : Env → RS} (hi0 : i ∉ mp) (hf : ∀ P ps W Dn σ H, i < σ.length → i ∉ ps.map (·.1) → tS g P ps W f Dn σ H → tM g P ps W (mComp2 (own.map (·.2)) vs1 fi t tt fi1 t1 tt1 fe) σ H (fun x H1 => gName i x σ H1 Dn.nx)) (hN : X.N.Nodup) (hc : X.calm = true) (hy : X.N[i]? = some y) (hyl : X.env.scope.names.lookup y = some .local)
    (hsw : swapsWith (.ListComp elt [⟨tg, iter, ifs, 0⟩, ⟨tg1, iter1, ifs1, 0⟩] scope pos) (some (.Name y py)) spos.line X.env = pure true) (hi : DI g mp X tg iter fi) (ok : BlkOk X.N X.env.scope scope own)
    (hg : ∀ (s : Shared) (H : Hp) (C : Addr) (cl : List (Str × Addr)) (fp : List Addr), DG g mp (X.blk s H scope (compEnvC scope cl C X.env) fp) tg sl t) (ht : ∀ (s : Shared) (H : Hp) (C : Addr) (cl : List (Str × Addr)) (fp : List Addr), DTs g mp (X.blk s H scope (compEnvC scope cl C X.env) fp) ifs tt)
    (hi1 : ∀ (s : Shared) (H : Hp) (C : Addr) (cl : List (Str × Addr)) (fp : List Addr), DI g mp (X.blk s H scope (compEnvC scope cl C X.env) fp) tg1 iter1 fi1)
    (hg1 : ∀ (s : Shared) (H : Hp) (C : Addr) (cl : List (Str × Addr)) (fp : List Addr), DG g mp (X.blk s H scope (compEnvC scope cl C X.env) fp) tg1 sl1 t1) (ht1 : ∀ (s : Shared) (H : Hp) (C : Addr) (cl : List (Str × Addr)) (fp : List Addr), DTs g mp (X.blk s H scope (compEnvC scope cl C X.env) fp) ifs1 tt1)
    (he : ∀ (s : Shared) (H : Hp) (C : Addr) (cl : List (Str × Addr)) (fp : List Addr), DE g mp (X.blk s H scope (compEnvC scope cl C X.env) fp) elt fe) (hm : ∀ j ∈ own.map (·.2), j ∉ mp) (hsl : ∀ j ∈ sl, j ∈ own.map (·.2))
    (hv1 : ∀ j ∈ vs1, j ∈ own.map (·.2)) (hsl1 : ∀ j ∈ sl1, j ∈ vs1) (hs : ∀ x, foldedSetIterable iter X.env x = pure x) (hs1 : ∀ env x, foldedSetIterable iter1 env x = pure x) :
    DS g mp X (.Assign [.Name y py] (.ListComp elt [⟨tg, iter, ifs, 0⟩, ⟨tg1, iter1, ifs1, 0⟩] scope pos) spos) f := ⟨fun P ps W hp tk => by
  have hpo : ∀ p ∈ ps, p.1 ∉ own.map (·.2) := fun p h z => hm _ z (by rw [← hp]; exact List.mem_map_of_mem h)
  refine ⟨fun pins s σ H Dn I q => ?_⟩
  have hl : i < σ.length := by
    rw [I.len]
    exact (List.getElem?_eq_some_iff.mp hy).1
  have q := hf P ps W Dn σ H hl (by rw [hp]; exact hi0) q
  refine (ps_setLc2 (g := fun v σ H Q => ∃ a, tG g (Pl P a) ps sl t v σ H Q) (tt := fun σ H Q => ∃ a, tB g (Pl P a) ps (fun _ _ _ _ => False) tt σ H Q) (wi1 := fun σ H Q => ∃ a, tI g (Pl P a) ps (fun _ _ _ _ => False) fi1 σ H Q)
      (g1 := fun v σ H Q => ∃ a, tG g (Pl P a) ps sl1 t1 v σ H Q) (tt1 := fun σ H Q => ∃ a, tB g (Pl P a) ps (fun _ _ _ _ => False) tt1 σ H Q) (te := fun σ H Q => ∃ a, tD g (Pl P a) ps (fun _ _ _ _ => False) fe σ H Q) hc hN hy hyl hsw (hi.run P ps W hp tk) ok hv1
      (fun s H C cl fp => ?_) (fun s H C cl fp => ?_) (fun s H C cl fp => ?_) (fun s H C cl fp => ?_) (fun s H C cl fp => ?_) (fun s H C cl fp => ?_) hs hs1).run pins s σ H Dn I
    (tLc2_of hpo hsl hv1 hsl1 q _ _ _ _ _ _ (fun a v σ H Q z => ⟨a, z⟩) (fun a σ H Q z => ⟨a, z⟩) (fun a σ H Q z => ⟨a, z⟩) (fun a v σ H Q z => ⟨a, z⟩) (fun a σ H Q z => ⟨a, z⟩) (fun a σ H Q z => ⟨a, z⟩))
  · exact ⟨fun pins s' σ' H' v u Q I r ⟨a, z⟩ => ((hg s H C cl fp).run (Pl P a) ps hp).run pins s' σ' H' v u Q I r z⟩
  · exact ⟨fun pins s' σ' H' Q I ⟨a, z⟩ => ((ht s H C cl fp).run (Pl P a) ps _ hp takes0).run pins s' σ' H' Q I z⟩
  · exact ⟨fun pins s' σ' H' Q I ⟨a, z⟩ => ((hi1 s H C cl fp).run (Pl P a) ps _ hp takes0).run pins s' σ' H' Q I z⟩
  · exact ⟨fun pins s' σ' H' v u Q I r ⟨a, z⟩ => ((hg1 s H C cl fp).run (Pl P a) ps hp).run pins s' σ' H' v u Q I r z⟩
  · exact ⟨fun pins s' σ' H' Q I ⟨a, z⟩ => ((ht1 s H C cl fp).run (Pl P a) ps _ hp takes0).run pins s' σ' H' Q I z⟩
  · exact ⟨fun pins s' σ' H' Q I ⟨a, z⟩ => ((he s H C cl fp).run (Pl P a) ps _ hp takes0).run pins s' σ' H' Q I z⟩⟩
theorem ds_lc2V (i : Nat) (vs1 : List Nat) {y : Str} {py spos : Pos} (hN : X.N.Nodup) (hc : X.calm = true) (hi : DI g mp X tg iter fi) (ok : BlkOk X.N X.env.scope scope own)
    (hg : ∀ (s : Shared) (H : Hp) (C : Addr) (cl : List (Str × Addr)) (fp : List Addr), DG g mp (X.blk s H scope (compEnvC scope cl C X.env) fp) tg sl t) (ht : ∀ (s : Shared) (H : Hp) (C : Addr) (cl : List (Str × Addr)) (fp : List Addr), DTs g mp (X.blk s H scope (compEnvC scope cl C X.env) fp) ifs tt)
    (hi1 : ∀ (s : Shared) (H : Hp) (C : Addr) (cl : List (Str × Addr)) (fp : List Addr), DI g mp (X.blk s H scope (compEnvC scope cl C X.env) fp) tg1 iter1 fi1)
    (hg1 : ∀ (s : Shared) (H : Hp) (C : Addr) (cl : List (Str × Addr)) (fp : List Addr), DG g mp (X.blk s H scope (compEnvC scope cl C X.env) fp) tg1 sl1 t1) (ht1 : ∀ (s : Shared) (H : Hp) (C : Addr) (cl : List (Str × Addr)) (fp : List Addr), DTs g mp (X.blk s H scope (compEnvC scope cl C X.env) fp) ifs1 tt1)
    (he : ∀ (s : Shared) (H : Hp) (C : Addr) (cl : List (Str × Addr)) (fp : List Addr), DE g mp (X.blk s H scope (compEnvC scope cl C X.env) fp) elt fe)
    (hy : X.N[i]? = some y := by rfl) (hyl : X.env.scope.names.lookup y = some .local := by rfl) (hsw : swapsWith (.ListComp elt [⟨tg, iter, ifs, 0⟩, ⟨tg1, iter1, ifs1, 0⟩] scope pos) (some (.Name y py)) spos.line X.env = pure true := by rfl) (hi0 : i ∉ mp := by decide)
    (hm : ∀ j ∈ own.map (·.2), j ∉ mp := by decide) (hsl : ∀ j ∈ sl, j ∈ own.map (·.2) := by decide) (hv1 : ∀ j ∈ vs1, j ∈ own.map (·.2) := by decide) (hsl1 : ∀ j ∈ sl1, j ∈ vs1 := by decide) (hs : ∀ x, foldedSetIterable iter X.env x = pure x := by intro _; rfl) (hs1 : ∀ env x, foldedSetIterable iter1 env x = pure x := by intro _ _; rfl) :
    DS g mp X (.Assign [.Name y py] (.ListComp elt [⟨tg, iter, ifs, 0⟩, ⟨tg1, iter1, ifs1, 0⟩] scope pos) spos) (sAsg (dM (mComp2 (own.map (·.2)) vs1 fi t tt fi1 t1 tt1 fe)) (gtN i)) :=
  ds_lc2 i vs1 hi0 (fun P ps W Dn σ H hl hm q => tM_asgV hm q) hN hc hy hyl hsw hi ok hg ht hi1 hg1 ht1 he hm hsl hv1 hsl1 hs hs1
theorem ds_lc2M (i : Nat) (vs1 : List Nat) {y : Str} {py spos : Pos} (hN : X.N.Nodup) (hc : X.calm = true) (hi : DI g mp X tg iter fi) (ok : BlkOk X.N X.env.scope scope own)
    (hg : ∀ (s : Shared) (H : Hp) (C : Addr) (cl : List (Str × Addr)) (fp : List Addr), DG g mp (X.blk s H scope (compEnvC scope cl C X.env) fp) tg sl t) (ht : ∀ (s : Shared) (H : Hp) (C : Addr) (cl : List (Str × Addr)) (fp : List Addr), DTs g mp (X.blk s H scope (compEnvC scope cl C X.env) fp) ifs tt)
    (hi1 : ∀ (s : Shared) (H : Hp) (C : Addr) (cl : List (Str × Addr)) (fp : List Addr), DI g mp (X.blk s H scope (compEnvC scope cl C X.env) fp) tg1 iter1 fi1)
    (hg1 : ∀ (s : Shared) (H : Hp) (C : Addr) (cl : List (Str × Addr)) (fp : List Addr), DG g mp (X.blk s H scope (compEnvC scope cl C X.env) fp) tg1 sl1 t1) (ht1 : ∀ (s : Shared) (H : Hp) (C : Addr) (cl : List (Str × Addr)) (fp : List Addr), DTs g mp (X.blk s H scope (compEnvC scope cl C X.env) fp) ifs1 tt1)
    (he : ∀ (s : Shared) (H : Hp) (C : Addr) (cl : List (Str × Addr)) (fp : List Addr), DE g mp (X.blk s H scope (compEnvC scope cl C X.env) fp) elt fe)
    (hy : X.N[i]? = some y := by rfl) (hyl : X.env.scope.names.lookup y = some .local := by rfl) (hsw : swapsWith (.ListComp elt [⟨tg, iter, ifs, 0⟩, ⟨tg1, iter1, ifs1, 0⟩] scope pos) (some (.Name y py)) spos.line X.env = pure true := by rfl) (hi0 : i ∉ mp := by decide)
    (hm : ∀ j ∈ own.map (·.2), j ∉ mp := by decide) (hsl : ∀ j ∈ sl, j ∈ own.map (·.2) := by decide) (hv1 : ∀ j ∈ vs1, j ∈ own.map (·.2) := by decide) (hsl1 : ∀ j ∈ sl1, j ∈ vs1 := by decide) (hs : ∀ x, foldedSetIterable iter X.env x = pure x := by intro _; rfl) (hs1 : ∀ env x, foldedSetIterable iter1 env x = pure x := by intro _ _; rfl) :
    DS g mp X (.Assign [.Name y py] (.ListComp elt [⟨tg, iter, ifs, 0⟩, ⟨tg1, iter1, ifs1, 0⟩] scope pos) spos) (sAsgM i (mComp2 (own.map (·.2)) vs1 fi t tt fi1 t1 tt1 fe)) :=
  ds_lc2 i vs1 hi0 (fun P ps W Dn σ H hl hm q => tM_asgM hl hm q) hN hc hy hyl hsw hi ok hg ht hi1 hg1 ht1 he hm hsl hv1 hsl1 hs hs1
end

/-! ### a, b, .. = a tuple or a list -/
def gtSeq (n : Nat) (t : List D → Env → Option Env) : D → Env → Option Env := fun d e => match d with
  | .tup ds => if ds.length = n then t ds e else none
  | .lst ds => if ds.length = n then t ds e else none
  | _ => none
theorem dg_seq {g : G} {mp : List Nat} {X : Cx} {tgs : List Expr} {pos : Pos} {sl : List Nat} {t : List D → Env → Option Env} {n : Nat} {k : Nat} (hK : X.K = g.K) (hc : X.calm = true) (h : DGs g mp X tgs sl t) (hn : (assignEach tgs X.env).length = n := by rfl) (hst : (assignEach tgs X.env).findIdx? (·.1) = none := by rfl) : DG g mp X (.Tuple tgs k pos) sl (gtSeq n t) :=
  ⟨fun P ps hp => ⟨fun pins s0 σ H v u Q I ru ⟨e, d, s, r, e', q, kk⟩ => by
    cases d <;> first | (cases q; done) | skip
    · rename_i ds
      obtain ⟨a, vs, rfl, hq, rr⟩ := r
      have q : (if ds.length = n then t ds e else none) = some e' := q
      split at q
      · rename_i hl
        exact (pg_tup hc (h.run P ps hp) hn hst).run pins s0 σ H _ u Q I ru ⟨a, vs, rfl, by rw [hK]; exact hq.sq, by rw [← rr.length]; exact hl, e, ds, s, rr, e', q, kk⟩
      · cases q
    · rename_i ds
      obtain ⟨a, vs, rfl, hq, rr⟩ := r
      have q : (if ds.length = n then t ds e else none) = some e' := q
      split at q
      · rename_i hl
        exact (pg_lst hc (h.run P ps hp) hn hst).run pins s0 σ H _ u Q I ru ⟨a, vs, rfl, by rw [hK]; exact hq.sq, by rw [← rr.length]; exact hl, e, ds, s, rr, e', q, kk⟩
      · cases q⟩⟩
end DL
end

section
set_option Elab.async false
set_option linter.all false
set_option maxRecDepth 100000
set_option maxHeartbeats 4000000
/-! DlZ1: several defs that make lambdas; sorted; extend; slices turned about. -/
namespace DL
open PySem PySem.Spec PyProof.Rows L2 DX LamX
/-- a def that makes lambdas -/
theorem dfn_mkL {n : Nat} {g : G} {Pr : Program} {w : World} {mg : Str → Option Value} {base : Heap} {x : Str} {st : Stmt} {N pn : List Str} {k : Nat} {mp : List Nat} {fb : Env → RS} {cc : Addr} (h : DefAt g mg n x st) (hL : DefAtL g mg n x st cc) (S : FnScope N pn (defScope st))
    (hb : ∀ (kV doc pm : Value) (an : Option Addr) (cdv ct : Value) (us : List Value), us.length = pn.length → bindArgs (PySem.W.fnOf x x (defArgs st) (defBody st) (defScope st) .none kV doc pm an cdv ct) ⟨us, []⟩ = pure (pn.zip us))
    (hbody : ∀ (f : Addr) (A : Around) (outer : List PySem.Env) (s : Shared) (H : Hp) (E : XK), Room k (A.deeper (envOfC x (defScope st) s.heap.objs.size f (.ref cc))) → (A.deeper (envOfC x (defScope st) s.heap.objs.size f (.ref cc))).guards = some [] →
      DSs g mp (cxOf (L2.CX Pr w) Pr w g.K mg base N x (defScope st) f (.ref cc) A outer s H E) (defBody st) fb) :
    DfnG g Pr w g.K mg base (k + 1) x pn.length mp (fun ss => fin mp (fb (startE N.length ss))) := by
  obtain ⟨fd, F, hm⟩ := h.ex
  obtain ⟨oc, od, kV, doc, pm, an, ct, osl, lk, hcd⟩ := hL.ex
  have Fx := F.ex
  obtain ⟨oc', od', kV', doc', pm', an', cdv', ct', osl', rfl, lk', hcd'⟩ := Fx
  rw [lk'] at lk
  cases lk
  refine ⟨_, _, pn, N, ⟨fun vs H Q E h => h.1, fun A outer s H args us vs Q E hr hgd e0 hbt r hsp => ?_⟩, hm, F.kp, F.binds hb⟩
  refine LamX.run_ofS (N := N) (ps := pn) lk' hcd S hr e0 hbt r hsp.1 fun hr' => ?_
  obtain ⟨_, P, ps, ss, hm, hl, st', hA, hR⟩ := hsp
  refine ⟨_, (hbody _ A outer s H E hr' (gd_deeper hgd)).run P ps (fun cls d _ H' => E cls d H') hm (takes_of rfl rfl rfl rfl), ?_⟩
  refine tS_eq.mpr ⟨_, st', ?_⟩
  replace hR : ROK g P ps H (fin mp (fb (startE N.length ss))) Q E := hR
  revert hR
  cases fb (startE N.length ss) with
  | nx e' => exact fun hR σ' H' go => hR .non H' (go.after hm hA) rfl
  | rt z e' => cases z with
    | v d => exact fun hR v σ' H' go rv => hR v H' (go.after hm hA) (Rep.mono (fun a z => go.st.ap z) rv)
    | m ds => exact fun hR a σ' H' gm => hR a H' (gm.after hm hA)
  | bk e' => exact fun hR => hR.elim
  | ct e' => exact fun hR => hR.elim
  | exc y e' => exact fun hR cls d σ' H' go rx => hR cls d H' (go.after hm hA) (XRep.kp (fun b o q n => ⟨q, fun z => n.1 (go.st.ap z)⟩) rx)
  | bad => exact fun hR => hR.elim

/-! ### sorted of whole numbers -/
def insI (x : Int) : List Int → List Int
  | [] => [x]
  | y :: ys => if x ≤ y then x :: y :: ys else y :: insI x ys
def sortI : List Int → List Int
  | [] => []
  | x :: xs => insI x (sortI xs)
theorem insI_perm (x : Int) : ∀ ys : List Int, (insI x ys).Perm (x :: ys)
  | [] => .refl _
  | y :: ys => by
    unfold insI
    split
    · exact .refl _
    · exact (List.Perm.cons y (insI_perm x ys)).trans (List.Perm.swap x y ys)
theorem sortI_perm : ∀ xs : List Int, (sortI xs).Perm xs
  | [] => .refl _
  | x :: xs => (insI_perm x (sortI xs)).trans (List.Perm.cons x (sortI_perm xs))
theorem insI_pw (x : Int) : ∀ ys : List Int, ys.Pairwise (· ≤ ·) → (insI x ys).Pairwise (· ≤ ·)
  | [], _ => List.pairwise_singleton _ _
  | y :: ys, h => by
    unfold insI
    rw [List.pairwise_cons] at h
    split
    · rename_i q
      refine List.pairwise_cons.mpr ⟨fun z hz => ?_, List.pairwise_cons.mpr h⟩
      rcases List.mem_cons.mp hz with e | e
      · rw [e]; exact q
      · exact Int.le_trans q (h.1 z e)
    · rename_i q
      refine List.pairwise_cons.mpr ⟨fun z hz => ?_, insI_pw x ys h.2⟩
      rcases List.mem_cons.mp ((insI_perm x ys).mem_iff.mp hz) with e | e
      · rw [e]; omega
      · exact h.1 z e
theorem sortI_pw : ∀ xs : List Int, (sortI xs).Pairwise (· ≤ ·)
  | [] => List.Pairwise.nil
  | x :: xs => insI_pw x _ (sortI_pw xs)
theorem sort_uniq {l m : List Int} (p : l.Perm m) (hl : l.Pairwise (· ≤ ·)) (hm : m.Pairwise (· ≤ ·)) : l = m :=
  List.Perm.eq_of_pairwise (le := (· ≤ ·)) (fun a b _ _ h1 h2 => Int.le_antisymm h1 h2) hl hm p
def sortD : D → Option D
  | .lst xs => (intsOf xs).map fun ns => .lst ((sortI ns).map D.int)
  | _ => none
theorem repL_ints {g : G} {H : Hp} {A : Addr → Prop} : ∀ ns : List Int, RepL g H A (ns.map D.int) (ns.map V.int)
  | [] => rfl
  | n :: ns => ⟨.int n, ns.map V.int, rfl, rfl, repL_ints ns⟩
section
variable {g : G} {X : Cx}
theorem oc_sorted (hK : X.K = g.K) : OpC g (rSortedI X.K) (on1 sortD) := fun A H xs as d Q tr r h k => by
  cases as with
  | nil => cases h
  | cons a as =>
    cases as with
    | cons b bs => cases h
    | nil =>
      obtain ⟨v, r', rfl, rv, rr⟩ := r
      cases (show r' = [] from rr)
      have h : sortD a = some d := h
      clear rr
      obtain ⟨ds, rfl⟩ : ∃ ds, a = .lst ds := by
        cases a <;> first | (cases h; done) | exact ⟨_, rfl⟩
      obtain ⟨ns, h1, rfl⟩ := Option.map_eq_some_iff.mp (show (intsOf ds).map (fun ns => D.lst ((sortI ns).map D.int)) = some d from h)
      obtain ⟨p, vs, rfl, hq, hr⟩ := rv
      have e := intsOf_ok hr h1
      subst e
      refine ⟨p, ns, rfl, by rw [hK]; exact hq.sq, fun ns' q hp hw hn => ?_⟩
      have e2 : ns' = sortI ns := sort_uniq (hp.trans (sortI_perm ns).symm) hw (sortI_pw ns)
      subst e2
      exact k _ _ (same_new hn) (rep_lst (tr.fresh hn) hn (repL_ints _))
end
end DL
end

section
set_option Elab.async false
set_option linter.all false
set_option maxRecDepth 100000
set_option maxHeartbeats 4000000
/-! DlZ2: sorted(set(..)) of whole numbers. -/
namespace DX
open PySem PySem.Spec PyProof.Rows L2
section
variable {P : Program} {w : World} {A : Around} {E : Value → Shared → Prop} {s : Shared}
set_option maxRecDepth 100000 in
set_option maxHeartbeats 3200000 in
theorem call_set_lstI {l : Addr} {items : Array Value} (ns : List Int) {Q : Value → Shared → Prop} (hh : A.handled = none) (hl : s.heap.IsList l items) (hit : IntsAre items.toList ns) (hb : ns.length + 1 < scanBound)
    (h : ∀ (h' : Heap) (tk c : Nat), SetR w h' s.heap.objs.size (fun j => decide (j ∈ ns)) c → c ≤ ns.length → (∀ b o, s.heap.get? b = some o → h'.get? b = some o) → Q (.ref s.heap.objs.size) { s with heap := h', toks := tk }) :
    wpAny (model P w) A (call (.type "set") [.ref l]) Q E s := by
  have hisz : items.size = ns.length := by
    have q := IntsAre.length hit
    rw [Array.length_toList] at q
    exact q
  obtain ⟨c, tl, hmro⟩ := F.called_set.mro
  have hmade := F.called_set.made
  have hsub := F.called_set.sub
  refine wpAny_call (codeAny_of_tree ?_)
  show wpAny _ _ (callAny (.type "set") _) _ _ _
  refine wpAny_pure ⟨Code.quiet_builtin _ (by decide +kernel), codeAny_builtin F.entry_type_call ?_⟩
  rw [Around.under_plain (weight_type_call_type "set" [.ref l] []) rfl]
  have h1 := F.called_set.notType
  have h2 := F.called_set.canCreate
  have hct := F.typeCall_set_1 (.ref l)
  repeat (any_goals (first | assumption | wp_step))

  refine codeAny_mono (code_set_led1 (.ref l) (E := E) (Q₁ := fun obj s₁ => obj = .ref s.heap.objs.size ∧ s₁ = { s with heap := s.heap.push { cls := .type "set", dict := none, data := .set #[] 0 (.fresh 0 0 (!w.params.followText "set-order")) } }) ⟨rfl, rfl⟩) fun r s₁ hr => ?_
  cases r with
  | error e => exact hr
  | ok fl =>
    cases fl with
    | ret obj =>
      obtain ⟨rfl, rfl⟩ := hr
      have hS : (s.heap.push { cls := .type "set", dict := none, data := .set #[] 0 (.fresh 0 0 (!w.params.followText "set-order")) }).get? s.heap.objs.size = some { cls := .type "set", dict := none, data := .set #[] 0 (.fresh 0 0 (!w.params.followText "set-order")) } := Heap.get?_push_size _ rfl
      have hT : Shared.TypeIs { s with heap := s.heap.push { cls := .type "set", dict := none, data := .set #[] 0 (.fresh 0 0 (!w.params.followText "set-order")) } } (.ref s.heap.objs.size) "set" := ⟨_, hS, rfl⟩
      have hli := F.called_set.init.lookup
      have hbi := F.called_set.init.bind (.ref s.heap.objs.size)
      repeat (any_goals (first | assumption | wp_step))

      refine codeAny_mono (codeAny_call_builtin (R := wants (fun r s₂ => r = .none ∧ ∃ h' tk c, s₂ = { s with heap := h', toks := tk } ∧ SetR w h' s.heap.objs.size (fun j => decide (j ∈ ns)) c ∧ c ≤ ns.length ∧
          (∀ b o, s.heap.get? b = some o → h'.get? b = some o)) E) F.called_set.init.plain F.entry_set_init (check_set_init_1 hT ?_)) fun r₂ s₂ hr₂ => ?_
      · obtain ⟨ol, hol, hcl, nl, hdl⟩ := hl
        obtain ⟨ocls, odict, odata, oslots⟩ := ol
        simp only at hcl hdl
        subst hcl; subst hdl
        have hol' : (s.heap.push { cls := .type "set", dict := none, data := .set #[] 0 (.fresh 0 0 (!w.params.followText "set-order")) }).get? l = some { cls := .type "list", dict := odict, data := .seq items nl, slots := oslots } := Heap.get?_push_of_some _ hol
        have hsls := F.sub_list_set
        have hslf := F.sub_list_frozenset
        have hne : (Value.type "list" == Value.type "dict") = false := by decide
        have hl1 : (s.heap.push { cls := .type "set", dict := none, data := .set #[] 0 (.fresh 0 0 (!w.params.followText "set-order")) }).IsList l items := ⟨_, hol', rfl, nl, rfl⟩
        unfold Builtin.«set.__init__» noKeywords Builtin.Frozenset.updateFrom
        generalize hPI : pyIter = PI
        wp_walk
        subst hPI

        refine wpAny_pyIter_list hl1 ?_
        refine wpAny_bind (wpAny_runValue ?_)
        have hlS : l < s.heap.objs.size := Heap.lt_size hol
        have hh3 : A.in1.in1.in1.handled = none := by simp [hh]
        have hz1 : (s.heap.push { cls := .type "set", dict := none, data := .set #[] 0 (.fresh 0 0 (!w.params.followText "set-order")) }).objs.size = s.heap.objs.size + 1 := Heap.size_push ..
        have hneI : l ≠ (s.heap.push { cls := .type "set", dict := none, data := .set #[] 0 (.fresh 0 0 (!w.params.followText "set-order")) }).objs.size := by
          rw [Heap.size_push]; exact Nat.ne_of_lt (Nat.lt_succ_of_lt hlS)
        have hSf : s.heap.objs.size ∉ [(s.heap.push { cls := .type "set", dict := none, data := .set #[] 0 (.fresh 0 0 (!w.params.followText "set-order")) }).objs.size, l] := by
          rw [Heap.size_push]; simp only [List.mem_cons, List.mem_singleton, List.not_mem_nil, or_false, not_or]
          exact ⟨Nat.ne_of_lt (Nat.lt_succ_self _), Nat.ne_of_gt hlS⟩
        have hval : ∀ (i : Nat) (v : Value), items[i]? = some v → ∃ k t, ns[i]? = some k ∧ v = .int k t := fun i v hv => by
          have hi : i < ns.length := by rw [← hisz]; exact (Array.getElem?_eq_some_iff.mp hv).1
          obtain ⟨t, e⟩ := PyProof.Rows.IntsAre.int_at hit i v (by rw [Array.getElem?_toList]; exact hv)
          refine ⟨ns[i], t, List.getElem?_eq_getElem hi, ?_⟩
          rw [e, List.getD_eq_getElem?_getD, List.getElem?_eq_getElem hi] <;> rfl
        refine set_update_ints ((Walks.list hh3 _ l hneI items).toS) s.heap.objs.size
          hSf ns hisz hb hval (items.size - 0) 0 _ (by omega) (Nat.zero_le _)
          ⟨⟨_, Heap.get?_push_size _ rfl, rfl, rfl⟩, (hl1.push _)⟩ ?hS0 ?hR
        case hS0 =>
          have hget : ((s.heap.push { cls := .type "set", dict := none, data := .set #[] 0 (.fresh 0 0 (!w.params.followText "set-order")) }).push { cls := .type "list_iterator", data := .fields #[.ref l, .int 0 0] }).get? s.heap.objs.size
              = some { cls := .type "set", dict := none, data := .set #[] 0 (.fresh 0 0 (!w.params.followText "set-order")) } := Heap.get?_push_of_some _ hS
          exact ⟨0, Nat.le_refl 0, setR_new_at hget⟩
        case hR =>
          intro s' c' hm hc' hS'
          obtain ⟨h', g2, d', tk', os'⟩ := s'
          have eg : g2 = s.gens := hm.gens
          have ed : d' = s.drawn := hm.drawn
          have eo : os' = s.os := hm.os
          subst eg; subst ed; subst eo
          show wpAny _ _ _ _ _ _
          refine wpAny_pure ?_
          show wpAny _ _ (ret Value.none) _ _ _
          rw [hisz] at hc'
          refine wpAny_pure ⟨rfl, h', tk', c', rfl, hS', hc', fun b o e => ?_⟩
          have hb0 : b < s.heap.objs.size := Heap.lt_size e
          have hb1 : b ≠ s.heap.objs.size := Nat.ne_of_lt hb0
          have hb2 : b ≠ (s.heap.push { cls := .type "set", dict := none, data := .set #[] 0 (.fresh 0 0 (!w.params.followText "set-order")) }).objs.size := by
            rw [Heap.size_push]; exact Nat.ne_of_lt (Nat.lt_succ_of_lt hb0)
          exact hm.heap b o (by simp only [List.mem_cons, List.mem_singleton, List.not_mem_nil, or_false, not_or]; exact ⟨hb1, hb2⟩) (Heap.get?_push_of_some _ (Heap.get?_push_of_some _ e))

      · cases r₂ with
        | error e => exact hr₂
        | ok fl₂ =>
          cases fl₂ with
          | ret r =>
            obtain ⟨rfl, h', tk, c', rfl, hS', hc', hk'⟩ := hr₂
            repeat (any_goals (first | assumption | wp_step))
            exact h _ _ _ hS' hc' hk'
          | _ => exact hr₂.elim
    | _ => exact hr.elim
end
/-- set(..) of a list or a tuple of few whole numbers -/
def rSetA (K : PySem.W.Frag) (w : World) : List V → Hp → VK → Prop := fun xs H Q => ∃ (t : Bool) (p : Addr) (ns : List Int), xs = [.ref p] ∧ Sq2 K t H p (ns.map V.int) ∧ ns.length ≤ 60 ∧ ∀ a c, H a = none → c ≤ ns.length → Q (.ref a) (upd H a (SetO w a (fun j => decide (j ∈ ns)) c))
theorem cr_setA {X : Cx} (hc : X.calm = true) : CallR X (.type "set") (rSetA X.K X.w) := by
  intro pins s σ H xs us Q I r h
  obtain ⟨t, p, ns, rfl, hs, hl, q⟩ := h
  rw [Vals.ref1 r]
  have fin : ∀ (h' : Heap) (tk c : Nat), SetR X.w h' s.heap.objs.size (fun j => decide (j ∈ ns)) c → c ≤ ns.length → (∀ b o, s.heap.get? b = some o → h'.get? b = some o) → EP X pins σ Q (.ref s.heap.objs.size) { s with heap := h', toks := tk } := fun h' tk c R hcn k =>
    ⟨.ref s.heap.objs.size, _, I.laid (t' := tk) (o := SetO X.w s.heap.objs.size (fun j => decide (j ∈ ns)) c) k (Nat.le_refl _) (setO_new R), rfl, q _ c (I.hok.fresh (Nat.le_refl _)) hcn⟩
  have hb : ns.length + 1 < scanBound := Nat.lt_of_le_of_lt (Nat.succ_le_succ hl) (by decide)
  cases t with
  | true =>
    obtain ⟨its, rv, hp, _⟩ := I.tuple hs
    exact call_set_tupI ns (I.ok.hd hc) (show s.heap.IsTuple p its.toArray from hp) (by simpa using ints_of_vals rv) hb fin
  | false =>
    obtain ⟨its, rv, hp, _⟩ := I.list hs
    exact call_set_lstI ns (I.ok.hd hc) hp.isList (by simpa using ints_of_vals rv) hb fin
end DX
namespace DL
open PySem PySem.Spec PyProof.Rows L2 DX
/-- each once -/
def onceI : List Int → List Int
  | [] => []
  | x :: xs => if x ∈ onceI xs then onceI xs else x :: onceI xs
theorem mem_once (k : Int) : ∀ xs : List Int, k ∈ onceI xs ↔ k ∈ xs
  | [] => Iff.rfl
  | x :: xs => by
    unfold onceI
    split
    · rename_i h
      rw [mem_once k xs, List.mem_cons]
      refine ⟨.inr, fun z => z.elim (fun e => ?_) id⟩
      rw [e]; exact (mem_once x xs).mp h
    · rw [List.mem_cons, List.mem_cons, mem_once k xs]
theorem once_nodup : ∀ xs : List Int, (onceI xs).Nodup
  | [] => List.nodup_nil
  | x :: xs => by
    unfold onceI
    split
    · exact once_nodup xs
    · rename_i h; exact List.nodup_cons.mpr ⟨h, once_nodup xs⟩
theorem lt_le {l : List Int} (h : l.Pairwise (· < ·)) : l.Pairwise (· ≤ ·) := h.imp fun h => Int.le_of_lt h
theorem lt_nodup {l : List Int} (h : l.Pairwise (· < ·)) : l.Nodup := h.imp fun h => Int.ne_of_lt h
theorem once_uniq {l xs : List Int} (h : l.Pairwise (· < ·)) (m : ∀ k, k ∈ l ↔ k ∈ xs) : l = sortI (onceI xs) := by
  refine sort_uniq ?_ (lt_le h) (sortI_pw _)
  refine List.Perm.trans ?_ (sortI_perm _).symm
  refine (List.perm_ext_iff_of_nodup (lt_nodup h) (once_nodup xs)).mpr fun k => ?_
  rw [m k, mem_once]
/-- sorted(set(x)) -/
def sortSetD (d : D) : Option D := (itemsD d).bind fun ds => (intsOf ds).bind fun ns => if ns.length ≤ 60 then some (.lst ((sortI (onceI ns)).map D.int)) else none
section
variable {g : G} {mp : List Nat} {X : Cx} {a : Expr} {fa : Env → R D}
theorem de_sortedSet {p1 p2 q pos : Pos} (hK : X.K = g.K) (hc : X.calm = true) (hg : Gl X "sorted") (hm : X.mg "sorted" = none) (hg2 : Gl X "set") (hm2 : X.mg "set" = none) (ha : DE g mp X a fa)
    (hs : starEach (a :: []) X.env = (false, eval a X.env) :: starEach [] X.env := by rfl) (hpl : (backTo q (starEach [] X.env)).any (·.1) = false := by rfl)
    (hs2 : starEach ((Expr.Call (.Name "set" p2) [a] [] q) :: []) X.env = (false, eval (Expr.Call (.Name "set" p2) [a] [] q) X.env) :: starEach [] X.env := by rfl) (hpl2 : (backTo pos (starEach [] X.env)).any (·.1) = false := by rfl) :
    DE g mp X (.Call (.Name "sorted" p1) [.Call (.Name "set" p2) [a] [] q] [] pos) (dUn sortSetD fa) := ⟨fun P ps W hp tk =>
  pe_imp (pe_callB (cr_sortedSet hc) hg hm boot_sorted (pa_cons (pe_callTy (cr_setA hc) hg2 hm2 boot_set (pa_cons (ha.run P ps W hp tk) pa_nil hs) (by decide) (by decide) hs hpl) pa_nil hs2) (by decide) (by decide) hs2 hpl2) fun σ H Q h => by
    obtain ⟨e, s, h⟩ := tD_eq.mp h
    refine tD_of s (h.bnd.mono fun d e1 H1 go1 z v rv => ?_)
    obtain ⟨d', q', z⟩ := PR.opt z
    obtain ⟨ds, h1, q'⟩ := Option.bind_eq_some_iff.mp q'
    obtain ⟨ns, h2, q'⟩ := Option.bind_eq_some_iff.mp q'
    split at q'
    case isFalse => cases q'
    rename_i hl
    cases q'
    obtain ⟨p, vs, rfl, rr, hh⟩ := items_sq h1 rv
    have h0 := (hh _ _ _ _ Kp.refl).1
    have ev := intsOf_ok rr h2
    subst ev
    refine ⟨kindT d, p, ns, rfl, by rw [hK]; exact h0, hl, fun b c hn hcn => ⟨b, _, c, rfl, upd_same, by omega, fun ms p2 hw hmm hlen hn2 => ?_⟩⟩
    have e2 : ms = sortI (onceI ns) := once_uniq hw fun k => by rw [hmm k]; simp
    subst e2
    have sm1 : Same H1 (upd H1 b (SetO X.w b (fun j => decide (j ∈ ns)) c)) := same_new hn
    have sm : Same H1 (upd (upd H1 b (SetO X.w b (fun j => decide (j ∈ ns)) c)) p2 (.lst ((sortI (onceI ns)).map V.int))) := fun x o hx => same_new hn2 _ _ (sm1 _ _ hx)
    have go := Go.same go1.st sm
    have na : ¬ Av P e1 σ p2 := fun z => by
      obtain ⟨o, ho⟩ := go1.st.tr p2 z
      have := sm1 _ _ ho
      rw [hn2] at this
      cases this
    exact z _ go _ (rep_lst na hn2 (repL_ints _))⟩
end
end DL
end

section
set_option Elab.async false
set_option linter.all false
set_option maxRecDepth 100000
set_option maxHeartbeats 4000000
/-! DlZ3: x[::-1] of lists and tuples; extend. -/
namespace DX
open PySem PySem.Spec PyProof.Rows L2
section
variable {prog : Program} {w : World} {A : Around} {E : Value → Shared → Prop} {s : Shared}
theorem applied_rev {sl : Addr} {vl vu vs : Value} {n : Nat} {Q : Int × Int × Nat → Shared → Prop} (hs : s.heap.IsSliceOf sl vl vu vs) (pl : IsPart vl none) (pu : IsPart vu none) (ps : IsPart vs (some (-1))) (h : Q ((n : Int) - 1, -1, n) s) : wpAny (model prog w) A (Builtin.Slice.sliceApplied (.ref sl) (pure (n : Int))) Q E s := by
  obtain ⟨os, hos, hcs, hds⟩ := id hs
  unfold Builtin.Slice.sliceApplied Builtin.Slice.sliceFields
  refine wpAny_bind (wpAny_bind (wpAny_field hos hds (x := vl) rfl (wpAny_bind (wpAny_field hos hds (x := vu) rfl (wpAny_bind (wpAny_field hos hds (x := vs) rfl (wpAny_pure ?_)))))))
  refine wpAny_bind (HT.slicePart_ ps ?_)
  show wpAny _ _ (if ((-1 : Int) == 0) = true then _ else _) _ _ s
  rw [if_neg (by decide)]
  refine wpAny_bind (HT.slicePart_ pl (wpAny_bind (HT.slicePart_ pu (wpAny_bind (wpAny_pure ?_)))))
  have e1 : Builtin.Slice.sliceAdjust none none (-1) (n : Int) = ((n : Int) - 1, -1) := rfl
  have e2 : Builtin.Slice.slicePlaces ((n : Int) - 1) (-1) (-1) = n := by
    unfold Builtin.Slice.slicePlaces
    have h1 : ¬ ((-1 : Int) > 0) := by decide
    simp only [h1, if_false, show (- -1 : Int) = 1 by decide, Int.ediv_one]
    split <;> omega
  show wpAny _ _ (match Builtin.Slice.sliceAdjust none none (-1) (n : Int) with | (lo, hi) => pure (lo, (-1 : Int), Builtin.Slice.slicePlaces lo hi (-1))) _ _ s
  rw [e1]
  show wpAny _ _ (pure ((n : Int) - 1, (-1 : Int), Builtin.Slice.slicePlaces ((n : Int) - 1) (-1) (-1))) _ _ s
  rw [e2]
  exact wpAny_pure h
theorem pick_rev (xs : Array Value) : ((List.range xs.size).filterMap fun (m : Nat) => xs[(((xs.size : Int) - 1) + (m : Int) * (-1)).toNat]?).toArray = xs.toList.reverse.toArray := by
  have e : (List.range xs.size).filterMap (fun (m : Nat) => xs[(((xs.size : Int) - 1) + (m : Int) * (-1)).toNat]?) = ((List.range xs.size).map fun k => xs.size - 1 - k).filterMap (xs[·]?) := by
    rw [List.filterMap_map]
    congr 1
    funext m
    have : (((xs.size : Int) - 1) + (m : Int) * (-1)).toNat = xs.size - 1 - m := by omega
    rw [this]
    rfl
  rw [e, PySem.W.krv_range, List.filterMap_reverse, PySem.W.krv_all]
theorem getItem_tup_rev {t sl : Addr} {items : Array Value} {vl vu vs : Value} {Q : Value → Shared → Prop} (ht : IsTup s.heap t items) (hs : s.heap.IsSliceOf sl vl vu vs) (pl : IsPart vl none) (pu : IsPart vu none) (ps : IsPart vs (some (-1)))
    (h : Q (.ref s.heap.objs.size) { s with heap := s.heap.push { cls := .type "tuple", data := .seq items.toList.reverse.toArray } }) (hsz : items.size ≤ sizeLine) : wpAny (model prog w) A (getItem (.ref t) (.ref sl)) Q E s := by
  have hok : sizeOk (.seq items.toList.reverse.toArray) := by
    show items.toList.reverse.toArray.size ≤ sizeLine
    simpa using hsz
  obtain ⟨os, hos, hcs, hds⟩ := id hs
  have hTs : s.TypeIs (.ref sl) "slice" := ⟨os, hos, hcs⟩
  unfold getItem
  try with_reducible refine wpAny_holding ?_
  first | refine wpAny_bind (wpAny_pure ?_) | skip
  refine wpAny_bind (wpAny_sequenceKey ht.typeIs (by decide) ?_)
  refine wpAny_bind (wpAny_callSpecial?_slot (name := Str.ofString "__getitem__") ht.typeIs PyProof.Rows.slot_tuple_getitem
    (wpAny_call_entry PyProof.Rows.slot_tuple_getitem ht.typeIs entry_tuple_getitem ?_ (args_tuple_getitem _ _)))
  show wpAny _ _ (Builtin.Tuple.tupleItemsOf (.ref t) >>= _) _ _ s
  refine wpAny_bind (tupleItemsOf_ ht ?_)
  refine wpAny_bind (wpAny_typeOf hTs ?_)
  rw [if_pos (by decide)]
  refine wpAny_bind (applied_rev hs pl pu ps ?_)
  have hno : ¬ ((((items.size : Int) - 1) == 0 && (-1 : Int) == 1 && items.size == items.size) = true) := by
    rw [show ((-1 : Int) == 1) = false by decide, Bool.and_false, Bool.false_and]
    exact Bool.false_ne_true
  show wpAny _ _ (if (((items.size : Int) - 1) == 0 && (-1 : Int) == 1 && items.size == items.size) = true then _ else _) _ _ s
  rw [if_neg hno, pick_rev]
  first
    | exact wpAny_bind (m := Builtin.Tuple.tupleExact _) (wpAny_newObj_type (wpAny_pure ⟨_, rfl, wpAny_pure h⟩) hok)
    | exact wpAny_bind (m := Builtin.Tuple.tupleExact _) (wpAny_newObj_type (wpAny_bind (wpAny_pure (wpAny_pure ⟨_, rfl, wpAny_pure h⟩))) hok)
    | exact wpAny_bind (wpAny_bind (m := Builtin.Tuple.tupleExact _) (wpAny_newObj_type (wpAny_pure (wpAny_pure ⟨_, rfl, wpAny_pure h⟩)) hok))
    | exact wpAny_bind (wpAny_bind (m := Builtin.Tuple.tupleExact _) (wpAny_newObj_type (wpAny_pure ⟨_, rfl, wpAny_pure h⟩) hok))
end
def tRev2 (K : PySem.W.Frag) (te : TE) : TE := fun σ H Q => te σ H fun x H1 => ∃ t a xs, x = .ref a ∧ Sq2 K t H1 a xs ∧ ∀ p, H1 p = none → Q (.ref p) (upd H1 p (match t with
  | true => .tup xs.reverse
  | false => .lst xs.reverse))
theorem pe_rev2 {X : Cx} {e : Expr} {te : TE} {k : Nat} {p1 p2 p3 pos : Pos} (he : PE X e te) : PE X (.Subscript e (.Slice none none (some (.UnaryOp .USub (.Constant (.int 1) k p1) p2)) p3) pos) (tRev2 X.K te) := by
  refine ⟨fun pins s σ H Q I h => ?_⟩
  refine Subscript_ (thn (he.run pins s σ H _ I h) fun v s1 ⟨x, H1, I1, r1, q1⟩ => ?_)
  obtain ⟨t, a, xs, ex, hx, q⟩ := q1
  subst ex
  cases r1
  have hst : PO X (some (.UnaryOp .USub (.Constant (.int 1) k p1) p2)) (tPart (tUn (rU fun i => .int (-i)) (tC (.int 1)))) := po_some (pe_un un_neg pe_int)
  refine wpAny_Slice (thn (po_none.run pins s1 σ H1 (fun o H2 => o = none ∧ H2 = H1) I1 ⟨rfl, rfl⟩) fun vl s2 ⟨l, H2, I2, pl, el, e2⟩ => ?_)
  subst el e2
  refine thn (po_none.run pins s2 σ H2 (fun o H3 => o = none ∧ H3 = H2) I2 ⟨rfl, rfl⟩) fun vu s3 ⟨u, H3, I3, pu, eu, e3⟩ => ?_
  subst eu e3
  refine thn (hst.run pins s3 σ H3 (fun o H4 => o = some (-1) ∧ H4 = H3) I3 ⟨1, rfl, -1, rfl, rfl, rfl⟩) fun vs s4 ⟨o, H4, I4, ps, eo, e4⟩ => ?_
  subst eo e4
  have I5 : Inv X pins σ H4 { s4 with heap := s4.heap.push { cls := .type "slice", data := .fields #[vl, vu, vs] } } := I4.kept (t' := s4.toks) fun b ob q => Heap.get?_push_of_some _ q
  show wpAny (model X.prog X.w) X.A (subscriptTail e (.Slice none none (some (.UnaryOp .USub (.Constant (.int 1) k p1) p2)) p3) (.ref a) (.ref s4.heap.objs.size)) (EP X pins σ Q) X.xe { s4 with heap := s4.heap.push { cls := .type "slice", data := .fields #[vl, vu, vs] } }
  cases t with
  | false =>
    obtain ⟨its, r, ht, hz⟩ := I5.list hx
    have hlen := r.length
    refine tail_any (ops := [.ref a, .ref s4.heap.objs.size]) ht.isList.typeIs (PySem.slot_list_getitem.lookup) ?_ (by with_unfolding_all rfl)
    refine wpAny_getItem_list_slice ht.isList (Heap.IsSliceOf.new _ vl vu vs) pl pu ps (by decide) ?_ (by rw [List.size_toArray]; omega)
    rw [PySem.W.krv_pick]
    refine ⟨.ref _, _, I5.laid (t' := s4.toks) (o := .lst xs.reverse) (fun b ob q => Heap.get?_push_of_some _ q) (Nat.le_refl _) ?_, rfl, q _ (I5.hok.fresh (Nat.le_refl _))⟩
    exact ⟨by rw [List.length_reverse]; exact hz, _, 0, r.reverse, Heap.get?_push_size _ rfl⟩
  | true =>
    obtain ⟨its, r, ht, hz⟩ := I5.tuple hx
    have hlen := r.length
    refine tail_any (ops := [.ref a, .ref s4.heap.objs.size]) ht.typeIs (PyProof.Rows.slot_tuple_getitem.lookup) ?_ (by with_unfolding_all rfl)
    refine getItem_tup_rev ht (Heap.IsSliceOf.new _ vl vu vs) pl pu ps ?_ (by rw [List.size_toArray]; omega)
    refine ⟨.ref _, _, I5.laid (t' := s4.toks) (o := .tup xs.reverse) (fun b ob q => Heap.get?_push_of_some _ q) (Nat.le_refl _) ?_, rfl, q _ (I5.hok.fresh (Nat.le_refl _))⟩
    exact ⟨by rw [List.length_reverse]; exact hz, _, r.reverse, IsTup.new _ _⟩
/-! ### extend -/
theorem ext_tup (l : Addr) (items : Array Value) (n : Nat) (b : Addr) (items2 : Array Value) (n2 : Nat) (dd : Option Addr) (sl : Array (Option Value)) (h0 : ¬(!items.isEmpty && Builtin.List.listTooLong (items.size + items2.size)) = true) (h1 : items.size ≤ sizeLine) (h2 : items.size + items2.size ≤ sizeLine + 1) :
    Meets (Builtin.«list.extend» ⟨[.ref l, .ref b], []⟩) (fun _ R s => s.heap.get? l = some { cls := .type "list", dict := none, data := .seq items n, slots := #[] } ∧ s.heap.get? b = some { cls := .type "tuple", dict := dd, data := .seq items2 n2, slots := sl } ∧
      R (.ok (.ret Value.none)) { s with heap := s.heap.update l (Obj.mapSeq fun x => x ++ items2), toks := s.toks }) :=
  .of_wp fun prog w A R s h => by
    obtain ⟨hp, g, d, tk, os⟩ := s
    obtain ⟨hl, hb, h⟩ := h
    have f1 := AutoSeq1.idx_int
    have f2 := AutoSeq1.sub_tuple_tuple
    have f3 := AutoSeq1.sub_list_list
    have f4 := AutoSeq1.sub_tuple_list
    have f5 := AutoSeq1.sub_list_tuple
    have hz : (items ++ items2).size ≤ sizeLine + 1 := by rw [Array.size_append]; exact h2
    wp_walk using (wpAny_updateSeq hl rfl (hz := h1) (_hz' := hz)), wpAny_loadPart' hl, wpAny_loadPart' hb
    exact ⟨_, rfl, h⟩
theorem ext_lst (l : Addr) (items : Array Value) (n : Nat) (b : Addr) (items2 : Array Value) (n2 : Nat) (dd : Option Addr) (sl : Array (Option Value)) (h0 : ¬(!items.isEmpty && Builtin.List.listTooLong (items.size + items2.size)) = true) (h1 : items.size ≤ sizeLine) (h2 : items.size + items2.size ≤ sizeLine + 1) :
    Meets (Builtin.«list.extend» ⟨[.ref l, .ref b], []⟩) (fun _ R s => s.heap.get? l = some { cls := .type "list", dict := none, data := .seq items n, slots := #[] } ∧ s.heap.get? b = some { cls := .type "list", dict := dd, data := .seq items2 n2, slots := sl } ∧
      R (.ok (.ret Value.none)) { s with heap := s.heap.update l (Obj.mapSeq fun x => x ++ items2), toks := s.toks }) :=
  .of_wp fun prog w A R s h => by
    obtain ⟨hp, g, d, tk, os⟩ := s
    obtain ⟨hl, hb, h⟩ := h
    have f1 := AutoSeq1.idx_int
    have f2 := AutoSeq1.sub_tuple_tuple
    have f3 := AutoSeq1.sub_list_list
    have f4 := AutoSeq1.sub_tuple_list
    have f5 := AutoSeq1.sub_list_tuple
    have hz : (items ++ items2).size ≤ sizeLine + 1 := by rw [Array.size_append]; exact h2
    wp_walk using (wpAny_updateSeq hl rfl (hz := h1) (_hz' := hz)), wpAny_loadPart' hl, wpAny_loadPart' hb
    exact ⟨_, rfl, h⟩
def rExtA (K : PySem.W.Frag) : V → List V → Hp → VK → Prop := fun x vs H Q => ∃ t l b xs zs, x = .ref l ∧ vs = [.ref b] ∧ H l = some (.lst xs) ∧ Sq2 K t H b zs ∧ xs.length + zs.length ≤ sizeLine ∧ Q .non (upd H l (.lst (xs ++ zs)))
theorem mt_extA {X : Cx} : MtR X "list.extend" (rExtA X.K) := by
  intro pins s σ H x vs v us Q I rx rv h
  obtain ⟨t, l, b, xs, zs, rfl, rfl, hH, hB, hz, q⟩ := h
  cases rx
  obtain ⟨u, rfl, ru⟩ := rv.one
  cases ru
  obtain ⟨z, its, n, r, hl, e⟩ := I.lstM hH
  obtain ⟨its2, r2, p2⟩ := inv2 I hB
  have l1 := r.length
  have l2 := r2.length
  have hsz : its.toArray.size + its2.toArray.size ≤ sizeLine := by rw [List.size_toArray, List.size_toArray]; omega
  have hlong : ¬ (!its.toArray.isEmpty && Builtin.List.listTooLong (its.toArray.size + its2.toArray.size)) = true := by
    rw [notLongL hsz, Bool.and_false]
    exact Bool.false_ne_true
  have fin : EP X pins σ Q .none { s with heap := s.heap.update l (Obj.mapSeq fun x => x ++ its2.toArray), toks := s.toks } := by
    refine ⟨.non, _, I.lset (its' := its ++ its2) hH e (by simp) (r.append r2) ?_, rfl, q⟩
    rw [List.length_append]
    omega
  cases t with
  | true =>
    obtain ⟨⟨c2, d2, dt2, sl2⟩, hb, hc, n2, hd⟩ := (show s.heap.IsTuple b its2.toArray from p2)
    simp only at hc hd
    subst hc hd
    exact call_meets F.slot_list_extend ⟨_, e, rfl⟩ F.entry_list_extend (F.args_list_extend_2 _ _) (ext_tup l its.toArray n b its2.toArray n2 d2 sl2 hlong (by omega) (by omega)) ⟨e, hb, fin⟩
  | false =>
    obtain ⟨⟨c2, d2, dt2, sl2⟩, hb, hc, n2, hd⟩ := (show s.heap.IsList b its2.toArray from p2)
    simp only at hc hd
    subst hc hd
    exact call_meets F.slot_list_extend ⟨_, e, rfl⟩ F.entry_list_extend (F.args_list_extend_2 _ _) (ext_lst l its.toArray n b its2.toArray n2 d2 sl2 hlong (by omega) (by omega)) ⟨e, hb, fin⟩
end DX
namespace DL
open PySem PySem.Spec PyProof.Rows L2 DX
def revD : D → Option D
  | .tup xs => some (.tup xs.reverse)
  | .lst xs => some (.lst xs.reverse)
  | _ => none
theorem de_rev {g : G} {mp : List Nat} {X : Cx} {a : Expr} {fa : Env → R D} {k : Nat} {p1 p2 p3 pos : Pos} (hK : X.K = g.K) (ha : DE g mp X a fa) : DE g mp X (.Subscript a (.Slice none none (some (.UnaryOp .USub (.Constant (.int 1) k p1) p2)) p3) pos) (dUn revD fa) := ⟨fun P ps W hp tk =>
  pe_imp (pe_rev2 (ha.run P ps W hp tk)) fun σ H Q h => by
    obtain ⟨e, s, h⟩ := tD_eq.mp h
    refine tD_of s (h.bnd.mono fun d e1 H1 go1 z v rv => ?_)
    obtain ⟨d', q', z⟩ := PR.opt z
    cases d <;> first | (cases q'; done) | skip
    · cases q'
      obtain ⟨p, vs, rfl, hq, rr⟩ := rv
      exact ⟨true, p, vs, rfl, by rw [hK]; exact hq.sq, fun b hb => z _ (Go.same go1.st (same_new hb)) _ (rep_tup (go1.st.fresh hb) hb rr.reverse)⟩
    · cases q'
      obtain ⟨p, vs, rfl, hq, rr⟩ := rv
      exact ⟨false, p, vs, rfl, by rw [hK]; exact hq.sq, fun b hb => z _ (Go.same go1.st (same_new hb)) _ (rep_lst (go1.st.fresh hb) hb rr.reverse)⟩⟩
/-- x.extend(e), x a list of one's own -/
def sExt (i : Nat) (fv : Env → R D) : Env → RS := fun e => sB (opt (mAt e i) e) fun _ e => sB (fv e) fun d e1 => sB (opt (mAt e1 i) e1) fun ds e1 => sB (opt (itemsD d) e1) fun xs e1 => if ds.length + xs.length ≤ 16777216 then .nx (e1.set i (some (.m (ds ++ xs)))) else .bad
theorem ds_ext {g : G} {mp : List Nat} {X : Cx} {x : Str} {pos : Pos} (hK : X.K = g.K) (i : Nat) {ex : Expr} {fv : Env → R D} {p apos cpos : Pos} (he : DE g mp X ex fv) (hN : X.N[i]? = some x := by rfl) (hv : Vis X.env.scope x := by first | exact Or.inl rfl | exact Or.inr (Or.inl rfl) | exact Or.inr (Or.inr rfl)) (hd : (x == ("__debug__" : Str)) = false := by decide)
    (hcd : (x == ("__classdict__" : Str)) = false := by decide) (hbase : attributeBase (.Name x p) "extend" X.env (eval (.Name x p) X.env) = eval (.Name x p) X.env := by rfl)
    (hfew : ((backTo cpos (starEach (ex :: []) X.env)).all (fun x => !x.1) && (backToKw cpos (keywordEach [] X.env)).all (fun x => x.1.isSome)
      && decide ((ex :: []).length + ([] : List Keyword).length + (if ([] : List Keyword).isEmpty then 0 else 1) < 30)) = true := by rfl)
    (hline : (apos.endLine == cpos.line) = true := by rfl) (hst : starEach (ex :: []) X.env = (false, eval ex X.env) :: starEach [] X.env := by rfl) (hplain : (backTo cpos (starEach [] X.env)).any (·.1) = false := by rfl)
    (hs : swapsWith (.Call (.Attribute (.Name x p) "extend" apos) [ex] [] cpos) none pos.line X.env = pure false := by rfl) : DS g mp X (.Expr (.Call (.Attribute (.Name x p) "extend" apos) [ex] [] cpos) pos) (sExt i fv) :=
  ⟨fun P ps W hp tk => ps_imp (ps_expr (pe_bm PySem.F.plainAttrs_list PySem.F.slot_list_extend PySem.F.type_list_extend mt_extA (pe_var hN hv hd hcd) (pa_cons (he.run P ps W hp tk) pa_nil hst) hbase hfew hline hst hplain) hs) fun σ H Q q => by
    obtain ⟨e, s, q⟩ := tS_eq.mp q
    obtain ⟨ds0, q0, z⟩ := PRS.optM s q
    obtain ⟨a, vs0, hσ, hH0, _⟩ := s.mm i ds0 (mAt_some q0)
    refine ⟨.ref a, hσ, .inl ⟨rfl, _, .inl (.inl hH0)⟩, tD_of s (z.sB.mono fun d e1 H1 go1 z v rv => ?_)⟩
    obtain ⟨ds, q1, z⟩ := PRS.optM go1.st z
    obtain ⟨xs, q2, z⟩ := PRS.optM go1.st z
    obtain ⟨a', vs, hσ', hH, hr, _⟩ := go1.st.mm i ds (mAt_some q1)
    rw [hσ] at hσ'
    cases hσ'
    obtain ⟨b, us, rfl, rr, hh⟩ := items_sq q2 rv
    have h0 := (hh _ _ _ _ Kp.refl).1
    by_cases hl : ds.length + xs.length ≤ 16777216
    · rw [if_pos hl] at z
      exact ⟨kindT d, a, b, vs, us, rfl, rfl, hH, by rw [hK]; exact h0, by rw [sizeLine_eq, ← hr.length, ← rr.length]; exact hl, z _ _ (go1.st.updm (mAt_some q1) hσ (hr.append rr))⟩
    · rw [if_neg hl] at z
      exact z.elim⟩
end DL
end

section
set_option Elab.async false
set_option linter.all false
set_option maxRecDepth 100000
set_option maxHeartbeats 4000000
/-! DlZ4: a, b = x, y and a, b, c = x, y, z of plain names. -/
namespace DL
open PySem PySem.Spec PyProof.Rows L2 DX
theorem RepL.two {g : G} {H : Hp} {A : Addr → Prop} {a b : D} {vs : List V} (h : RepL g H A [a, b] vs) : ∃ v u, vs = [v, u] ∧ Rep g H A a v ∧ Rep g H A b u := by
  obtain ⟨v1, r1, e1, h1, v2, r2, e2, h2, h3⟩ := h
  have h3 : r2 = [] := h3
  subst e1 e2 h3
  exact ⟨v1, v2, rfl, h1, h2⟩
theorem RepL.three {g : G} {H : Hp} {A : Addr → Prop} {a b c : D} {vs : List V} (h : RepL g H A [a, b, c] vs) : ∃ v u x, vs = [v, u, x] ∧ Rep g H A a v ∧ Rep g H A b u ∧ Rep g H A c x := by
  obtain ⟨v1, r1, e1, h1, v2, r2, e2, h2, v3, r3, e3, h3, h4⟩ := h
  have h4 : r3 = [] := h4
  subst e1 e2 e3 h4
  exact ⟨v1, v2, v3, rfl, h1, h2, h3⟩
def put2 (i j : Nat) (ds : List D) (e : Env) : RS := match ds with
  | [a, b] => .nx ((e.set i (some (.v a))).set j (some (.v b)))
  | _ => .bad
def put3 (i j l : Nat) (ds : List D) (e : Env) : RS := match ds with
  | [a, b, c] => .nx (((e.set i (some (.v a))).set j (some (.v b))).set l (some (.v c)))
  | _ => .bad
def sPar2 (i j : Nat) (fs : Env → R (List D)) : Env → RS := fun e => sB (fs e) fun ds e1 => put2 i j ds e1
def sPar3 (i j l : Nat) (fs : Env → R (List D)) : Env → RS := fun e => sB (fs e) fun ds e1 => put3 i j l ds e1
section
variable {g : G} {mp : List Nat} {X : Cx} {x y z : Str} {a b c : Expr} {fs : Env → R (List D)} {px py pz pt pos : Pos} {kt : Nat} {k2 : Nat} {pt2 : Pos}
theorem ds_par2 (i j : Nat) (hc : X.calm = true) (hN : X.N.Nodup) (ha : DA g mp X [a, b] fs) (hi : X.N[i]? = some x := by rfl) (hj : X.N[j]? = some y := by rfl) (hij : i ≠ j := by decide)
    (hx : X.env.scope.names.lookup x = some .local := by rfl) (hy : X.env.scope.names.lookup y = some .local := by rfl) (mi : i ∉ mp := by decide) (mj : j ∉ mp := by decide)
    (hw : swappedStores [.Tuple [.Name x px, .Name y py] kt pt] (.Tuple [a, b] k2 pt2) X.env = pure (some [x, y]) := by rfl)
    (hs : swapsWithSole [.Tuple [.Name x px, .Name y py] kt pt] (.Tuple [a, b] k2 pt2) pos.line X.env = pure false := by rfl) :
    DS g mp X (.Assign [.Tuple [.Name x px, .Name y py] kt pt] (.Tuple [a, b] k2 pt2) pos) (sPar2 i j fs) :=
  ⟨fun P ps W hp tk => ps_imp (ps_par hc hN hi hj hij hx hy (ha.run P ps W hp tk) hw hs) fun σ H Dn q => by
    obtain ⟨e, s, q⟩ := tS_eq.mp q
    refine ⟨e, s, q.sB.mono fun ds e1 H1 go1 z vs rv => ?_⟩
    rcases ds with _ | ⟨d1, _ | ⟨d2, _ | ⟨d3, r⟩⟩⟩
    · exact (show False from z).elim
    · exact (show False from z).elim
    · obtain ⟨v1, v2, e', h1, h2⟩ := rv.two
      subst e'
      have g1 := go1.st.setv h1 (by rw [hp]; exact mi)
      have g2 := g1.st.setv (Rep.kp g1.kp _ _ h2) (by rw [hp]; exact mj)
      exact ⟨v1, v2, rfl, z _ _ (g1.trans g2)⟩
    · exact (show False from z).elim⟩
theorem ds_par3 (i j l : Nat) (hc : X.calm = true) (hN : X.N.Nodup) (ha : DA g mp X [a, b, c] fs) (hi : X.N[i]? = some x := by rfl) (hj : X.N[j]? = some y := by rfl) (hl : X.N[l]? = some z := by rfl) (hij : i ≠ j := by decide) (hil : i ≠ l := by decide) (hjl : j ≠ l := by decide)
    (hx : X.env.scope.names.lookup x = some .local := by rfl) (hy : X.env.scope.names.lookup y = some .local := by rfl) (hz : X.env.scope.names.lookup z = some .local := by rfl) (mi : i ∉ mp := by decide) (mj : j ∉ mp := by decide) (ml : l ∉ mp := by decide)
    (hw : swappedStores [.Tuple [.Name x px, .Name y py, .Name z pz] kt pt] (.Tuple [a, b, c] k2 pt2) X.env = pure (some [x, y, z]) := by rfl)
    (hs : swapsWithSole [.Tuple [.Name x px, .Name y py, .Name z pz] kt pt] (.Tuple [a, b, c] k2 pt2) pos.line X.env = pure false := by rfl) :
    DS g mp X (.Assign [.Tuple [.Name x px, .Name y py, .Name z pz] kt pt] (.Tuple [a, b, c] k2 pt2) pos) (sPar3 i j l fs) :=
  ⟨fun P ps W hp tk => ps_imp (ps_par3 hc hN hi hj hl hij hil hjl hx hy hz (ha.run P ps W hp tk) hw hs) fun σ H Dn q => by
    obtain ⟨e, s, q⟩ := tS_eq.mp q
    refine ⟨e, s, q.sB.mono fun ds e1 H1 go1 z vs rv => ?_⟩
    rcases ds with _ | ⟨d1, _ | ⟨d2, _ | ⟨d3, _ | ⟨d4, r⟩⟩⟩⟩
    · exact (show False from z).elim
    · exact (show False from z).elim
    · exact (show False from z).elim
    · obtain ⟨v1, v2, v3, e', h1, h2, h3⟩ := rv.three
      subst e'
      have g1 := go1.st.setv h1 (by rw [hp]; exact mi)
      have g2 := g1.st.setv (Rep.kp g1.kp _ _ h2) (by rw [hp]; exact mj)
      have g12 := g1.trans g2
      have g3 := g12.st.setv (Rep.kp g12.kp _ _ h3) (by rw [hp]; exact ml)
      exact ⟨v1, v2, v3, rfl, z _ _ (g12.trans g3)⟩
    · exact (show False from z).elim⟩
end
end DL
end

section
set_option Elab.async false
set_option linter.all false
set_option maxRecDepth 100000
set_option maxHeartbeats 4000000
/-! DlZ5: a tuple, so many times. -/
namespace DL
open PySem PySem.Spec PyProof.Rows L2 DX
def repT : D → D → Option D
  | .tup xs, .int k => if xs ≠ [] ∧ 2 ≤ k ∧ k ≤ 1000 ∧ xs.length ≤ 1000 then some (.tup (List.replicate k.toNat xs).flatten) else none
  | _, _ => none
theorem RepL.times {g : G} {H : Hp} {A : Addr → Prop} {ds : List D} {vs : List V} (r : RepL g H A ds vs) : ∀ n : Nat, RepL g H A (List.replicate n ds).flatten (List.replicate n vs).flatten
  | 0 => rfl
  | n + 1 => by
    rw [List.replicate_succ, List.replicate_succ, List.flatten_cons, List.flatten_cons]
    exact r.append (RepL.times r n)
theorem o2_rep {g : G} {X : Cx} (hK : X.K = g.K) : Op2 g (rRepT X.K) repT := fun A H x y a b d Q tr ra rb h k => by
  cases a <;> first | (cases h; done) | skip
  rename_i xs
  cases b <;> first | (cases h; done) | skip
  rename_i i
  have h : (if xs ≠ [] ∧ 2 ≤ i ∧ i ≤ 1000 ∧ xs.length ≤ 1000 then some (D.tup (List.replicate i.toNat xs).flatten) else none) = some d := h
  split at h
  · cases h
    rename_i q
    obtain ⟨q1, q2, q3, q4⟩ := q
    obtain ⟨p, vs, rfl, hq, r⟩ := ra
    refine ⟨p, i, vs, rfl, rb, by rw [hK]; exact hq.sq, fun e => ?_, q2, q3, by rw [← r.length]; exact q4, fun l hl => ?_⟩
    · have := r.length
      rw [e] at this
      exact q1 (List.length_eq_zero_iff.mp this)
    · exact k _ _ (same_new hl) (rep_tup (tr.fresh hl) hl (r.times _))
  · cases h
end DL
end

section
set_option Elab.async false
set_option linter.all false
set_option maxRecDepth 100000
set_option maxHeartbeats 4000000
/-! DlZ6: a tuple, so many times, none and one too. -/
namespace L2
open PySem PySem.Spec PyProof.Rows
theorem tuple_mulSame (l : Addr) (items : Array Value) (n : Nat) (dd : Option Addr) (sl : Array (Option Value)) (x : Int) (u : Tok) (c0 : (decide (x < -(2 ^ 63)) || decide (x ≥ 2 ^ 63)) = false) (c1 : (items.isEmpty || x == 1) = true) :
    Meets (Builtin.«tuple.__mul__» ⟨[.ref l, .int x u], []⟩) (fun _ R s => s.heap.get? l = some { cls := .type "tuple", dict := dd, data := .seq items n, slots := sl } ∧ R (.ok (.ret (Value.ref l))) s) :=
  .of_wp fun prog w A R s h => by
    obtain ⟨hp, g, d, tk, os⟩ := s
    obtain ⟨hl, h⟩ := h
    have f1 := AutoSeq1.idx_int
    wp_walk using wpAny_loadPart' hl
    repeat (first
      | (refine wpAny_ite_false (decide_eq_false (by rw [c0]; exact Bool.false_ne_true)) ?_; wp_walk using wpAny_loadPart' hl)
      | (refine wpAny_ite_true (decide_eq_true c1) ?_; wp_walk using wpAny_loadPart' hl))
    exact ⟨_, rfl, h⟩
theorem tuple_mulNone (l : Addr) (items : Array Value) (n : Nat) (dd : Option Addr) (sl : Array (Option Value)) (x : Int) (u : Tok) (c0 : (decide (x < -(2 ^ 63)) || decide (x ≥ 2 ^ 63)) = false) (c1 : (items.isEmpty || x == 1) = false) (c2 : (decide (x ≤ 0) || items.isEmpty) = true) :
    Meets (Builtin.«tuple.__mul__» ⟨[.ref l, .int x u], []⟩) (fun _ R s => s.heap.get? l = some { cls := .type "tuple", dict := dd, data := .seq items n, slots := sl } ∧
      R (.ok (.ret (Value.ref s.heap.objs.size))) { s with heap := s.heap.push { cls := Value.type "tuple", data := Data.seq #[] }, toks := s.toks }) :=
  .of_wp fun prog w A R s h => by
    obtain ⟨hp, g, d, tk, os⟩ := s
    obtain ⟨hl, h⟩ := h
    have f1 := AutoSeq1.idx_int
    wp_walk using wpAny_loadPart' hl
    repeat (first
      | (refine wpAny_ite_false (decide_eq_false (by rw [c0]; exact Bool.false_ne_true)) ?_; wp_walk using wpAny_loadPart' hl)
      | (refine wpAny_ite_false (decide_eq_false (by rw [c1]; exact Bool.false_ne_true)) ?_; wp_walk using wpAny_loadPart' hl)
      | (refine wpAny_ite_true (decide_eq_true c2) ?_; wp_walk using wpAny_loadPart' hl))
    exact ⟨_, rfl, h⟩
def rRepA (K : PySem.W.Frag) : R2 := fun x y H Q => ∃ l k xs, x = .ref l ∧ y = .int k ∧ SqT K H l xs ∧ -1000 ≤ k ∧ k ≤ 1000 ∧ xs.length ≤ 1000 ∧
  (xs = [] ∨ k = 1 → Q (.ref l) H) ∧ (xs ≠ [] → k ≤ 0 → ∀ p, H p = none → Q (.ref p) (upd H p (.tup []))) ∧ (xs ≠ [] → 2 ≤ k → ∀ p, H p = none → Q (.ref p) (upd H p (.tup (List.replicate k.toNat xs).flatten)))
section
variable {X : Cx}
theorem op_repA : OpR X (binaryOp .Mult) (rRepA X.K) := by
  intro pins s σ H x y v u Q I rx ry h
  obtain ⟨l, k, xs, rfl, rfl, hT, h1, h2, hz, q0, q1, q2⟩ := h
  have c0 : (decide (k < -(2 ^ 63)) || decide (k ≥ 2 ^ 63)) = false := by
    rw [decide_eq_false (by omega), decide_eq_false (by omega)] <;> rfl
  by_cases hs : xs = [] ∨ k = 1
  · cases rx
    obtain ⟨t, rfl⟩ := ry
    obtain ⟨its, r, ⟨⟨cls, dd, data, sl⟩, ho, hc, n, hd⟩, hsz⟩ := I.tuple hT
    simp only at hc hd
    subst hc hd
    have c1 : (its.toArray.isEmpty || k == 1) = true := by
      rcases hs with rfl | rfl
      · cases r; rfl
      · simp
    exact wpAny_binaryOp_repeat_ref (T := "tuple") (U := "int") (by decide) ⟨_, ho, rfl⟩ (fun s' => typeIs_int s' k t) noFill_tuple_mul F.fills_int_mul F.slot_int_rmul repeat_tuple F.slot_int_index.lookup
      (call_meets F.slot_int_rmul (typeIs_int s k t) F.entry_int_rmul (F.args_int_rmul_2 _ _) (int_rmul_tuple k t l its.toArray n dd sl)
        ⟨ho, rfl, ⟨_, ho, rfl⟩, call_meets F.slot_tuple_mul ⟨_, ho, rfl⟩ F.entry_tuple_mul (F.args_tuple_mul_2 _ _) (tuple_mulSame l its.toArray n dd sl k t c0 c1) ⟨ho, ⟨.ref l, H, I, rfl, q0 hs⟩⟩⟩)
  · have hne : xs ≠ [] := fun e => hs (.inl e)
    by_cases hk : k ≤ 0
    · cases rx
      obtain ⟨t, rfl⟩ := ry
      obtain ⟨its, r, ⟨⟨cls, dd, data, sl⟩, ho, hc, n, hd⟩, hsz⟩ := I.tuple hT
      simp only at hc hd
      subst hc hd
      have hle : its.length = xs.length := r.length.symm
      have hi : its.toArray.isEmpty = false := by
        cases its with
        | nil => exact absurd (List.eq_nil_of_length_eq_zero (by rw [← hle]; rfl)) hne
        | cons a b => rfl
      have c1 : (its.toArray.isEmpty || k == 1) = false := by
        rw [hi, Bool.false_or]
        exact beq_eq_false_iff_ne.mpr (by omega)
      have c2 : (decide (k ≤ 0) || its.toArray.isEmpty) = true := by
        rw [decide_eq_true hk]; rfl
      refine wpAny_binaryOp_repeat_ref (T := "tuple") (U := "int") (by decide) ⟨_, ho, rfl⟩ (fun s' => typeIs_int s' k t) noFill_tuple_mul F.fills_int_mul F.slot_int_rmul repeat_tuple F.slot_int_index.lookup
        (call_meets F.slot_int_rmul (typeIs_int s k t) F.entry_int_rmul (F.args_int_rmul_2 _ _) (int_rmul_tuple k t l its.toArray n dd sl)
          ⟨ho, rfl, ⟨_, ho, rfl⟩, call_meets F.slot_tuple_mul ⟨_, ho, rfl⟩ F.entry_tuple_mul (F.args_tuple_mul_2 _ _) (tuple_mulNone l its.toArray n dd sl k t c0 c1 c2) ⟨ho, ?_⟩⟩)
      refine ⟨.ref s.heap.objs.size, _, I.laid (t' := s.toks) (o := .tup []) (fun b ob q => Heap.get?_push_of_some _ q) (Nat.le_refl _) ?_, rfl, q1 hne hk _ (I.hok.fresh (Nat.le_refl _))⟩
      exact ⟨by rw [sizeLine_eq]; simp, [], (by first | exact .nil | exact trivial | constructor), IsTup.new _ _⟩
    · exact op_repT pins s σ H _ _ v u Q I rx ry ⟨l, k, xs, rfl, rfl, hT, hne, by have : k ≠ 1 := fun e => hs (.inr e); omega, h2, hz, q2 hne (by have : k ≠ 1 := fun e => hs (.inr e); omega)⟩
end
end L2
namespace DL
open PySem PySem.Spec PyProof.Rows L2 DX
def mulA : D → D → Option D
  | .tup xs, .int k => if -1000 ≤ k ∧ k ≤ 1000 ∧ xs.length ≤ 1000 then some (.tup (List.replicate k.toNat xs).flatten) else none
  | a, b => mulD a b
def rMulA (K : PySem.W.Frag) : R2 := fun x y H Q => rI IntMulOk (fun i j => .int (i * j)) x y H Q ∨ rRepA K x y H Q
theorem op_mulA {X : Cx} : OpR X (binaryOp .Mult) (rMulA X.K) := by
  intro pins s σ H x y v u Q I rx ry h
  rcases h with h | h
  · exact op_mulX pins s σ H x y v u Q I rx ry h
  · exact op_repA pins s σ H x y v u Q I rx ry h
theorem o2_mulA {g : G} {X : Cx} (hK : X.K = g.K) : Op2 g (rMulA X.K) mulA := fun A H x y a b d Q tr ra rb h k => by
  by_cases q : ∃ xs i, a = .tup xs ∧ b = .int i
  · obtain ⟨xs, i, rfl, rfl⟩ := q
    have h : (if -1000 ≤ i ∧ i ≤ 1000 ∧ xs.length ≤ 1000 then some (D.tup (List.replicate i.toNat xs).flatten) else none) = some d := h
    split at h
    · cases h
      rename_i q
      obtain ⟨q1, q2, q3⟩ := q
      have ra0 := ra
      obtain ⟨p, vs, rfl, hq, r⟩ := ra
      have el : vs.length = xs.length := r.length.symm
      have en : vs = [] → xs = [] := fun e => List.eq_nil_of_length_eq_zero (by rw [← el, e]; rfl)
      refine .inr ⟨p, i, vs, rfl, rb, by rw [hK]; exact hq.sq, q1, q2, by omega, fun hs => ?_, fun _ h0 l hl => ?_, fun _ h2 l hl => ?_⟩
      · have e : (List.replicate i.toNat xs).flatten = xs := by
          rcases hs with hs | rfl
          · rw [en hs]; simp
          · simp
        rw [e] at k
        exact k _ _ (Same.refl H) ra0
      · have e : (List.replicate i.toNat xs).flatten = [] := by
          rw [show i.toNat = 0 by omega]; rfl
        rw [e] at k
        exact k _ _ (same_new hl) (rep_tup (tr.fresh hl) hl rfl)
      · exact k _ _ (same_new hl) (rep_tup (tr.fresh hl) hl (r.times _))
    · cases h
  · have e : mulA a b = mulD a b := by
      cases a <;> first | rfl | skip
      cases b <;> first | rfl | (exact absurd ⟨_, _, rfl, rfl⟩ q)
    rw [e] at h
    exact .inl (o2_mul A H x y a b d Q tr ra rb h k)
@[simp] theorem mulA_ii (i j : Int) : mulA (.int i) (.int j) = mulD (.int i) (.int j) := rfl
end DL
end

section
set_option Elab.async false
set_option linter.all false
set_option maxRecDepth 100000
set_option maxHeartbeats 4000000
namespace DL
open PySem PySem.Spec PyProof.Rows L2
def top (i : Nat) : Stmt := PySem.Challenge.pw_whocame_k04_rules_let_by.main.body.getD i (.Pass ⟨0, 0, 0, 0⟩)
abbrev st_is_between : Stmt := top 12
abbrev st_is_who : Stmt := top 13
abbrev st_fits_came : Stmt := top 14
abbrev st_fits_round : Stmt := top 15
abbrev st_fits_since : Stmt := top 16
abbrev st_is_note_of : Stmt := top 18
abbrev st_need_walkers : Stmt := top 19
abbrev st_most_in : Stmt := top 20
abbrev st_are_notes : Stmt := top 24
abbrev st_are_walkers : Stmt := top 25
abbrev st_is_span : Stmt := top 26
abbrev st_fits_free : Stmt := top 27
abbrev st_fits_who : Stmt := top 28
abbrev st_fits_note : Stmt := top 29
abbrev st_fits_mine : Stmt := top 30
abbrev st_fits_one : Stmt := top 31
abbrev st_fits_two : Stmt := top 32
abbrev st_is_rule_of : Stmt := top 34
abbrev st_need_notes : Stmt := top 35
abbrev st_need_rule : Stmt := top 36
abbrev st_notes_asked : Stmt := top 37
abbrev st_asks : Stmt := top 38
abbrev st_lets : Stmt := top 39
abbrev st_is_memory_of : Stmt := top 40
abbrev st_lets_by : Stmt := top 41
abbrev st__law_pot : Stmt := top 43
abbrev st__law_take : Stmt := top 44
abbrev st__law_folded : Stmt := top 45
abbrev st__law_note : Stmt := top 46
abbrev st__law_most : Stmt := top 47
abbrev st__law_rule : Stmt := top 48
abbrev st__law_lets : Stmt := top 49
abbrev st__law_memories : Stmt := top 50
abbrev st__law_otherwise : Stmt := top 51
abbrev st__law_rule_right : Stmt := top 52
abbrev st__law_word : Stmt := top 53
abbrev st__law_refused_right : Stmt := top 54
abbrev st_law : Stmt := top 55
abbrev fn_is_between : Nat := 12
abbrev fn_is_who : Nat := 13
abbrev fn_fits_came : Nat := 14
abbrev fn_fits_round : Nat := 15
abbrev fn_fits_since : Nat := 16
abbrev fn_is_note_of : Nat := 18
abbrev fn_need_walkers : Nat := 19
abbrev fn_most_in : Nat := 20
abbrev fn_are_notes : Nat := 24
abbrev fn_are_walkers : Nat := 25
abbrev fn_is_span : Nat := 26
abbrev fn_fits_free : Nat := 27
abbrev fn_fits_who : Nat := 28
abbrev fn_fits_note : Nat := 29
abbrev fn_fits_mine : Nat := 30
abbrev fn_fits_one : Nat := 31
abbrev fn_fits_two : Nat := 32
abbrev fn_is_rule_of : Nat := 34
abbrev fn_need_notes : Nat := 35
abbrev fn_need_rule : Nat := 36
abbrev fn_notes_asked : Nat := 37
abbrev fn_asks : Nat := 38
abbrev fn_lets : Nat := 39
abbrev fn_is_memory_of : Nat := 40
abbrev fn_lets_by : Nat := 41
abbrev fn__law_pot : Nat := 43
abbrev fn__law_take : Nat := 44
abbrev fn__law_folded : Nat := 45
abbrev fn__law_note : Nat := 46
abbrev fn__law_most : Nat := 47
abbrev fn__law_rule : Nat := 48
abbrev fn__law_lets : Nat := 49
abbrev fn__law_memories : Nat := 50
abbrev fn__law_otherwise : Nat := 51
abbrev fn__law_rule_right : Nat := 52
abbrev fn__law_word : Nat := 53
abbrev fn__law_refused_right : Nat := 54
abbrev fn_law : Nat := 55
abbrev cl_RoomError : Nat := 1
abbrev cl_NoNote : Nat := 2
abbrev cl_NoRule : Nat := 3
abbrev cl_NoMemory : Nat := 4
abbrev cl_NoWalker : Nat := 5
abbrev cl_LackError : Nat := 6
abbrev cl_NoNumber : Nat := 7
def tab_FITS : List (Str × Nat) := [("free", fn_fits_free), ("who", fn_fits_who), ("note", fn_fits_note), ("mine", fn_fits_mine), ("not", fn_fits_one), ("both", fn_fits_two), ("either", fn_fits_two)]
def tab_PAIRS : List (Str × Nat) := [("came", fn_fits_came), ("round", fn_fits_round), ("since", fn_fits_since)]
def exr_LackError_t : List (Nat × Bool) := [(cl_RoomError, false), (cl_NoNote, false), (cl_NoRule, false), (cl_NoMemory, false), (cl_NoWalker, false), (cl_LackError, true), (cl_NoNumber, true)]
def exr_LackError : Nat → Option Bool := fun n => exr_LackError_t.lookup n
def exr_RoomError_t : List (Nat × Bool) := [(cl_RoomError, true), (cl_NoNote, true), (cl_NoRule, true), (cl_NoMemory, true), (cl_NoWalker, true), (cl_LackError, false), (cl_NoNumber, false)]
def exr_RoomError : Nat → Option Bool := fun n => exr_RoomError_t.lookup n
def isr_0_t : List (Nat × Bool) := [(cl_RoomError, false), (cl_NoNote, false), (cl_NoRule, false), (cl_NoMemory, false), (cl_NoWalker, false), (cl_LackError, false), (cl_NoNumber, true)]
def isr_0 : Nat → Option Bool := fun n => isr_0_t.lookup n
def isr_1_t : List (Nat × Bool) := [(cl_RoomError, false), (cl_NoNote, true), (cl_NoRule, false), (cl_NoMemory, false), (cl_NoWalker, false), (cl_LackError, false), (cl_NoNumber, false)]
def isr_1 : Nat → Option Bool := fun n => isr_1_t.lookup n
def isr_2_t : List (Nat × Bool) := [(cl_RoomError, false), (cl_NoNote, false), (cl_NoRule, true), (cl_NoMemory, false), (cl_NoWalker, false), (cl_LackError, false), (cl_NoNumber, false)]
def isr_2 : Nat → Option Bool := fun n => isr_2_t.lookup n
def isr_3_t : List (Nat × Bool) := [(cl_RoomError, false), (cl_NoNote, false), (cl_NoRule, false), (cl_NoMemory, true), (cl_NoWalker, false), (cl_LackError, false), (cl_NoNumber, false)]
def isr_3 : Nat → Option Bool := fun n => isr_3_t.lookup n
def isr_4_t : List (Nat × Bool) := [(cl_RoomError, false), (cl_NoNote, false), (cl_NoRule, false), (cl_NoMemory, false), (cl_NoWalker, true), (cl_LackError, false), (cl_NoNumber, false)]
def isr_4 : Nat → Option Bool := fun n => isr_4_t.lookup n
def q__law_refused_right : Str := (envOfC "_law_refused_right" (defScope st__law_refused_right) 0 0 .none).qual ++ "<lambda>"
structure Facts (g : G) (Pr : Program) (w : World) (mg : Str → Option Value) (base : Heap) (cc Pt : Nat → Addr) : Prop where
  b_abs : mg "abs" = none
  b_all : mg "all" = none
  b_any : mg "any" = none
  b_bool : mg "bool" = none
  b_enumerate : mg "enumerate" = none
  b_int : mg "int" = none
  b_isinstance : mg "isinstance" = none
  b_len : mg "len" = none
  b_list : mg "list" = none
  b_max : mg "max" = none
  b_min : mg "min" = none
  b_range : mg "range" = none
  b_repr : mg "repr" = none
  b_set : mg "set" = none
  b_sorted : mg "sorted" = none
  b_str : mg "str" = none
  b_tuple : mg "tuple" = none
  b_zip : mg "zip" = none
  c_LEAST_BY : ∃ t, mg "LEAST_BY" = some (.int 2 t)
  c_MOST_DEEP : ∃ t, mg "MOST_DEEP" = some (.int 4 t)
  c_MOST_NOTES : ∃ t, mg "MOST_NOTES" = some (.int 4 t)
  c_MOST_TOP : ∃ t, mg "MOST_TOP" = some (.int 4 t)
  c_MOST_WALKERS : ∃ t, mg "MOST_WALKERS" = some (.int 3 t)
  t_FITS : ∃ d, mg "FITS" = some (.ref d) ∧ KTab g w d tab_FITS
  t_PAIRS : ∃ d, mg "PAIRS" = some (.ref d) ∧ KTab g w d tab_PAIRS
  e_LackError : mg "LackError" = some (.ref (g.clA 6))
  e_NoMemory : mg "NoMemory" = some (.ref (g.clA 4))
  e_NoNote : mg "NoNote" = some (.ref (g.clA 2))
  e_NoNumber : mg "NoNumber" = some (.ref (g.clA 7))
  e_NoRule : mg "NoRule" = some (.ref (g.clA 3))
  e_NoWalker : mg "NoWalker" = some (.ref (g.clA 5))
  e_RoomError : mg "RoomError" = some (.ref (g.clA 1))
  ev_NoMemory : ExcV g 4
  ev_NoNote : ExcV g 2
  ef_NoNumber : ExcF g Pr w mg base 7 "number"
  ev_NoRule : ExcV g 3
  ev_NoWalker : ExcV g 5
  exm_LackError : ∀ n b, exr_LackError n = some b → PySem.W.exmOne g.K (.ref (g.clA n)) (.ref (g.clA 6)) = some b
  exm_RoomError : ∀ n b, exr_RoomError n = some b → PySem.W.exmOne g.K (.ref (g.clA n)) (.ref (g.clA 1)) = some b
  is_0 : ∀ n b, isr_0 n = some b → L2.ExcC g.K (g.clA n) ∧ PySem.W.kitOne g.K (.ref (g.clA n)) (.ref (g.clA 7)) = some b
  is_1 : ∀ n b, isr_1 n = some b → L2.ExcC g.K (g.clA n) ∧ PySem.W.kitOne g.K (.ref (g.clA n)) (.ref (g.clA 2)) = some b
  is_2 : ∀ n b, isr_2 n = some b → L2.ExcC g.K (g.clA n) ∧ PySem.W.kitOne g.K (.ref (g.clA n)) (.ref (g.clA 3)) = some b
  is_3 : ∀ n b, isr_3 n = some b → L2.ExcC g.K (g.clA n) ∧ PySem.W.kitOne g.K (.ref (g.clA n)) (.ref (g.clA 4)) = some b
  is_4 : ∀ n b, isr_4 n = some b → L2.ExcC g.K (g.clA n) ∧ PySem.W.kitOne g.K (.ref (g.clA n)) (.ref (g.clA 5)) = some b
  d_is_between : DefAt g mg 12 "is_between" (top 12)
  d_is_who : DefAt g mg 13 "is_who" (top 13)
  d_fits_came : DefAt g mg 14 "fits_came" (top 14)
  d_fits_round : DefAt g mg 15 "fits_round" (top 15)
  d_fits_since : DefAt g mg 16 "fits_since" (top 16)
  d_is_note_of : DefAt g mg 18 "is_note_of" (top 18)
  d_need_walkers : DefAt g mg 19 "need_walkers" (top 19)
  d_most_in : DefAt g mg 20 "most_in" (top 20)
  d_are_notes : DefAt g mg 24 "are_notes" (top 24)
  d_are_walkers : DefAt g mg 25 "are_walkers" (top 25)
  d_is_span : DefAt g mg 26 "is_span" (top 26)
  d_fits_free : DefAt g mg 27 "fits_free" (top 27)
  d_fits_who : DefAt g mg 28 "fits_who" (top 28)
  d_fits_note : DefAt g mg 29 "fits_note" (top 29)
  d_fits_mine : DefAt g mg 30 "fits_mine" (top 30)
  d_fits_one : DefAt g mg 31 "fits_one" (top 31)
  d_fits_two : DefAt g mg 32 "fits_two" (top 32)
  d_is_rule_of : DefAt g mg 34 "is_rule_of" (top 34)
  d_need_notes : DefAt g mg 35 "need_notes" (top 35)
  d_need_rule : DefAt g mg 36 "need_rule" (top 36)
  d_notes_asked : DefAt g mg 37 "notes_asked" (top 37)
  d_asks : DefAt g mg 38 "asks" (top 38)
  d_lets : DefAt g mg 39 "lets" (top 39)
  d_is_memory_of : DefAt g mg 40 "is_memory_of" (top 40)
  d_lets_by : DefAt g mg 41 "lets_by" (top 41)
  d__law_pot : DefAt g mg 43 "_law_pot" (top 43)
  d__law_take : DefAt g mg 44 "_law_take" (top 44)
  d__law_folded : DefAt g mg 45 "_law_folded" (top 45)
  d__law_note : DefAt g mg 46 "_law_note" (top 46)
  d__law_most : DefAt g mg 47 "_law_most" (top 47)
  d__law_rule : DefAt g mg 48 "_law_rule" (top 48)
  d__law_lets : DefAt g mg 49 "_law_lets" (top 49)
  d__law_memories : DefAt g mg 50 "_law_memories" (top 50)
  d__law_otherwise : DefAt g mg 51 "_law_otherwise" (top 51)
  d__law_rule_right : DefAt g mg 52 "_law_rule_right" (top 52)
  d__law_word : DefAt g mg 53 "_law_word" (top 53)
  d__law_refused_right : DefAt g mg 54 "_law_refused_right" (top 54)
  d_law : DefAtL g mg 55 "law" (top 55) (cc 0)
  dl__law_refused_right : DefAtL g mg 54 "_law_refused_right" (top 54) (cc 1)
  tabB__law_refused_right : LamX.TabB base mg (cc 1) (Pt 1)
  hmT__law_refused_right : (Pt 1, q__law_refused_right) ∈ g.T
  huT__law_refused_right : ∀ p ∈ g.T, p.1 = Pt 1 → p.2 = q__law_refused_right
/-! is_between -/
def f_is_between : Env → RS := (sRet (dAnd (dCal isiD (dCons (dVar 0) (dCons (dC (.ty "int")) dNil))) (dAnd (dNot (dCal isiD (dCons (dVar 0) (dCons (dC (.ty "bool")) dNil)))) (dChain leD leD (dVar 1) (dVar 0) (dVar 2)))))
def F_is_between : List Slot → RF := fun ss => fin [] (f_is_between (startE 3 ss))
theorem dfn_is_between {g : G} {Pr : Program} {w : World} {mg : Str → Option Value} {base : Heap} {cc Pt : Nat → Addr} (c : Facts g Pr w mg base cc Pt) : Dfn g Pr w g.K mg base 1 "is_between" 3 [] F_is_between := by
  have ndN : (["thing", "low", "high"] : List Str).Nodup := by decide +kernel
  exact dfn_mk (st := st_is_between) (N := ["thing", "low", "high"]) (pn := ["thing", "low", "high"]) (mp := []) (fb := f_is_between) c.d_is_between ⟨rfl, rfl, rfl, ndN, rfl, by decide +kernel, by decide +kernel⟩ (fun _ _ _ _ _ _ us hl => match us, hl with | [_, _, _], _ => rfl) fun f cdv A outer s H E hr => (dss_one (ds_ret (de_and (de_callB call_isi (oc_isi rfl) rfl c.b_isinstance boot_isinstance (da_cons (de_var 0) (da_cons (de_ty rfl c.b_int boot_int) da_nil))) (de_and (de_not (de_callB call_isi (oc_isi rfl) rfl c.b_isinstance boot_isinstance (da_cons (de_var 0) (da_cons (de_ty rfl c.b_bool boot_bool) da_nil)))) (de_one (de_chain op_le op_le o2_rB0 o2_rB0 (de_var 1) (de_var 0) (de_var 2)))))))
/-! is_who -/
def f_is_who : Env → RS := (sRet (dOr (dBin isND (dVar 1) (dC .non)) (dCall F_is_between [none, none, none] (dCons (dVar 1) (dCons (dC (.int 0)) (dCons (dBin subD (dVar 0) (dC (.int 1))) dNil))))))
def F_is_who : List Slot → RF := fun ss => fin [] (f_is_who (startE 2 ss))
theorem dfn_is_who {g : G} {Pr : Program} {w : World} {mg : Str → Option Value} {base : Heap} {cc Pt : Nat → Addr} (c : Facts g Pr w mg base cc Pt) : Dfn g Pr w g.K mg base 2 "is_who" 2 [] F_is_who := by
  have ndN : (["walkers", "thing"] : List Str).Nodup := by decide +kernel
  exact dfn_mk (st := st_is_who) (N := ["walkers", "thing"]) (pn := ["walkers", "thing"]) (mp := []) (fb := f_is_who) c.d_is_who ⟨rfl, rfl, rfl, ndN, rfl, by decide +kernel, by decide +kernel⟩ (fun _ _ _ _ _ _ us hl => match us, hl with | [_, _], _ => rfl) fun f cdv A outer s H E hr => (dss_one (ds_ret (de_or (de_cmp op_isN o2_isN (de_var 1) de_non (nomark _)) (de_one (de_call ((dfn_is_between c).mono (by decide)) hr rfl (das_v (de_var 1) (das_v de_int (das_v (de_bin op_sub o2_sub (de_var 0) de_int) das_nil))))))))
/-! fits_came -/
def f_fits_came : Env → RS := (sRet (dAnd (dCall F_is_who [none, none] (dCons (dVar 0) (dCons (dVar 1) dNil))) (dCall F_is_between [none, none, none] (dCons (dVar 2) (dCons (dC (.int 1)) (dCons (dC (.int 4)) dNil))))))
def F_fits_came : List Slot → RF := fun ss => fin [] (f_fits_came (startE 3 ss))
theorem dfn_fits_came {g : G} {Pr : Program} {w : World} {mg : Str → Option Value} {base : Heap} {cc Pt : Nat → Addr} (c : Facts g Pr w mg base cc Pt) : Dfn g Pr w g.K mg base 3 "fits_came" 3 [] F_fits_came := by
  have ndN : (["walkers", "who", "top"] : List Str).Nodup := by decide +kernel
  exact dfn_mk (st := st_fits_came) (N := ["walkers", "who", "top"]) (pn := ["walkers", "who", "top"]) (mp := []) (fb := f_fits_came) c.d_fits_came ⟨rfl, rfl, rfl, ndN, rfl, by decide +kernel, by decide +kernel⟩ (fun _ _ _ _ _ _ us hl => match us, hl with | [_, _, _], _ => rfl) fun f cdv A outer s H E hr => (dss_one (ds_ret (de_and (de_call ((dfn_is_who c).mono (by decide)) hr rfl (das_v (de_var 0) (das_v (de_var 1) das_nil))) (de_one (de_call ((dfn_is_between c).mono (by decide)) hr rfl (das_v (de_var 2) (das_v de_int (das_v (de_gint rfl c.c_MOST_TOP) das_nil))))))))
/-! fits_round -/
def f_fits_round : Env → RS := (sRet (dAnd (dCall F_is_who [none, none] (dCons (dVar 0) (dCons (dVar 1) dNil))) (dCall F_is_between [none, none, none] (dCons (dVar 2) (dCons (dC (.int 2)) (dCons (dC (.int 4)) dNil))))))
def F_fits_round : List Slot → RF := fun ss => fin [] (f_fits_round (startE 3 ss))
theorem dfn_fits_round {g : G} {Pr : Program} {w : World} {mg : Str → Option Value} {base : Heap} {cc Pt : Nat → Addr} (c : Facts g Pr w mg base cc Pt) : Dfn g Pr w g.K mg base 3 "fits_round" 3 [] F_fits_round := by
  have ndN : (["walkers", "who", "by"] : List Str).Nodup := by decide +kernel
  exact dfn_mk (st := st_fits_round) (N := ["walkers", "who", "by"]) (pn := ["walkers", "who", "by"]) (mp := []) (fb := f_fits_round) c.d_fits_round ⟨rfl, rfl, rfl, ndN, rfl, by decide +kernel, by decide +kernel⟩ (fun _ _ _ _ _ _ us hl => match us, hl with | [_, _, _], _ => rfl) fun f cdv A outer s H E hr => (dss_one (ds_ret (de_and (de_call ((dfn_is_who c).mono (by decide)) hr rfl (das_v (de_var 0) (das_v (de_var 1) das_nil))) (de_one (de_call ((dfn_is_between c).mono (by decide)) hr rfl (das_v (de_var 2) (das_v (de_gint rfl c.c_LEAST_BY) (das_v (de_gint rfl c.c_MOST_TOP) das_nil))))))))
/-! fits_since -/
def f_fits_since : Env → RS := (sRet (dAnd (dCall F_is_between [none, none, none] (dCons (dVar 1) (dCons (dC (.int 0)) (dCons (dBin subD (dVar 0) (dC (.int 1))) dNil)))) (dAnd (dCall F_is_between [none, none, none] (dCons (dVar 2) (dCons (dC (.int 0)) (dCons (dBin subD (dVar 0) (dC (.int 1))) dNil)))) (dBin neS (dVar 1) (dVar 2)))))
def F_fits_since : List Slot → RF := fun ss => fin [] (f_fits_since (startE 3 ss))
theorem dfn_fits_since {g : G} {Pr : Program} {w : World} {mg : Str → Option Value} {base : Heap} {cc Pt : Nat → Addr} (c : Facts g Pr w mg base cc Pt) : Dfn g Pr w g.K mg base 2 "fits_since" 3 [] F_fits_since := by
  have ndN : (["walkers", "one", "other"] : List Str).Nodup := by decide +kernel
  exact dfn_mk (st := st_fits_since) (N := ["walkers", "one", "other"]) (pn := ["walkers", "one", "other"]) (mp := []) (fb := f_fits_since) c.d_fits_since ⟨rfl, rfl, rfl, ndN, rfl, by decide +kernel, by decide +kernel⟩ (fun _ _ _ _ _ _ us hl => match us, hl with | [_, _, _], _ => rfl) fun f cdv A outer s H E hr => (dss_one (ds_ret (de_and (de_call ((dfn_is_between c).mono (by decide)) hr rfl (das_v (de_var 1) (das_v de_int (das_v (de_bin op_sub o2_sub (de_var 0) de_int) das_nil)))) (de_and (de_call ((dfn_is_between c).mono (by decide)) hr rfl (das_v (de_var 2) (das_v de_int (das_v (de_bin op_sub o2_sub (de_var 0) de_int) das_nil)))) (de_one (de_cmp (op_neS (u64 hr)) (o2_neS rfl) (de_var 1) (de_var 2) (nomark _)))))))
def held_PAIRS : Nat → Option (List Slot → RF) := fun n => if n = fn_fits_came then some F_fits_came else if n = fn_fits_round then some F_fits_round else if n = fn_fits_since then some F_fits_since else none
theorem held_PAIRS_ok {g : G} {Pr : Program} {w : World} {mg : Str → Option Value} {base : Heap} {cc Pt : Nat → Addr} (c : Facts g Pr w mg base cc Pt) (n : Nat) (F : List Slot → RF) (h : held_PAIRS n = some F) : Hfn g Pr w g.K mg base 3 n 3 [] F := by
  unfold held_PAIRS at h
  split at h
  · rename_i e; cases h; subst e; exact hfn_of c.d_fits_came ((dfn_fits_came c).mono (by decide))
  split at h
  · rename_i e; cases h; subst e; exact hfn_of c.d_fits_round ((dfn_fits_round c).mono (by decide))
  split at h
  · rename_i e; cases h; subst e; exact hfn_of c.d_fits_since ((dfn_fits_since c).mono (by decide))
  cases h
/-! is_note_of -/
def f_is_note_of : Env → RS := (sSeq (sIf (bOr (bNot (dTruth (dCal isiD (dCons (dVar 1) (dCons (dC (.ty "tuple")) dNil))))) (bOr (dTest (dBin eqS (dVar 1) (dTup dNil))) (bNot (dTruth (dCal isiD (dCons (dBin ixD (dVar 1) (dC (.int 0))) (dCons (dC (.ty "str")) dNil))))))) (sRet (dC (.bl false))) sNx) (sSeq (sAsg (dVar 1) (gtStar 1 (gtCons (gtN 3) (gtCons (gtN 4) gtNil)))) (sSeq (sIf (dTest (dBin yesD (dVar 3) (dTup (dCons (dC (.str "last")) (dCons (dC (.str "first")) dNil))))) (sRet (dBin eqS (dVar 4) (dM (mLst dNil)))) sNx) (sSeq (sIf (dTest (dBin eqS (dVar 3) (dC (.str "here")))) (sRet (dAnd (dBin eqS (dCal (on1 lenD) (dCons (dVar 4) dNil)) (dC (.int 1))) (dCall F_is_who [none, none] (dCons (dVar 0) (dCons (dBin ixD (dVar 4) (dC (.int 0))) dNil))))) sNx) (sSeq (sIf (bOr (dTest (dUn (inT tab_PAIRS true) (dVar 3))) (dTest (dBin neS (dCal (on1 lenD) (dCons (dVar 4) dNil)) (dC (.int 2))))) (sRet (dC (.bl false))) sNx) (sSeq (sAsg (dUn (ixT tab_PAIRS) (dVar 3)) (gtN 2)) (sRet (dCallH 2 held_PAIRS [none, none, none] (dCons (dVar 0) (dCons (dBin ixD (dVar 4) (dC (.int 0))) (dCons (dBin ixD (dVar 4) (dC (.int 1))) dNil)))))))))))
def F_is_note_of : List Slot → RF := fun ss => fin [] (f_is_note_of (startE 5 ss))
theorem dfn_is_note_of {g : G} {Pr : Program} {w : World} {mg : Str → Option Value} {base : Heap} {cc Pt : Nat → Addr} (c : Facts g Pr w mg base cc Pt) : Dfn g Pr w g.K mg base 4 "is_note_of" 2 [] F_is_note_of := by
  have ndN : (["walkers", "thing", "fits", "word", "parts"] : List Str).Nodup := by decide +kernel
  obtain ⟨d_PAIRS, m_PAIRS, t_PAIRS⟩ := c.t_PAIRS
  exact dfn_mk (st := st_is_note_of) (N := ["walkers", "thing", "fits", "word", "parts"]) (pn := ["walkers", "thing"]) (mp := []) (fb := f_is_note_of) c.d_is_note_of ⟨rfl, rfl, rfl, ndN, rfl, by decide +kernel, by decide +kernel⟩ (fun _ _ _ _ _ _ us hl => match us, hl with | [_, _], _ => rfl) fun f cdv A outer s H E hr => (dss_cons (ds_if (db_w (dbw_or (db_not (db_truth rfl (fun _ => rfl) (de_callB call_isi (oc_isi rfl) rfl c.b_isinstance boot_isinstance (da_cons (de_var 1) (da_cons (de_ty rfl c.b_tuple boot_tuple) da_nil))))) (dbw_or (db_cmp (op_eqS (u64 hr)) (o2_eqS rfl) (de_var 1) (de_tup da_nil) (nomark _)) (dbw_or1 (db_not (db_truth rfl (fun _ => rfl) (de_callB call_isi (oc_isi rfl) rfl c.b_isinstance boot_isinstance (da_cons (de_ix rfl (u1 hr) (de_var 1) de_int) (da_cons (de_ty rfl c.b_str boot_str) da_nil))))))))) (dss_one (ds_ret de_bl)) dss_nil) (dss_cons (ds_asg (de_var 1) (dg_star rfl rfl (dgs_cons (dg_name 3 ndN) (dgs_star (dg_name 4 ndN) dgs_nil)))) (dss_cons (ds_if (db_cmp (op_inA (u1 hr)) (o2_in rfl) (de_var 3) (de_tup (da_cons de_str (da_cons de_str da_nil))) (by rfl)) (dss_one (ds_ret (de_cmp (op_eqS (u64 hr)) (o2_eqS rfl) (de_var 4) (de_m (dm_lst da_nil)) (nomark _)))) dss_nil) (dss_cons (ds_if (db_cmp (op_eqS (u64 hr)) (o2_eqS rfl) (de_var 3) de_str (nomark _)) (dss_one (ds_ret (de_and (de_cmp (op_eqS (u64 hr)) (o2_eqS rfl) (de_callB call_len (oc_len rfl) rfl c.b_len PySem.boot_len (da_cons (de_var 4) da_nil)) de_int (nomark _)) (de_one (de_call ((dfn_is_who c).mono (by decide)) hr rfl (das_v (de_var 0) (das_v (de_ix rfl (u1 hr) (de_var 4) de_int) das_nil))))))) dss_nil) (dss_cons (ds_if (db_w (dbw_or (db_notInT t_PAIRS rfl rfl m_PAIRS (de_var 3)) (dbw_or1 (db_cmp (op_neS (u64 hr)) (o2_neS rfl) (de_callB call_len (oc_len rfl) rfl c.b_len PySem.boot_len (da_cons (de_var 4) da_nil)) de_int (nomark _))))) (dss_one (ds_ret de_bl)) dss_nil) (dss_cons (ds_asg (de_ixT t_PAIRS rfl rfl m_PAIRS (de_var 3)) (dg_name 2 ndN)) (dss_one (ds_ret (de_callH 2 (fun n F h => (held_PAIRS_ok c n F h).mono (by decide)) hr (das_v (de_var 0) (das_v (de_ix rfl (u1 hr) (de_var 4) de_int) (das_v (de_ix rfl (u1 hr) (de_var 4) de_int) das_nil))))))))))))
/-! need_walkers -/
def f_need_walkers : Env → RS := (sIf (bNot (dTruth (dCall F_is_between [none, none, none] (dCons (dVar 0) (dCons (dC (.int 1)) (dCons (dC (.int 3)) dNil)))))) (sRaise1 cl_NoNumber "number" (dVar 0)) sNx)
def F_need_walkers : List Slot → RF := fun ss => fin [] (f_need_walkers (startE 1 ss))
theorem dfn_need_walkers {g : G} {Pr : Program} {w : World} {mg : Str → Option Value} {base : Heap} {cc Pt : Nat → Addr} (c : Facts g Pr w mg base cc Pt) : Dfn g Pr w g.K mg base 3 "need_walkers" 1 [] F_need_walkers := by
  have ndN : (["walkers"] : List Str).Nodup := by decide +kernel
  obtain ⟨d_PAIRS, m_PAIRS, t_PAIRS⟩ := c.t_PAIRS
  exact dfn_mk (st := st_need_walkers) (N := ["walkers"]) (pn := ["walkers"]) (mp := []) (fb := f_need_walkers) c.d_need_walkers ⟨rfl, rfl, rfl, ndN, rfl, by decide +kernel, by decide +kernel⟩ (fun _ _ _ _ _ _ us hl => match us, hl with | [_], _ => rfl) fun f cdv A outer s H E hr => (dss_one (ds_if (db_not (db_truth rfl (fun _ => rfl) (de_call ((dfn_is_between c).mono (by decide)) hr rfl (das_v (de_var 0) (das_v de_int (das_v (de_gint rfl c.c_MOST_WALKERS) das_nil)))))) (dss_one (ds_raise1 c.ef_NoNumber rfl rfl hr rfl c.e_NoNumber (de_var 0))) dss_nil))
/-! most_in -/
def f_most_in : Env → RS := (sSeq (sIf (dTest (dBin eqS (dBin ixD (dVar 1) (dC (.int 0))) (dC (.str "came")))) (sRet (dBin ixD (dVar 1) (dC (.int 2)))) sNx) (sSeq (sIf (dTest (dBin eqS (dBin ixD (dVar 1) (dC (.int 0))) (dC (.str "round")))) (sRet (dBin subD (dBin ixD (dVar 1) (dC (.int 2))) (dC (.int 1)))) sNx) (sSeq (sIf (bOr (dTest (dBin eqS (dBin ixD (dVar 1) (dC (.int 0))) (dC (.str "since")))) (bAnd (dTest (dBin eqS (dBin ixD (dVar 1) (dC (.int 0))) (dC (.str "here")))) (dTest (dBin notND (dBin ixD (dVar 1) (dC (.int 1))) (dC .non))))) (sRet (dC (.int 1))) sNx) (sRet (dVar 0)))))
def F_most_in : List Slot → RF := fun ss => fin [] (f_most_in (startE 2 ss))
theorem dfn_most_in {g : G} {Pr : Program} {w : World} {mg : Str → Option Value} {base : Heap} {cc Pt : Nat → Addr} (c : Facts g Pr w mg base cc Pt) : Dfn g Pr w g.K mg base 1 "most_in" 2 [] F_most_in := by
  have ndN : (["walkers", "note"] : List Str).Nodup := by decide +kernel
  obtain ⟨d_PAIRS, m_PAIRS, t_PAIRS⟩ := c.t_PAIRS
  exact dfn_mk (st := st_most_in) (N := ["walkers", "note"]) (pn := ["walkers", "note"]) (mp := []) (fb := f_most_in) c.d_most_in ⟨rfl, rfl, rfl, ndN, rfl, by decide +kernel, by decide +kernel⟩ (fun _ _ _ _ _ _ us hl => match us, hl with | [_, _], _ => rfl) fun f cdv A outer s H E hr => (dss_cons (ds_if (db_cmp (op_eqS (u64 hr)) (o2_eqS rfl) (de_ix rfl (u1 hr) (de_var 1) de_int) de_str (nomark _)) (dss_one (ds_ret (de_ix rfl (u1 hr) (de_var 1) de_int))) dss_nil) (dss_cons (ds_if (db_cmp (op_eqS (u64 hr)) (o2_eqS rfl) (de_ix rfl (u1 hr) (de_var 1) de_int) de_str (nomark _)) (dss_one (ds_ret (de_bin op_sub o2_sub (de_ix rfl (u1 hr) (de_var 1) de_int) de_int))) dss_nil) (dss_cons (ds_if (db_w (dbw_or (db_cmp (op_eqS (u64 hr)) (o2_eqS rfl) (de_ix rfl (u1 hr) (de_var 1) de_int) de_str (nomark _)) (dbw_or1 (db_w (dbw_and (db_cmp (op_eqS (u64 hr)) (o2_eqS rfl) (de_ix rfl (u1 hr) (de_var 1) de_int) de_str (nomark _)) (dbw_and1 (db_cmp op_notN o2_notN (de_ix rfl (u1 hr) (de_var 1) de_int) de_non (nomark _)))))))) (dss_one (ds_ret de_int)) dss_nil) (dss_one (ds_ret (de_var 0))))))
/-! are_notes -/
def f_are_notes : Env → RS := (sRet (dAnd (dCal isiD (dCons (dVar 1) (dCons (dC (.ty "tuple")) dNil))) (dAnd (dBin leD (dCal (on1 lenD) (dCons (dVar 1) dNil)) (dC (.int 4))) (dCal (on1 allD) (dCons (dM (mComp [2] (iItems1 (dVar 1)) (gtN 2) bTrue (dCall F_is_note_of [none, none] (dCons (dVar 0) (dCons (dVar 2) dNil))))) dNil)))))
def F_are_notes : List Slot → RF := fun ss => fin [] (f_are_notes (startE 3 ss))
theorem dfn_are_notes {g : G} {Pr : Program} {w : World} {mg : Str → Option Value} {base : Heap} {cc Pt : Nat → Addr} (c : Facts g Pr w mg base cc Pt) : Dfn g Pr w g.K mg base 5 "are_notes" 2 [] F_are_notes := by
  have ndN : (["walkers", "thing", "note"] : List Str).Nodup := by decide +kernel
  obtain ⟨d_PAIRS, m_PAIRS, t_PAIRS⟩ := c.t_PAIRS
  exact dfn_mk (st := st_are_notes) (N := ["walkers", "thing", "note"]) (pn := ["walkers", "thing"]) (mp := []) (fb := f_are_notes) c.d_are_notes ⟨rfl, rfl, rfl, ndN, rfl, by decide +kernel, by decide +kernel⟩ (fun _ _ _ _ _ _ us hl => match us, hl with | [_, _], _ => rfl) fun f cdv A outer s H E hr => (dss_one (ds_ret (de_and (de_callB call_isi (oc_isi rfl) rfl c.b_isinstance boot_isinstance (da_cons (de_var 1) (da_cons (de_ty rfl c.b_tuple boot_tuple) da_nil))) (de_and (de_cmp op_le o2_rB0 (de_callB call_len (oc_len rfl) rfl c.b_len PySem.boot_len (da_cons (de_var 1) da_nil)) (de_gint rfl c.c_MOST_NOTES) (nomark _)) (de_one (de_callB (cr_all rfl) (oc_all rfl) rfl c.b_all boot_all (da_cons (de_m (dm_comp (own := [("note", 2)]) ndN rfl (di_seq rfl (de_var 1)) (blkOk_by (by rfl)) (fun _ _ _ _ _ => (dg_name 2 ndN)) (fun _ _ _ _ _ => dts_nil) (fun _ _ _ _ _ => (de_call ((dfn_is_note_of c).mono (by decide)) hr rfl (das_v (de_var 0) (das_v (de_var 2) das_nil)))))) da_nil)))))))
/-! are_walkers -/
def f_are_walkers : Env → RS := (sSeq (sIf (bOr (bNot (dTruth (dCal isiD (dCons (dVar 1) (dCons (dC (.ty "tuple")) dNil))))) (bOr (dTest (dBin eqS (dVar 1) (dTup dNil))) (bNot (dTruth (dCal (on1 allD) (dCons (dM (mComp [2] (iItems1 (dVar 1)) (gtN 2) bTrue (dCall F_is_between [none, none, none] (dCons (dVar 2) (dCons (dC (.int 0)) (dCons (dBin subD (dVar 0) (dC (.int 1))) dNil)))))) dNil)))))) (sRet (dC (.bl false))) sNx) (sRet (dCal (on1 allD) (dCons (dM (mComp [2, 3] (iZip2 (dVar 1) (dSl (dVar 1) (pSome (dC (.int 1))) pNo)) (gtSeq 2 (gtCons (gtN 2) (gtCons (gtN 3) gtNil))) bTrue (dBin ltD (dVar 2) (dVar 3)))) dNil))))
def F_are_walkers : List Slot → RF := fun ss => fin [] (f_are_walkers (startE 4 ss))
theorem dfn_are_walkers {g : G} {Pr : Program} {w : World} {mg : Str → Option Value} {base : Heap} {cc Pt : Nat → Addr} (c : Facts g Pr w mg base cc Pt) : Dfn g Pr w g.K mg base 2 "are_walkers" 2 [] F_are_walkers := by
  have ndN : (["walkers", "thing", "one", "other"] : List Str).Nodup := by decide +kernel
  obtain ⟨d_PAIRS, m_PAIRS, t_PAIRS⟩ := c.t_PAIRS
  exact dfn_mk (st := st_are_walkers) (N := ["walkers", "thing", "one", "other"]) (pn := ["walkers", "thing"]) (mp := []) (fb := f_are_walkers) c.d_are_walkers ⟨rfl, rfl, rfl, ndN, rfl, by decide +kernel, by decide +kernel⟩ (fun _ _ _ _ _ _ us hl => match us, hl with | [_, _], _ => rfl) fun f cdv A outer s H E hr => (dss_cons (ds_if (db_w (dbw_or (db_not (db_truth rfl (fun _ => rfl) (de_callB call_isi (oc_isi rfl) rfl c.b_isinstance boot_isinstance (da_cons (de_var 1) (da_cons (de_ty rfl c.b_tuple boot_tuple) da_nil))))) (dbw_or (db_cmp (op_eqS (u64 hr)) (o2_eqS rfl) (de_var 1) (de_tup da_nil) (nomark _)) (dbw_or1 (db_not (db_truth rfl (fun _ => rfl) (de_callB (cr_all rfl) (oc_all rfl) rfl c.b_all boot_all (da_cons (de_m (dm_comp (own := [("one", 2)]) ndN rfl (di_seq rfl (de_var 1)) (blkOk_by (by rfl)) (fun _ _ _ _ _ => (dg_name 2 ndN)) (fun _ _ _ _ _ => dts_nil) (fun _ _ _ _ _ => (de_call ((dfn_is_between c).mono (by decide)) hr rfl (das_v (de_var 2) (das_v de_int (das_v (de_bin op_sub o2_sub (de_var 0) de_int) das_nil))))))) da_nil)))))))) (dss_one (ds_ret de_bl)) dss_nil) (dss_one (ds_ret (de_callB (cr_all rfl) (oc_all rfl) rfl c.b_all boot_all (da_cons (de_m (dm_comp (own := [("one", 2), ("other", 3)]) ndN rfl (di_zip rfl rfl c.b_zip (de_var 1) (de_sl rfl (de_var 1) (do_some de_int) do_none)) (blkOk_by (by rfl)) (fun _ _ _ _ _ => (dg_seq rfl rfl (dgs_cons (dg_name 2 ndN) (dgs_cons (dg_name 3 ndN) dgs_nil)))) (fun _ _ _ _ _ => dts_nil) (fun _ _ _ _ _ => (de_cmp op_lt o2_rB0 (de_var 2) (de_var 3) (nomark _))))) da_nil)))))
/-! is_span -/
def f_is_span : Env → RS := (sSeq (sIf (bNot (dTruth (dCall F_is_between [none, none, none] (dCons (dVar 2) (dCons (dC (.int 0)) (dCons (dBin subD (dCal (on1 lenD) (dCons (dVar 1) dNil)) (dC (.int 1))) dNil)))))) (sRet (dC (.bl false))) sNx) (sSeq (sAsg (dCall F_most_in [none, none] (dCons (dVar 0) (dCons (dBin ixD (dVar 1) (dVar 2)) dNil))) (gtN 5)) (sRet (dAnd (dCall F_is_between [none, none, none] (dCons (dVar 3) (dCons (dC (.int 0)) (dCons (dVar 5) dNil)))) (dCall F_is_between [none, none, none] (dCons (dVar 4) (dCons (dVar 3) (dCons (dVar 5) dNil))))))))
def F_is_span : List Slot → RF := fun ss => fin [] (f_is_span (startE 6 ss))
theorem dfn_is_span {g : G} {Pr : Program} {w : World} {mg : Str → Option Value} {base : Heap} {cc Pt : Nat → Addr} (c : Facts g Pr w mg base cc Pt) : Dfn g Pr w g.K mg base 2 "is_span" 5 [] F_is_span := by
  have ndN : (["walkers", "notes", "k", "low", "high", "most"] : List Str).Nodup := by decide +kernel
  obtain ⟨d_PAIRS, m_PAIRS, t_PAIRS⟩ := c.t_PAIRS
  exact dfn_mk (st := st_is_span) (N := ["walkers", "notes", "k", "low", "high", "most"]) (pn := ["walkers", "notes", "k", "low", "high"]) (mp := []) (fb := f_is_span) c.d_is_span ⟨rfl, rfl, rfl, ndN, rfl, by decide +kernel, by decide +kernel⟩ (fun _ _ _ _ _ _ us hl => match us, hl with | [_, _, _, _, _], _ => rfl) fun f cdv A outer s H E hr => (dss_cons (ds_if (db_not (db_truth rfl (fun _ => rfl) (de_call ((dfn_is_between c).mono (by decide)) hr rfl (das_v (de_var 2) (das_v de_int (das_v (de_bin op_sub o2_sub (de_callB call_len (oc_len rfl) rfl c.b_len PySem.boot_len (da_cons (de_var 1) da_nil)) de_int) das_nil)))))) (dss_one (ds_ret de_bl)) dss_nil) (dss_cons (ds_asg (de_call ((dfn_most_in c).mono (by decide)) hr rfl (das_v (de_var 0) (das_v (de_ix rfl (u1 hr) (de_var 1) (de_var 2)) das_nil))) (dg_name 5 ndN)) (dss_one (ds_ret (de_and (de_call ((dfn_is_between c).mono (by decide)) hr rfl (das_v (de_var 3) (das_v de_int (das_v (de_var 5) das_nil)))) (de_one (de_call ((dfn_is_between c).mono (by decide)) hr rfl (das_v (de_var 4) (das_v (de_var 3) (das_v (de_var 5) das_nil))))))))))
/-! fits_free -/
def f_fits_free : Env → RS := (sRet (dBin eqS (dVar 2) (dM (mLst dNil))))
def F_fits_free : List Slot → RF := fun ss => fin [] (f_fits_free (startE 4 ss))
theorem dfn_fits_free {g : G} {Pr : Program} {w : World} {mg : Str → Option Value} {base : Heap} {cc Pt : Nat → Addr} (c : Facts g Pr w mg base cc Pt) : Dfn g Pr w g.K mg base 1 "fits_free" 4 [] F_fits_free := by
  have ndN : (["walkers", "notes", "parts", "deep"] : List Str).Nodup := by decide +kernel
  obtain ⟨d_PAIRS, m_PAIRS, t_PAIRS⟩ := c.t_PAIRS
  exact dfn_mk (st := st_fits_free) (N := ["walkers", "notes", "parts", "deep"]) (pn := ["walkers", "notes", "parts", "deep"]) (mp := []) (fb := f_fits_free) c.d_fits_free ⟨rfl, rfl, rfl, ndN, rfl, by decide +kernel, by decide +kernel⟩ (fun _ _ _ _ _ _ us hl => match us, hl with | [_, _, _, _], _ => rfl) fun f cdv A outer s H E hr => (dss_one (ds_ret (de_cmp (op_eqS (u64 hr)) (o2_eqS rfl) (de_var 2) (de_m (dm_lst da_nil)) (nomark _))))
/-! fits_who -/
def f_fits_who : Env → RS := (sRet (dAnd (dBin eqS (dCal (on1 lenD) (dCons (dVar 2) dNil)) (dC (.int 1))) (dCall F_are_walkers [none, none] (dCons (dVar 0) (dCons (dBin ixD (dVar 2) (dC (.int 0))) dNil)))))
def F_fits_who : List Slot → RF := fun ss => fin [] (f_fits_who (startE 4 ss))
theorem dfn_fits_who {g : G} {Pr : Program} {w : World} {mg : Str → Option Value} {base : Heap} {cc Pt : Nat → Addr} (c : Facts g Pr w mg base cc Pt) : Dfn g Pr w g.K mg base 3 "fits_who" 4 [] F_fits_who := by
  have ndN : (["walkers", "notes", "parts", "deep"] : List Str).Nodup := by decide +kernel
  obtain ⟨d_PAIRS, m_PAIRS, t_PAIRS⟩ := c.t_PAIRS
  exact dfn_mk (st := st_fits_who) (N := ["walkers", "notes", "parts", "deep"]) (pn := ["walkers", "notes", "parts", "deep"]) (mp := []) (fb := f_fits_who) c.d_fits_who ⟨rfl, rfl, rfl, ndN, rfl, by decide +kernel, by decide +kernel⟩ (fun _ _ _ _ _ _ us hl => match us, hl with | [_, _, _, _], _ => rfl) fun f cdv A outer s H E hr => (dss_one (ds_ret (de_and (de_cmp (op_eqS (u64 hr)) (o2_eqS rfl) (de_callB call_len (oc_len rfl) rfl c.b_len PySem.boot_len (da_cons (de_var 2) da_nil)) de_int (nomark _)) (de_one (de_call ((dfn_are_walkers c).mono (by decide)) hr rfl (das_v (de_var 0) (das_v (de_ix rfl (u1 hr) (de_var 2) de_int) das_nil)))))))
/-! fits_note -/
def f_fits_note : Env → RS := (sRet (dAnd (dBin eqS (dCal (on1 lenD) (dCons (dVar 2) dNil)) (dC (.int 3))) (dCall F_is_span [none, none, none, none, none] (dCons (dVar 0) (dCons (dVar 1) (dCons (dBin ixD (dVar 2) (dC (.int 0))) (dCons (dBin ixD (dVar 2) (dC (.int 1))) (dCons (dBin ixD (dVar 2) (dC (.int 2))) dNil))))))))
def F_fits_note : List Slot → RF := fun ss => fin [] (f_fits_note (startE 4 ss))
theorem dfn_fits_note {g : G} {Pr : Program} {w : World} {mg : Str → Option Value} {base : Heap} {cc Pt : Nat → Addr} (c : Facts g Pr w mg base cc Pt) : Dfn g Pr w g.K mg base 3 "fits_note" 4 [] F_fits_note := by
  have ndN : (["walkers", "notes", "parts", "deep"] : List Str).Nodup := by decide +kernel
  obtain ⟨d_PAIRS, m_PAIRS, t_PAIRS⟩ := c.t_PAIRS
  exact dfn_mk (st := st_fits_note) (N := ["walkers", "notes", "parts", "deep"]) (pn := ["walkers", "notes", "parts", "deep"]) (mp := []) (fb := f_fits_note) c.d_fits_note ⟨rfl, rfl, rfl, ndN, rfl, by decide +kernel, by decide +kernel⟩ (fun _ _ _ _ _ _ us hl => match us, hl with | [_, _, _, _], _ => rfl) fun f cdv A outer s H E hr => (dss_one (ds_ret (de_and (de_cmp (op_eqS (u64 hr)) (o2_eqS rfl) (de_callB call_len (oc_len rfl) rfl c.b_len PySem.boot_len (da_cons (de_var 2) da_nil)) de_int (nomark _)) (de_one (de_call ((dfn_is_span c).mono (by decide)) hr rfl (das_v (de_var 0) (das_v (de_var 1) (das_v (de_ix rfl (u1 hr) (de_var 2) de_int) (das_v (de_ix rfl (u1 hr) (de_var 2) de_int) (das_v (de_ix rfl (u1 hr) (de_var 2) de_int) das_nil))))))))))
/-! fits_mine -/
def f_fits_mine : Env → RS := (sSeq (sIf (bOr (dTest (dBin neS (dCal (on1 lenD) (dCons (dVar 2) dNil)) (dC (.int 1)))) (bNot (dTruth (dCall F_is_between [none, none, none] (dCons (dBin ixD (dVar 2) (dC (.int 0))) (dCons (dC (.int 0)) (dCons (dBin subD (dCal (on1 lenD) (dCons (dVar 1) dNil)) (dC (.int 1))) dNil))))))) (sRet (dC (.bl false))) sNx) (sRet (dBin yesD (dBin ixD (dBin ixD (dVar 1) (dBin ixD (dVar 2) (dC (.int 0)))) (dC (.int 0))) (dTup (dCons (dC (.str "last")) (dCons (dC (.str "first")) dNil))))))
def F_fits_mine : List Slot → RF := fun ss => fin [] (f_fits_mine (startE 4 ss))
theorem dfn_fits_mine {g : G} {Pr : Program} {w : World} {mg : Str → Option Value} {base : Heap} {cc Pt : Nat → Addr} (c : Facts g Pr w mg base cc Pt) : Dfn g Pr w g.K mg base 2 "fits_mine" 4 [] F_fits_mine := by
  have ndN : (["walkers", "notes", "parts", "deep"] : List Str).Nodup := by decide +kernel
  obtain ⟨d_PAIRS, m_PAIRS, t_PAIRS⟩ := c.t_PAIRS
  exact dfn_mk (st := st_fits_mine) (N := ["walkers", "notes", "parts", "deep"]) (pn := ["walkers", "notes", "parts", "deep"]) (mp := []) (fb := f_fits_mine) c.d_fits_mine ⟨rfl, rfl, rfl, ndN, rfl, by decide +kernel, by decide +kernel⟩ (fun _ _ _ _ _ _ us hl => match us, hl with | [_, _, _, _], _ => rfl) fun f cdv A outer s H E hr => (dss_cons (ds_if (db_w (dbw_or (db_cmp (op_neS (u64 hr)) (o2_neS rfl) (de_callB call_len (oc_len rfl) rfl c.b_len PySem.boot_len (da_cons (de_var 2) da_nil)) de_int (nomark _)) (dbw_or1 (db_not (db_truth rfl (fun _ => rfl) (de_call ((dfn_is_between c).mono (by decide)) hr rfl (das_v (de_ix rfl (u1 hr) (de_var 2) de_int) (das_v de_int (das_v (de_bin op_sub o2_sub (de_callB call_len (oc_len rfl) rfl c.b_len PySem.boot_len (da_cons (de_var 1) da_nil)) de_int) das_nil))))))))) (dss_one (ds_ret de_bl)) dss_nil) (dss_one (ds_ret (de_cmp (op_inA (u1 hr)) (o2_in rfl) (de_ix rfl (u1 hr) (de_ix rfl (u1 hr) (de_var 1) (de_ix rfl (u1 hr) (de_var 2) de_int)) de_int) (de_tup (da_cons de_str (da_cons de_str da_nil))) (by rfl)))))
def held_FITS (R_fits_one R_fits_two : List Slot → RF) : Nat → Option (List Slot → RF) := fun n => if n = fn_fits_free then some F_fits_free else if n = fn_fits_who then some F_fits_who else if n = fn_fits_note then some F_fits_note else if n = fn_fits_mine then some F_fits_mine else if n = fn_fits_one then some R_fits_one else if n = fn_fits_two then some R_fits_two else none
theorem held_FITS_ok {g : G} {Pr : Program} {w : World} {mg : Str → Option Value} {base : Heap} {cc Pt : Nat → Addr} {m : Nat} {R_fits_one R_fits_two : List Slot → RF} (c : Facts g Pr w mg base cc Pt) (hm : 3 ≤ m) (ih_fits_one : Dfn g Pr w g.K mg base m "fits_one" 4 [] R_fits_one) (ih_fits_two : Dfn g Pr w g.K mg base m "fits_two" 4 [] R_fits_two) (n : Nat) (F : List Slot → RF) (h : held_FITS R_fits_one R_fits_two n = some F) : Hfn g Pr w g.K mg base m n 4 [] F := by
  unfold held_FITS at h
  split at h
  · rename_i e; cases h; subst e; exact hfn_of c.d_fits_free ((dfn_fits_free c).mono (by omega))
  split at h
  · rename_i e; cases h; subst e; exact hfn_of c.d_fits_who ((dfn_fits_who c).mono (by omega))
  split at h
  · rename_i e; cases h; subst e; exact hfn_of c.d_fits_note ((dfn_fits_note c).mono (by omega))
  split at h
  · rename_i e; cases h; subst e; exact hfn_of c.d_fits_mine ((dfn_fits_mine c).mono (by omega))
  split at h
  · rename_i e; cases h; subst e; exact hfn_of c.d_fits_one ih_fits_one
  split at h
  · rename_i e; cases h; subst e; exact hfn_of c.d_fits_two ih_fits_two
  cases h
/-! fits_one -/
def f_fits_one (R_fits_one R_fits_two R_is_rule_of : List Slot → RF) : Env → RS := (sRet (dAnd (dBin eqS (dCal (on1 lenD) (dCons (dVar 2) dNil)) (dC (.int 1))) (dCall R_is_rule_of [none, none, none, none] (dCons (dVar 0) (dCons (dVar 1) (dCons (dBin ixD (dVar 2) (dC (.int 0))) (dCons (dBin subD (dVar 3) (dC (.int 1))) dNil)))))))
/-! fits_two -/
def f_fits_two (R_fits_one R_fits_two R_is_rule_of : List Slot → RF) : Env → RS := (sRet (dAnd (dBin eqS (dCal (on1 lenD) (dCons (dVar 2) dNil)) (dC (.int 2))) (dCal (on1 allD) (dCons (dM (mComp [4] (iItems1 (dVar 2)) (gtN 4) bTrue (dCall R_is_rule_of [none, none, none, none] (dCons (dVar 0) (dCons (dVar 1) (dCons (dVar 4) (dCons (dBin subD (dVar 3) (dC (.int 1))) dNil))))))) dNil))))
/-! is_rule_of -/
def f_is_rule_of (R_fits_one R_fits_two R_is_rule_of : List Slot → RF) : Env → RS := (sSeq (sIf (bOr (dTest (dBin eqS (dVar 3) (dC (.int 0)))) (bOr (bNot (dTruth (dCal isiD (dCons (dVar 2) (dCons (dC (.ty "tuple")) dNil))))) (bOr (dTest (dBin eqS (dVar 2) (dTup dNil))) (bNot (dTruth (dCal isiD (dCons (dBin ixD (dVar 2) (dC (.int 0))) (dCons (dC (.ty "str")) dNil)))))))) (sRet (dC (.bl false))) sNx) (sSeq (sAsg (dVar 2) (gtStar 1 (gtCons (gtN 5) (gtCons (gtN 6) gtNil)))) (sSeq (sIf (dTest (dUn (inT tab_FITS true) (dVar 5))) (sRet (dC (.bl false))) sNx) (sSeq (sAsg (dUn (ixT tab_FITS) (dVar 5)) (gtN 4)) (sRet (dCallH 4 (held_FITS R_fits_one R_fits_two) [none, none, none, none] (dCons (dVar 0) (dCons (dVar 1) (dCons (dVar 6) (dCons (dVar 3) dNil))))))))))
mutual
def F_fits_one : Nat → List Slot → RF
  | 0 => fun _ => .bad
  | n + 1 => fun ss => fin [] (f_fits_one (F_fits_one n) (F_fits_two n) (F_is_rule_of n) (startE 4 ss))
def F_fits_two : Nat → List Slot → RF
  | 0 => fun _ => .bad
  | n + 1 => fun ss => fin [] (f_fits_two (F_fits_one n) (F_fits_two n) (F_is_rule_of n) (startE 5 ss))
def F_is_rule_of : Nat → List Slot → RF
  | 0 => fun _ => .bad
  | n + 1 => fun ss => fin [] (f_is_rule_of (F_fits_one n) (F_fits_two n) (F_is_rule_of n) (startE 7 ss))
end
theorem dfns_fits_one {g : G} {Pr : Program} {w : World} {mg : Str → Option Value} {base : Heap} {cc Pt : Nat → Addr} (c : Facts g Pr w mg base cc Pt) : ∀ n, Dfn g Pr w g.K mg base (4 + n) "fits_one" 4 [] (F_fits_one n) ∧ Dfn g Pr w g.K mg base (4 + n) "fits_two" 4 [] (F_fits_two n) ∧ Dfn g Pr w g.K mg base (4 + n) "is_rule_of" 4 [] (F_is_rule_of n)
  | 0 => ⟨dfn_bad (st := st_fits_one) (pn := ["walkers", "notes", "parts", "deep"]) (mp := []) _ c.d_fits_one (fun _ _ _ _ _ _ us hl => match us, hl with | [_, _, _, _], _ => rfl), dfn_bad (st := st_fits_two) (pn := ["walkers", "notes", "parts", "deep"]) (mp := []) _ c.d_fits_two (fun _ _ _ _ _ _ us hl => match us, hl with | [_, _, _, _], _ => rfl), dfn_bad (st := st_is_rule_of) (pn := ["walkers", "notes", "thing", "deep"]) (mp := []) _ c.d_is_rule_of (fun _ _ _ _ _ _ us hl => match us, hl with | [_, _, _, _], _ => rfl)⟩
  | n + 1 => by
    obtain ⟨ih_fits_one, ih_fits_two, ih_is_rule_of⟩ := dfns_fits_one c n
    exact ⟨(by
    have ndN : (["walkers", "notes", "parts", "deep"] : List Str).Nodup := by decide +kernel
    exact dfn_mk (k := 4 + n) (st := st_fits_one) (N := ["walkers", "notes", "parts", "deep"]) (pn := ["walkers", "notes", "parts", "deep"]) (mp := []) (fb := f_fits_one (F_fits_one n) (F_fits_two n) (F_is_rule_of n)) c.d_fits_one ⟨rfl, rfl, rfl, ndN, rfl, by decide +kernel, by decide +kernel⟩ (fun _ _ _ _ _ _ us hl => match us, hl with | [_, _, _, _], _ => rfl) fun f cdv A outer s H E hr => (dss_one (ds_ret (de_and (de_cmp (op_eqS (u64 hr)) (o2_eqS rfl) (de_callB call_len (oc_len rfl) rfl c.b_len PySem.boot_len (da_cons (de_var 2) da_nil)) de_int (nomark _)) (de_one (de_call ih_is_rule_of hr rfl (das_v (de_var 0) (das_v (de_var 1) (das_v (de_ix rfl (u1 hr) (de_var 2) de_int) (das_v (de_bin op_sub o2_sub (de_var 3) de_int) das_nil)))))))))), (by
    have ndN : (["walkers", "notes", "parts", "deep", "part"] : List Str).Nodup := by decide +kernel
    exact dfn_mk (k := 4 + n) (st := st_fits_two) (N := ["walkers", "notes", "parts", "deep", "part"]) (pn := ["walkers", "notes", "parts", "deep"]) (mp := []) (fb := f_fits_two (F_fits_one n) (F_fits_two n) (F_is_rule_of n)) c.d_fits_two ⟨rfl, rfl, rfl, ndN, rfl, by decide +kernel, by decide +kernel⟩ (fun _ _ _ _ _ _ us hl => match us, hl with | [_, _, _, _], _ => rfl) fun f cdv A outer s H E hr => (dss_one (ds_ret (de_and (de_cmp (op_eqS (u64 hr)) (o2_eqS rfl) (de_callB call_len (oc_len rfl) rfl c.b_len PySem.boot_len (da_cons (de_var 2) da_nil)) de_int (nomark _)) (de_one (de_callB (cr_all rfl) (oc_all rfl) rfl c.b_all boot_all (da_cons (de_m (dm_comp (own := [("part", 4)]) ndN rfl (di_seq rfl (de_var 2)) (blkOk_by (by rfl)) (fun _ _ _ _ _ => (dg_name 4 ndN)) (fun _ _ _ _ _ => dts_nil) (fun _ _ _ _ _ => (de_call ih_is_rule_of hr rfl (das_v (de_var 0) (das_v (de_var 1) (das_v (de_var 4) (das_v (de_bin op_sub o2_sub (de_var 3) de_int) das_nil)))))))) da_nil))))))), (by
    have ndN : (["walkers", "notes", "thing", "deep", "fits", "word", "parts"] : List Str).Nodup := by decide +kernel
    obtain ⟨d_FITS, m_FITS, t_FITS⟩ := c.t_FITS
    exact dfn_mk (k := 4 + n) (st := st_is_rule_of) (N := ["walkers", "notes", "thing", "deep", "fits", "word", "parts"]) (pn := ["walkers", "notes", "thing", "deep"]) (mp := []) (fb := f_is_rule_of (F_fits_one n) (F_fits_two n) (F_is_rule_of n)) c.d_is_rule_of ⟨rfl, rfl, rfl, ndN, rfl, by decide +kernel, by decide +kernel⟩ (fun _ _ _ _ _ _ us hl => match us, hl with | [_, _, _, _], _ => rfl) fun f cdv A outer s H E hr => (dss_cons (ds_if (db_w (dbw_or (db_cmp (op_eqS (u64 hr)) (o2_eqS rfl) (de_var 3) de_int (nomark _)) (dbw_or (db_not (db_truth rfl (fun _ => rfl) (de_callB call_isi (oc_isi rfl) rfl c.b_isinstance boot_isinstance (da_cons (de_var 2) (da_cons (de_ty rfl c.b_tuple boot_tuple) da_nil))))) (dbw_or (db_cmp (op_eqS (u64 hr)) (o2_eqS rfl) (de_var 2) (de_tup da_nil) (nomark _)) (dbw_or1 (db_not (db_truth rfl (fun _ => rfl) (de_callB call_isi (oc_isi rfl) rfl c.b_isinstance boot_isinstance (da_cons (de_ix rfl (u1 hr) (de_var 2) de_int) (da_cons (de_ty rfl c.b_str boot_str) da_nil)))))))))) (dss_one (ds_ret de_bl)) dss_nil) (dss_cons (ds_asg (de_var 2) (dg_star rfl rfl (dgs_cons (dg_name 5 ndN) (dgs_star (dg_name 6 ndN) dgs_nil)))) (dss_cons (ds_if (db_notInT t_FITS rfl rfl m_FITS (de_var 5)) (dss_one (ds_ret de_bl)) dss_nil) (dss_cons (ds_asg (de_ixT t_FITS rfl rfl m_FITS (de_var 5)) (dg_name 4 ndN)) (dss_one (ds_ret (de_callH 4 (fun n F h => held_FITS_ok c (by omega) ih_fits_one ih_fits_two n F h) hr (das_v (de_var 0) (das_v (de_var 1) (das_v (de_var 6) (das_v (de_var 3) das_nil))))))))))))⟩
theorem dfn_fits_one {g : G} {Pr : Program} {w : World} {mg : Str → Option Value} {base : Heap} {cc Pt : Nat → Addr} (c : Facts g Pr w mg base cc Pt) (n : Nat) : Dfn g Pr w g.K mg base (4 + n) "fits_one" 4 [] (F_fits_one n) := (dfns_fits_one c n).1
theorem dfn_fits_two {g : G} {Pr : Program} {w : World} {mg : Str → Option Value} {base : Heap} {cc Pt : Nat → Addr} (c : Facts g Pr w mg base cc Pt) (n : Nat) : Dfn g Pr w g.K mg base (4 + n) "fits_two" 4 [] (F_fits_two n) := (dfns_fits_one c n).2.1
theorem dfn_is_rule_of {g : G} {Pr : Program} {w : World} {mg : Str → Option Value} {base : Heap} {cc Pt : Nat → Addr} (c : Facts g Pr w mg base cc Pt) (n : Nat) : Dfn g Pr w g.K mg base (4 + n) "is_rule_of" 4 [] (F_is_rule_of n) := (dfns_fits_one c n).2.2
/-! need_notes -/
def f_need_notes : Env → RS := (sSeq (sEx (dCall F_need_walkers [none] (dCons (dVar 0) dNil))) (sIf (bNot (dTruth (dCall F_are_notes [none, none] (dCons (dVar 0) (dCons (dVar 1) dNil))))) (sRaise0 cl_NoNote) sNx))
def F_need_notes : List Slot → RF := fun ss => fin [] (f_need_notes (startE 2 ss))
theorem dfn_need_notes {g : G} {Pr : Program} {w : World} {mg : Str → Option Value} {base : Heap} {cc Pt : Nat → Addr} (c : Facts g Pr w mg base cc Pt) : Dfn g Pr w g.K mg base 6 "need_notes" 2 [] F_need_notes := by
  have ndN : (["walkers", "notes"] : List Str).Nodup := by decide +kernel
  obtain ⟨d_FITS, m_FITS, t_FITS⟩ := c.t_FITS
  obtain ⟨d_PAIRS, m_PAIRS, t_PAIRS⟩ := c.t_PAIRS
  exact dfn_mk (st := st_need_notes) (N := ["walkers", "notes"]) (pn := ["walkers", "notes"]) (mp := []) (fb := f_need_notes) c.d_need_notes ⟨rfl, rfl, rfl, ndN, rfl, by decide +kernel, by decide +kernel⟩ (fun _ _ _ _ _ _ us hl => match us, hl with | [_, _], _ => rfl) fun f cdv A outer s H E hr => (dss_cons (ds_ex (de_call ((dfn_need_walkers c).mono (by decide)) hr rfl (das_v (de_var 0) das_nil))) (dss_one (ds_if (db_not (db_truth rfl (fun _ => rfl) (de_call ((dfn_are_notes c).mono (by decide)) hr rfl (das_v (de_var 0) (das_v (de_var 1) das_nil))))) (dss_one (ds_raise0 c.ev_NoNote rfl rfl rfl c.e_NoNote)) dss_nil)))
/-! need_rule -/
def f_need_rule : Env → RS := (sSeq (sEx (dCall F_need_notes [none, none] (dCons (dVar 0) (dCons (dVar 1) dNil)))) (sIf (bNot (dTruth (dCall (F_is_rule_of 16) [none, none, none, none] (dCons (dVar 0) (dCons (dVar 1) (dCons (dVar 2) (dCons (dC (.int 4)) dNil))))))) (sRaise0 cl_NoRule) sNx))
def F_need_rule : List Slot → RF := fun ss => fin [] (f_need_rule (startE 3 ss))
theorem dfn_need_rule {g : G} {Pr : Program} {w : World} {mg : Str → Option Value} {base : Heap} {cc Pt : Nat → Addr} (c : Facts g Pr w mg base cc Pt) : Dfn g Pr w g.K mg base 21 "need_rule" 3 [] F_need_rule := by
  have ndN : (["walkers", "notes", "rule"] : List Str).Nodup := by decide +kernel
  obtain ⟨d_FITS, m_FITS, t_FITS⟩ := c.t_FITS
  obtain ⟨d_PAIRS, m_PAIRS, t_PAIRS⟩ := c.t_PAIRS
  exact dfn_mk (st := st_need_rule) (N := ["walkers", "notes", "rule"]) (pn := ["walkers", "notes", "rule"]) (mp := []) (fb := f_need_rule) c.d_need_rule ⟨rfl, rfl, rfl, ndN, rfl, by decide +kernel, by decide +kernel⟩ (fun _ _ _ _ _ _ us hl => match us, hl with | [_, _, _], _ => rfl) fun f cdv A outer s H E hr => (dss_cons (ds_ex (de_call ((dfn_need_notes c).mono (by decide)) hr rfl (das_v (de_var 0) (das_v (de_var 1) das_nil)))) (dss_one (ds_if (db_not (db_truth rfl (fun _ => rfl) (de_call ((dfn_is_rule_of c 16).mono (by decide)) hr rfl (das_v (de_var 0) (das_v (de_var 1) (das_v (de_var 2) (das_v (de_gint rfl c.c_MOST_DEEP) das_nil))))))) (dss_one (ds_raise0 c.ev_NoRule rfl rfl rfl c.e_NoRule)) dss_nil)))
/-! notes_asked -/
def f_notes_asked (R_notes_asked : List Slot → RF) : Env → RS := (sSeq (sAsg (dVar 0) (gtStar 1 (gtCons (gtN 1) (gtCons (gtN 2) gtNil)))) (sSeq (sIf (dTest (dBin yesD (dVar 1) (dTup (dCons (dC (.str "note")) (dCons (dC (.str "mine")) dNil))))) (sRetM (mLst (dCons (dBin ixD (dVar 2) (dC (.int 0))) dNil))) sNx) (sSeq (sIf (dTest (dBin yesD (dVar 1) (dTup (dCons (dC (.str "free")) (dCons (dC (.str "who")) dNil))))) (sRetM (mLst dNil)) sNx) (sRetM (mComp2 [3, 4] [4] (iItems1 (dVar 2)) (gtN 3) bTrue (iItems1 (dCall R_notes_asked [none] (dCons (dVar 3) dNil))) (gtN 4) bTrue (dVar 4))))))
def F_notes_asked : Nat → List Slot → RF
  | 0 => fun _ => .bad
  | n + 1 => fun ss => fin [] (f_notes_asked (F_notes_asked n) (startE 5 ss))
theorem dfns_notes_asked {g : G} {Pr : Program} {w : World} {mg : Str → Option Value} {base : Heap} {cc Pt : Nat → Addr} (c : Facts g Pr w mg base cc Pt) : ∀ n, Dfn g Pr w g.K mg base (1 + n) "notes_asked" 1 [] (F_notes_asked n)
  | 0 => dfn_bad (st := st_notes_asked) (pn := ["rule"]) (mp := []) _ c.d_notes_asked (fun _ _ _ _ _ _ us hl => match us, hl with | [_], _ => rfl)
  | n + 1 => by
    have ih_notes_asked := dfns_notes_asked c n
    exact (by
    have ndN : (["rule", "word", "parts", "part", "k"] : List Str).Nodup := by decide +kernel
    exact dfn_mk (k := 1 + n) (st := st_notes_asked) (N := ["rule", "word", "parts", "part", "k"]) (pn := ["rule"]) (mp := []) (fb := f_notes_asked (F_notes_asked n)) c.d_notes_asked ⟨rfl, rfl, rfl, ndN, rfl, by decide +kernel, by decide +kernel⟩ (fun _ _ _ _ _ _ us hl => match us, hl with | [_], _ => rfl) fun f cdv A outer s H E hr => (dss_cons (ds_asg (de_var 0) (dg_star rfl rfl (dgs_cons (dg_name 1 ndN) (dgs_star (dg_name 2 ndN) dgs_nil)))) (dss_cons (ds_if (db_cmp (op_inA (u1 hr)) (o2_in rfl) (de_var 1) (de_tup (da_cons de_str (da_cons de_str da_nil))) (by rfl)) (dss_one (ds_retM (dm_lst (da_cons (de_ix rfl (u1 hr) (de_var 2) de_int) da_nil)))) dss_nil) (dss_cons (ds_if (db_cmp (op_inA (u1 hr)) (o2_in rfl) (de_var 1) (de_tup (da_cons de_str (da_cons de_str da_nil))) (by rfl)) (dss_one (ds_retM (dm_lst da_nil))) dss_nil) (dss_one (ds_retM (dm_comp2 (own := [("part", 3), ("k", 4)]) [4] ndN rfl (di_seq rfl (de_var 2)) (blkOk_by (by rfl)) (fun _ _ _ _ _ => (dg_name 3 ndN)) (fun _ _ _ _ _ => dts_nil) (fun _ _ _ _ _ => (di_seq rfl (de_call ih_notes_asked hr rfl (das_v (de_var 3) das_nil)))) (fun _ _ _ _ _ => (dg_name 4 ndN)) (fun _ _ _ _ _ => dts_nil) (fun _ _ _ _ _ => (de_var 4)))))))))
theorem dfn_notes_asked {g : G} {Pr : Program} {w : World} {mg : Str → Option Value} {base : Heap} {cc Pt : Nat → Addr} (c : Facts g Pr w mg base cc Pt) (n : Nat) : Dfn g Pr w g.K mg base (1 + n) "notes_asked" 1 [] (F_notes_asked n) := dfns_notes_asked c n
/-! asks -/
def f_asks : Env → RS := (sSeq (sEx (dCall F_need_rule [none, none, none] (dCons (dVar 0) (dCons (dVar 1) (dCons (dVar 2) dNil))))) (sRet (dCal (on1 tupD) (dCons (dUn sortSetD (dCall (F_notes_asked 16) [none] (dCons (dVar 2) dNil))) dNil))))
def F_asks : List Slot → RF := fun ss => fin [] (f_asks (startE 3 ss))
theorem dfn_asks {g : G} {Pr : Program} {w : World} {mg : Str → Option Value} {base : Heap} {cc Pt : Nat → Addr} (c : Facts g Pr w mg base cc Pt) : Dfn g Pr w g.K mg base 22 "asks" 3 [] F_asks := by
  have ndN : (["walkers", "notes", "rule"] : List Str).Nodup := by decide +kernel
  obtain ⟨d_FITS, m_FITS, t_FITS⟩ := c.t_FITS
  obtain ⟨d_PAIRS, m_PAIRS, t_PAIRS⟩ := c.t_PAIRS
  exact dfn_mk (st := st_asks) (N := ["walkers", "notes", "rule"]) (pn := ["walkers", "notes", "rule"]) (mp := []) (fb := f_asks) c.d_asks ⟨rfl, rfl, rfl, ndN, rfl, by decide +kernel, by decide +kernel⟩ (fun _ _ _ _ _ _ us hl => match us, hl with | [_, _, _], _ => rfl) fun f cdv A outer s H E hr => (dss_cons (ds_ex (de_call ((dfn_need_rule c).mono (by decide)) hr rfl (das_v (de_var 0) (das_v (de_var 1) (das_v (de_var 2) das_nil))))) (dss_one (ds_ret (de_callTy call_tuple_of (oc_tup rfl) rfl c.b_tuple boot_tuple (da_cons (de_sortedSet rfl rfl rfl c.b_sorted rfl c.b_set (de_call ((dfn_notes_asked c 16).mono (by decide)) hr rfl (das_v (de_var 2) das_nil))) da_nil)))))
/-! lets -/
def f_lets (R_lets : List Slot → RF) : Env → RS := (sSeq (sAsg (dVar 0) (gtStar 1 (gtCons (gtN 4) (gtCons (gtN 5) gtNil)))) (sSeq (sIf (dTest (dBin eqS (dVar 4) (dC (.str "free")))) (sRet (dC (.bl true))) sNx) (sSeq (sIf (dTest (dBin eqS (dVar 4) (dC (.str "who")))) (sRet (dBin yesD (dVar 2) (dBin ixD (dVar 5) (dC (.int 0))))) sNx) (sSeq (sIf (dTest (dBin eqS (dVar 4) (dC (.str "note")))) (sSeq (sAsg (dVar 5) (gtSeq 3 (gtCons (gtN 6) (gtCons (gtN 7) (gtCons (gtN 8) gtNil))))) (sRet (dChain leD leD (dVar 7) (dBin ixD (dVar 1) (dVar 6)) (dVar 8)))) sNx) (sSeq (sIf (dTest (dBin eqS (dVar 4) (dC (.str "mine")))) (sRet (dBin eqS (dBin ixD (dVar 1) (dBin ixD (dVar 5) (dC (.int 0)))) (dBin addD (dC (.int 1)) (dVar 2)))) sNx) (sSeq (sIf (dTest (dBin eqS (dVar 4) (dC (.str "not")))) (sRet (dNot (dCall R_lets [none, none, none] (dCons (dBin ixD (dVar 5) (dC (.int 0))) (dCons (dVar 1) (dCons (dVar 2) dNil)))))) sNx) (sSeq (sAsg (dM (mComp [9] (iItems1 (dVar 5)) (gtN 9) bTrue (dCall R_lets [none, none, none] (dCons (dVar 9) (dCons (dVar 1) (dCons (dVar 2) dNil)))))) (gtN 3)) (sRet (dIf (dTest (dBin eqS (dVar 4) (dC (.str "both")))) (dCal (on1 allD) (dCons (dVar 3) dNil)) (dCal (on1 anyD) (dCons (dVar 3) dNil)))))))))))
def F_lets : Nat → List Slot → RF
  | 0 => fun _ => .bad
  | n + 1 => fun ss => fin [] (f_lets (F_lets n) (startE 10 ss))
theorem dfns_lets {g : G} {Pr : Program} {w : World} {mg : Str → Option Value} {base : Heap} {cc Pt : Nat → Addr} (c : Facts g Pr w mg base cc Pt) : ∀ n, Dfn g Pr w g.K mg base (1 + n) "lets" 3 [] (F_lets n)
  | 0 => dfn_bad (st := st_lets) (pn := ["rule", "memory", "walker"]) (mp := []) _ c.d_lets (fun _ _ _ _ _ _ us hl => match us, hl with | [_, _, _], _ => rfl)
  | n + 1 => by
    have ih_lets := dfns_lets c n
    exact (by
    have ndN : (["rule", "memory", "walker", "some", "word", "parts", "k", "low", "high", "part"] : List Str).Nodup := by decide +kernel
    exact dfn_mk (k := 1 + n) (st := st_lets) (N := ["rule", "memory", "walker", "some", "word", "parts", "k", "low", "high", "part"]) (pn := ["rule", "memory", "walker"]) (mp := []) (fb := f_lets (F_lets n)) c.d_lets ⟨rfl, rfl, rfl, ndN, rfl, by decide +kernel, by decide +kernel⟩ (fun _ _ _ _ _ _ us hl => match us, hl with | [_, _, _], _ => rfl) fun f cdv A outer s H E hr => (dss_cons (ds_asg (de_var 0) (dg_star rfl rfl (dgs_cons (dg_name 4 ndN) (dgs_star (dg_name 5 ndN) dgs_nil)))) (dss_cons (ds_if (db_cmp (op_eqS (u64 hr)) (o2_eqS rfl) (de_var 4) de_str (nomark _)) (dss_one (ds_ret de_bl)) dss_nil) (dss_cons (ds_if (db_cmp (op_eqS (u64 hr)) (o2_eqS rfl) (de_var 4) de_str (nomark _)) (dss_one (ds_ret (de_cmp (op_inA (u1 hr)) (o2_in rfl) (de_var 2) (de_ix rfl (u1 hr) (de_var 5) de_int) (by rfl)))) dss_nil) (dss_cons (ds_if (db_cmp (op_eqS (u64 hr)) (o2_eqS rfl) (de_var 4) de_str (nomark _)) (dss_cons (ds_asg (de_var 5) (dg_seq rfl rfl (dgs_cons (dg_name 6 ndN) (dgs_cons (dg_name 7 ndN) (dgs_cons (dg_name 8 ndN) dgs_nil))))) (dss_one (ds_ret (de_chain op_le op_le o2_rB0 o2_rB0 (de_var 7) (de_ix rfl (u1 hr) (de_var 1) (de_var 6)) (de_var 8))))) dss_nil) (dss_cons (ds_if (db_cmp (op_eqS (u64 hr)) (o2_eqS rfl) (de_var 4) de_str (nomark _)) (dss_one (ds_ret (de_cmp (op_eqS (u64 hr)) (o2_eqS rfl) (de_ix rfl (u1 hr) (de_var 1) (de_ix rfl (u1 hr) (de_var 5) de_int)) (de_bin op_addX (o2_add rfl) de_int (de_var 2)) (nomark _)))) dss_nil) (dss_cons (ds_if (db_cmp (op_eqS (u64 hr)) (o2_eqS rfl) (de_var 4) de_str (nomark _)) (dss_one (ds_ret (de_not (de_call ih_lets hr rfl (das_v (de_ix rfl (u1 hr) (de_var 5) de_int) (das_v (de_var 1) (das_v (de_var 2) das_nil))))))) dss_nil) (dss_cons (ds_lcV (own := [("part", 9)]) 3 ndN rfl (di_seq rfl (de_var 5)) (blkOk_by (by rfl)) (fun _ _ _ _ _ => (dg_name 9 ndN)) (fun _ _ _ _ _ => dts_nil) (fun _ _ _ _ _ => (de_call ih_lets hr rfl (das_v (de_var 9) (das_v (de_var 1) (das_v (de_var 2) das_nil)))))) (dss_one (ds_ret (de_ifExp (db_cmp (op_eqS (u64 hr)) (o2_eqS rfl) (de_var 4) de_str (nomark _)) (de_callB (cr_all rfl) (oc_all rfl) rfl c.b_all boot_all (da_cons (de_var 3) da_nil)) (de_callB (cr_any rfl) (oc_any rfl) rfl c.b_any boot_any (da_cons (de_var 3) da_nil)))))))))))))
theorem dfn_lets {g : G} {Pr : Program} {w : World} {mg : Str → Option Value} {base : Heap} {cc Pt : Nat → Addr} (c : Facts g Pr w mg base cc Pt) (n : Nat) : Dfn g Pr w g.K mg base (1 + n) "lets" 3 [] (F_lets n) := dfns_lets c n
/-! is_memory_of -/
def f_is_memory_of : Env → RS := (sSeq (sIf (bOr (bNot (dTruth (dCal isiD (dCons (dVar 2) (dCons (dC (.ty "tuple")) dNil))))) (dTest (dBin neS (dCal (on1 lenD) (dCons (dVar 2) dNil)) (dCal (on1 lenD) (dCons (dVar 1) dNil))))) (sRet (dC (.bl false))) sNx) (sRet (dCal (on1 allD) (dCons (dM (mComp [3, 4] (iZip2 (dVar 1) (dVar 2)) (gtSeq 2 (gtCons (gtN 3) (gtCons (gtN 4) gtNil))) bTrue (dCall F_is_between [none, none, none] (dCons (dVar 4) (dCons (dC (.int 0)) (dCons (dCall F_most_in [none, none] (dCons (dVar 0) (dCons (dVar 3) dNil))) dNil)))))) dNil))))
def F_is_memory_of : List Slot → RF := fun ss => fin [] (f_is_memory_of (startE 5 ss))
theorem dfn_is_memory_of {g : G} {Pr : Program} {w : World} {mg : Str → Option Value} {base : Heap} {cc Pt : Nat → Addr} (c : Facts g Pr w mg base cc Pt) : Dfn g Pr w g.K mg base 2 "is_memory_of" 3 [] F_is_memory_of := by
  have ndN : (["walkers", "notes", "thing", "note", "value"] : List Str).Nodup := by decide +kernel
  obtain ⟨d_FITS, m_FITS, t_FITS⟩ := c.t_FITS
  obtain ⟨d_PAIRS, m_PAIRS, t_PAIRS⟩ := c.t_PAIRS
  exact dfn_mk (st := st_is_memory_of) (N := ["walkers", "notes", "thing", "note", "value"]) (pn := ["walkers", "notes", "thing"]) (mp := []) (fb := f_is_memory_of) c.d_is_memory_of ⟨rfl, rfl, rfl, ndN, rfl, by decide +kernel, by decide +kernel⟩ (fun _ _ _ _ _ _ us hl => match us, hl with | [_, _, _], _ => rfl) fun f cdv A outer s H E hr => (dss_cons (ds_if (db_w (dbw_or (db_not (db_truth rfl (fun _ => rfl) (de_callB call_isi (oc_isi rfl) rfl c.b_isinstance boot_isinstance (da_cons (de_var 2) (da_cons (de_ty rfl c.b_tuple boot_tuple) da_nil))))) (dbw_or1 (db_cmp (op_neS (u64 hr)) (o2_neS rfl) (de_callB call_len (oc_len rfl) rfl c.b_len PySem.boot_len (da_cons (de_var 2) da_nil)) (de_callB call_len (oc_len rfl) rfl c.b_len PySem.boot_len (da_cons (de_var 1) da_nil)) (nomark _))))) (dss_one (ds_ret de_bl)) dss_nil) (dss_one (ds_ret (de_callB (cr_all rfl) (oc_all rfl) rfl c.b_all boot_all (da_cons (de_m (dm_comp (own := [("note", 3), ("value", 4)]) ndN rfl (di_zip rfl rfl c.b_zip (de_var 1) (de_var 2)) (blkOk_by (by rfl)) (fun _ _ _ _ _ => (dg_seq rfl rfl (dgs_cons (dg_name 3 ndN) (dgs_cons (dg_name 4 ndN) dgs_nil)))) (fun _ _ _ _ _ => dts_nil) (fun _ _ _ _ _ => (de_call ((dfn_is_between c).mono (by decide)) hr rfl (das_v (de_var 4) (das_v de_int (das_v (de_call ((dfn_most_in c).mono (by decide)) hr rfl (das_v (de_var 0) (das_v (de_var 3) das_nil))) das_nil))))))) da_nil)))))
/-! lets_by -/
def f_lets_by : Env → RS := (sSeq (sEx (dCall F_need_rule [none, none, none] (dCons (dVar 0) (dCons (dVar 1) (dCons (dVar 2) dNil))))) (sSeq (sIf (bNot (dTruth (dCall F_is_memory_of [none, none, none] (dCons (dVar 0) (dCons (dVar 1) (dCons (dVar 3) dNil)))))) (sRaise0 cl_NoMemory) sNx) (sSeq (sIf (bNot (dTruth (dCall F_is_between [none, none, none] (dCons (dVar 4) (dCons (dC (.int 0)) (dCons (dBin subD (dVar 0) (dC (.int 1))) dNil)))))) (sRaise0 cl_NoWalker) sNx) (sRet (dCall (F_lets 16) [none, none, none] (dCons (dVar 2) (dCons (dVar 3) (dCons (dVar 4) dNil))))))))
def F_lets_by : List Slot → RF := fun ss => fin [] (f_lets_by (startE 5 ss))
theorem dfn_lets_by {g : G} {Pr : Program} {w : World} {mg : Str → Option Value} {base : Heap} {cc Pt : Nat → Addr} (c : Facts g Pr w mg base cc Pt) : Dfn g Pr w g.K mg base 22 "lets_by" 5 [] F_lets_by := by
  have ndN : (["walkers", "notes", "rule", "memory", "walker"] : List Str).Nodup := by decide +kernel
  obtain ⟨d_FITS, m_FITS, t_FITS⟩ := c.t_FITS
  obtain ⟨d_PAIRS, m_PAIRS, t_PAIRS⟩ := c.t_PAIRS
  exact dfn_mk (st := st_lets_by) (N := ["walkers", "notes", "rule", "memory", "walker"]) (pn := ["walkers", "notes", "rule", "memory", "walker"]) (mp := []) (fb := f_lets_by) c.d_lets_by ⟨rfl, rfl, rfl, ndN, rfl, by decide +kernel, by decide +kernel⟩ (fun _ _ _ _ _ _ us hl => match us, hl with | [_, _, _, _, _], _ => rfl) fun f cdv A outer s H E hr => (dss_cons (ds_ex (de_call ((dfn_need_rule c).mono (by decide)) hr rfl (das_v (de_var 0) (das_v (de_var 1) (das_v (de_var 2) das_nil))))) (dss_cons (ds_if (db_not (db_truth rfl (fun _ => rfl) (de_call ((dfn_is_memory_of c).mono (by decide)) hr rfl (das_v (de_var 0) (das_v (de_var 1) (das_v (de_var 3) das_nil)))))) (dss_one (ds_raise0 c.ev_NoMemory rfl rfl rfl c.e_NoMemory)) dss_nil) (dss_cons (ds_if (db_not (db_truth rfl (fun _ => rfl) (de_call ((dfn_is_between c).mono (by decide)) hr rfl (das_v (de_var 4) (das_v de_int (das_v (de_bin op_sub o2_sub (de_var 0) de_int) das_nil)))))) (dss_one (ds_raise0 c.ev_NoWalker rfl rfl rfl c.e_NoWalker)) dss_nil) (dss_one (ds_ret (de_call ((dfn_lets c 16).mono (by decide)) hr rfl (das_v (de_var 2) (das_v (de_var 3) (das_v (de_var 4) das_nil)))))))))
/-! _law_pot -/
def f__law_pot : Env → RS := (sSeq (sAsg (dC (.int 0)) (gtN 2)) (sSeq (sIf (dTest (dBin ltD (dVar 1) (dCal (on1 lenD) (dCons (dVar 0) dNil)))) (sAsg (dBin modD (dCal (on1 absD) (dCons (dBin ixD (dVar 0) (dVar 1)) dNil)) (dBin powD (dBin powD (dC (.int 10)) (dC (.int 60))) (dC (.int 14)))) (gtN 2)) sNx) (sSeq (sAsg (dBin modD (dBin powD (dBin addD (dBin addD (dBin modD (dVar 2) (dC (.int 2147483629))) (dBin mulD (dC (.int 7919)) (dVar 1))) (dC (.int 1))) (dC (.int 5))) (dC (.int 2305843009213693951))) (gtN 3)) (sRetM (mLst (dCons (dBin mulD (dVar 2) (dCal (on1 intD) (dCons (dBin geD (dVar 2) (dBin powD (dC (.int 10)) (dC (.int 18)))) dNil))) (dCons (dVar 3) (dCons (dC (.int 0)) dNil))))))))
def F__law_pot : List Slot → RF := fun ss => fin [] (f__law_pot (startE 4 ss))
theorem dfn__law_pot {g : G} {Pr : Program} {w : World} {mg : Str → Option Value} {base : Heap} {cc Pt : Nat → Addr} (c : Facts g Pr w mg base cc Pt) : Dfn g Pr w g.K mg base 1 "_law_pot" 2 [] F__law_pot := by
  have ndN : (["_law_script", "_law_k", "_law_cell", "_law_mixed"] : List Str).Nodup := by decide +kernel
  obtain ⟨d_FITS, m_FITS, t_FITS⟩ := c.t_FITS
  obtain ⟨d_PAIRS, m_PAIRS, t_PAIRS⟩ := c.t_PAIRS
  exact dfn_mk (st := st__law_pot) (N := ["_law_script", "_law_k", "_law_cell", "_law_mixed"]) (pn := ["_law_script", "_law_k"]) (mp := []) (fb := f__law_pot) c.d__law_pot ⟨rfl, rfl, rfl, ndN, rfl, by decide +kernel, by decide +kernel⟩ (fun _ _ _ _ _ _ us hl => match us, hl with | [_, _], _ => rfl) fun f cdv A outer s H E hr => (dss_cons (ds_asg de_int (dg_name 2 ndN)) (dss_cons (ds_if (db_cmp op_lt o2_rB0 (de_var 1) (de_callB call_len (oc_len rfl) rfl c.b_len PySem.boot_len (da_cons (de_var 0) da_nil)) (nomark _)) (dss_one (ds_asg (de_bin op_mod o2_mod (de_callB call_abs oc_abs rfl c.b_abs boot_abs (da_cons (de_ix rfl (u1 hr) (de_var 0) (de_var 1)) da_nil)) (de_bin op_powX o2_pow (de_bin op_powX o2_pow de_int de_int) de_int)) (dg_name 2 ndN))) dss_nil) (dss_cons (ds_asg (de_bin op_mod o2_mod (de_bin op_powX o2_pow (de_bin op_addX (o2_add rfl) (de_bin op_addX (o2_add rfl) (de_bin op_mod o2_mod (de_var 2) de_int) (de_bin op_mulX o2_mul de_int (de_var 1))) de_int) de_int) de_int) (dg_name 3 ndN)) (dss_one (ds_retM (dm_lst (da_cons (de_bin op_mulX o2_mul (de_var 2) (de_callTy call_int1 oc_int rfl c.b_int boot_int (da_cons (de_cmp op_ge o2_rB0 (de_var 2) (de_bin op_powX o2_pow de_int de_int) (nomark _)) da_nil))) (da_cons (de_var 3) (da_cons de_int da_nil)))))))))
/-! _law_take -/
def f__law_take : Env → RS := (sSeq (sIf (dTest (dBin gtD (dIxM 0 (dC (.int 0))) (dC (.int 0)))) (sSeq (sAsg (dBin modD (dIxM 0 (dC (.int 0))) (dVar 1)) (gtN 4)) (sSeq (sSetM 0 (dC (.int 0)) (dBin fdivD (dIxM 0 (dC (.int 0))) (dVar 1))) (sRet (dVar 4)))) sNx) (sSeq (sSetM 0 (dC (.int 2)) (dBin addD (dIxM 0 (dC (.int 2))) (dC (.int 1)))) (sSeq (sAsg (dBin modD (dBin powD (dBin addD (dIxM 0 (dC (.int 1))) (dBin mulD (dC (.int 104729)) (dIxM 0 (dC (.int 2))))) (dC (.int 3))) (dC (.int 2305843009213693921))) (gtN 2)) (sSeq (sAsg (dBin modD (dBin powD (dBin addD (dBin addD (dVar 2) (dBin modD (dIxM 0 (dC (.int 1))) (dC (.int 65537)))) (dBin mulD (dC (.int 31)) (dIxM 0 (dC (.int 2))))) (dC (.int 5))) (dC (.int 2305843009213693907))) (gtN 3)) (sRet (dBin modD (dBin fdivD (dVar 3) (dC (.int 1024))) (dVar 1)))))))
def F__law_take : List Slot → RF := fun ss => fin [0] (f__law_take (startE 5 ss))
theorem dfn__law_take {g : G} {Pr : Program} {w : World} {mg : Str → Option Value} {base : Heap} {cc Pt : Nat → Addr} (c : Facts g Pr w mg base cc Pt) : Dfn g Pr w g.K mg base 1 "_law_take" 2 [0] F__law_take := by
  have ndN : (["_law_pot_here", "_law_many", "_law_one", "_law_other", "_law_found"] : List Str).Nodup := by decide +kernel
  obtain ⟨d_FITS, m_FITS, t_FITS⟩ := c.t_FITS
  obtain ⟨d_PAIRS, m_PAIRS, t_PAIRS⟩ := c.t_PAIRS
  exact dfn_mk (st := st__law_take) (N := ["_law_pot_here", "_law_many", "_law_one", "_law_other", "_law_found"]) (pn := ["_law_pot_here", "_law_many"]) (mp := [0]) (fb := f__law_take) c.d__law_take ⟨rfl, rfl, rfl, ndN, rfl, by decide +kernel, by decide +kernel⟩ (fun _ _ _ _ _ _ us hl => match us, hl with | [_, _], _ => rfl) fun f cdv A outer s H E hr => (dss_cons (ds_if (db_cmp op_gt o2_rB0 (de_ixM 0 de_int) de_int (nomark _)) (dss_cons (ds_asg (de_bin op_mod o2_mod (de_ixM 0 de_int) (de_var 1)) (dg_name 4 ndN)) (dss_cons (ds_setM 0 (by exact de_int) (by exact (de_bin op_fdivW o2_fdiv (de_ixM 0 de_int) (de_var 1)))) (dss_one (ds_ret (de_var 4))))) dss_nil) (dss_cons (ds_setM 0 (by exact de_int) (by exact (de_bin op_addX (o2_add rfl) (de_ixM 0 de_int) de_int))) (dss_cons (ds_asg (de_bin op_mod o2_mod (de_bin op_powX o2_pow (de_bin op_addX (o2_add rfl) (de_ixM 0 de_int) (de_bin op_mulX o2_mul de_int (de_ixM 0 de_int))) de_int) de_int) (dg_name 2 ndN)) (dss_cons (ds_asg (de_bin op_mod o2_mod (de_bin op_powX o2_pow (de_bin op_addX (o2_add rfl) (de_bin op_addX (o2_add rfl) (de_var 2) (de_bin op_mod o2_mod (de_ixM 0 de_int) de_int)) (de_bin op_mulX o2_mul de_int (de_ixM 0 de_int))) de_int) de_int) (dg_name 3 ndN)) (dss_one (ds_ret (de_bin op_mod o2_mod (de_bin op_fdivW o2_fdiv (de_var 3) de_int) (de_var 1))))))))
/-! _law_folded -/
def f__law_folded : Env → RS := (sSeq (sAsgM 2 (mList (dSl (dVar 0) pNo (pSome (dVar 1))))) (sSeq (sFor (iRange2 (dVar 1) (dCal (on2 min2D) (dCons (dC (.int 63)) (dCons (dCal (on1 lenD) (dCons (dVar 0) dNil)) dNil)))) (gtN 3) (sSetM 2 (dBin modD (dVar 3) (dVar 1)) (dBin addD (dBin mulD (dIxM 2 (dBin modD (dVar 3) (dVar 1))) (dC (.int 31))) (dBin ixD (dVar 0) (dVar 3))))) (sRet (dFrz 2))))
def F__law_folded : List Slot → RF := fun ss => fin [] (f__law_folded (startE 4 ss))
theorem dfn__law_folded {g : G} {Pr : Program} {w : World} {mg : Str → Option Value} {base : Heap} {cc Pt : Nat → Addr} (c : Facts g Pr w mg base cc Pt) : Dfn g Pr w g.K mg base 1 "_law_folded" 2 [] F__law_folded := by
  have ndN : (["_law_script", "_law_most_here", "_law_found", "_law_k"] : List Str).Nodup := by decide +kernel
  obtain ⟨d_FITS, m_FITS, t_FITS⟩ := c.t_FITS
  obtain ⟨d_PAIRS, m_PAIRS, t_PAIRS⟩ := c.t_PAIRS
  exact dfn_mk (st := st__law_folded) (N := ["_law_script", "_law_most_here", "_law_found", "_law_k"]) (pn := ["_law_script", "_law_most_here"]) (mp := []) (fb := f__law_folded) c.d__law_folded ⟨rfl, rfl, rfl, ndN, rfl, by decide +kernel, by decide +kernel⟩ (fun _ _ _ _ _ _ us hl => match us, hl with | [_, _], _ => rfl) fun f cdv A outer s H E hr => (dss_cons (ds_asgM 2 ndN (dm_list rfl (by rfl) c.b_list (de_sl rfl (de_var 0) do_none (do_some (de_var 1))))) (dss_cons (ds_for po_cx rfl (di_range2 rfl c.b_range (de_var 1) (de_callB (call_min2 rfl) oc_min2 rfl c.b_min boot_min (da_cons de_int (da_cons (de_callB call_len (oc_len rfl) rfl c.b_len PySem.boot_len (da_cons (de_var 0) da_nil)) da_nil)))) (dg_name 3 ndN) (dss_one (ds_setM 2 (by exact (de_bin op_mod o2_mod (de_var 3) (de_var 1))) (by exact (de_bin op_addX (o2_add rfl) (de_bin op_mulX o2_mul (de_ixM 2 (de_bin op_mod o2_mod (de_var 3) (de_var 1))) de_int) (de_ix rfl (u1 hr) (de_var 0) (de_var 3))))))) (dss_one (ds_ret (de_frz 2)))))
/-! _law_note -/
def f__law_note : Env → RS := (sSeq (sAsg (dBin ixD (dM (mLst (dCons (dC .non) (dCons (dCall F__law_take [some 0, none] (dMk 0 (dCons (dVar 1) dNil))) (dCons (dCall F__law_take [some 0, none] (dMk 0 (dCons (dVar 1) dNil))) dNil))))) (dCall F__law_take [some 0, none] (dMk 0 (dCons (dC (.int 3)) dNil)))) (gtN 2)) (sSeq (sAsg (dCall F__law_take [some 0, none] (dMk 0 (dCons (dC (.int 9)) dNil))) (gtN 3)) (sSeq (sIf (bAnd (dTest (dBin gtD (dVar 3) (dC (.int 6)))) (dTest (dBin gtD (dVar 1) (dC (.int 1))))) (sSeq (sAsg (dCall F__law_take [some 0, none] (dMk 0 (dCons (dVar 1) dNil))) (gtN 4)) (sRet (dTup (dCons (dC (.str "since")) (dCons (dVar 4) (dCons (dBin modD (dBin addD (dBin addD (dVar 4) (dC (.int 1))) (dCall F__law_take [some 0, none] (dMk 0 (dCons (dBin subD (dVar 1) (dC (.int 1))) dNil)))) (dVar 1)) dNil)))))) sNx) (sSeq (sIf (dTest (dBin yesD (dVar 3) (dTup (dCons (dC (.int 3)) (dCons (dC (.int 4)) dNil))))) (sRet (dTup (dCons (dC (.str "round")) (dCons (dVar 2) (dCons (dBin addD (dC (.int 2)) (dCall F__law_take [some 0, none] (dMk 0 (dCons (dC (.int 3)) dNil)))) dNil))))) sNx) (sSeq (sIf (dTest (dBin eqS (dVar 3) (dC (.int 5)))) (sRet (dTup (dCons (dC (.str "here")) (dCons (dVar 2) dNil)))) sNx) (sRet (dIf (dTest (dBin yesD (dVar 3) (dTup (dCons (dC (.int 1)) (dCons (dC (.int 2)) dNil))))) (dBin ixD (dM (mLst (dCons (dTup (dCons (dC (.str "last")) dNil)) (dCons (dTup (dCons (dC (.str "first")) dNil)) dNil)))) (dBin subD (dVar 3) (dC (.int 1)))) (dTup (dCons (dC (.str "came")) (dCons (dVar 2) (dCons (dBin addD (dC (.int 1)) (dCall F__law_take [some 0, none] (dMk 0 (dCons (dC (.int 4)) dNil)))) dNil)))))))))))
def F__law_note : List Slot → RF := fun ss => fin [0] (f__law_note (startE 5 ss))
theorem dfn__law_note {g : G} {Pr : Program} {w : World} {mg : Str → Option Value} {base : Heap} {cc Pt : Nat → Addr} (c : Facts g Pr w mg base cc Pt) : Dfn g Pr w g.K mg base 2 "_law_note" 2 [0] F__law_note := by
  have ndN : (["_law_pot_here", "_law_walkers", "_law_who", "_law_way", "_law_one"] : List Str).Nodup := by decide +kernel
  obtain ⟨d_FITS, m_FITS, t_FITS⟩ := c.t_FITS
  obtain ⟨d_PAIRS, m_PAIRS, t_PAIRS⟩ := c.t_PAIRS
  exact dfn_mk (st := st__law_note) (N := ["_law_pot_here", "_law_walkers", "_law_who", "_law_way", "_law_one"]) (pn := ["_law_pot_here", "_law_walkers"]) (mp := [0]) (fb := f__law_note) c.d__law_note ⟨rfl, rfl, rfl, ndN, rfl, by decide +kernel, by decide +kernel⟩ (fun _ _ _ _ _ _ us hl => match us, hl with | [_, _], _ => rfl) fun f cdv A outer s H E hr => (dss_cons (ds_asg (de_ix rfl (u1 hr) (de_m (dm_lst (da_cons de_non (da_cons (de_call ((dfn__law_take c).mono (by decide)) hr rfl (das_m 0 (das_v (de_var 1) das_nil))) (da_cons (de_call ((dfn__law_take c).mono (by decide)) hr rfl (das_m 0 (das_v (de_var 1) das_nil))) da_nil))))) (de_call ((dfn__law_take c).mono (by decide)) hr rfl (das_m 0 (das_v de_int das_nil)))) (dg_name 2 ndN)) (dss_cons (ds_asg (de_call ((dfn__law_take c).mono (by decide)) hr rfl (das_m 0 (das_v de_int das_nil))) (dg_name 3 ndN)) (dss_cons (ds_if (db_w (dbw_and (db_cmp op_gt o2_rB0 (de_var 3) de_int (nomark _)) (dbw_and1 (db_cmp op_gt o2_rB0 (de_var 1) de_int (nomark _))))) (dss_cons (ds_asg (de_call ((dfn__law_take c).mono (by decide)) hr rfl (das_m 0 (das_v (de_var 1) das_nil))) (dg_name 4 ndN)) (dss_one (ds_ret (de_tup (da_cons de_str (da_cons (de_var 4) (da_cons (de_bin op_mod o2_mod (de_bin op_addX (o2_add rfl) (de_bin op_addX (o2_add rfl) (de_var 4) de_int) (de_call ((dfn__law_take c).mono (by decide)) hr rfl (das_m 0 (das_v (de_bin op_sub o2_sub (de_var 1) de_int) das_nil)))) (de_var 1)) da_nil))))))) dss_nil) (dss_cons (ds_if (db_cmp (op_inA (u1 hr)) (o2_in rfl) (de_var 3) (de_tup (da_cons de_int (da_cons de_int da_nil))) (by rfl)) (dss_one (ds_ret (de_tup (da_cons de_str (da_cons (de_var 2) (da_cons (de_bin op_addX (o2_add rfl) de_int (de_call ((dfn__law_take c).mono (by decide)) hr rfl (das_m 0 (das_v de_int das_nil)))) da_nil)))))) dss_nil) (dss_cons (ds_if (db_cmp (op_eqS (u64 hr)) (o2_eqS rfl) (de_var 3) de_int (nomark _)) (dss_one (ds_ret (de_tup (da_cons de_str (da_cons (de_var 2) da_nil))))) dss_nil) (dss_one (ds_ret (de_ifExp (db_cmp (op_inA (u1 hr)) (o2_in rfl) (de_var 3) (de_tup (da_cons de_int (da_cons de_int da_nil))) (by rfl)) (de_ix rfl (u1 hr) (de_m (dm_lst (da_cons (de_tup (da_cons de_str da_nil)) (da_cons (de_tup (da_cons de_str da_nil)) da_nil)))) (de_bin op_sub o2_sub (de_var 3) de_int)) (de_tup (da_cons de_str (da_cons (de_var 2) (da_cons (de_bin op_addX (o2_add rfl) de_int (de_call ((dfn__law_take c).mono (by decide)) hr rfl (das_m 0 (das_v de_int das_nil)))) da_nil))))))))))))
/-! _law_most -/
def f__law_most : Env → RS := (sSeq (sIf (dTest (dBin yesD (dBin ixD (dVar 1) (dC (.int 0))) (dTup (dCons (dC (.str "came")) (dCons (dC (.str "round")) dNil))))) (sRet (dBin subD (dBin ixD (dVar 1) (dC (.int 2))) (dCal (on1 intD) (dCons (dBin eqS (dBin ixD (dVar 1) (dC (.int 0))) (dC (.str "round"))) dNil)))) sNx) (sSeq (sIf (bOr (dTest (dBin eqS (dBin ixD (dVar 1) (dC (.int 0))) (dC (.str "since")))) (bAnd (dTest (dBin eqS (dBin ixD (dVar 1) (dC (.int 0))) (dC (.str "here")))) (dTest (dBin notND (dBin ixD (dVar 1) (dC (.int 1))) (dC .non))))) (sRet (dC (.int 1))) sNx) (sRet (dVar 0))))
def F__law_most : List Slot → RF := fun ss => fin [] (f__law_most (startE 2 ss))
theorem dfn__law_most {g : G} {Pr : Program} {w : World} {mg : Str → Option Value} {base : Heap} {cc Pt : Nat → Addr} (c : Facts g Pr w mg base cc Pt) : Dfn g Pr w g.K mg base 1 "_law_most" 2 [] F__law_most := by
  have ndN : (["_law_walkers", "_law_note_here"] : List Str).Nodup := by decide +kernel
  obtain ⟨d_FITS, m_FITS, t_FITS⟩ := c.t_FITS
  obtain ⟨d_PAIRS, m_PAIRS, t_PAIRS⟩ := c.t_PAIRS
  exact dfn_mk (st := st__law_most) (N := ["_law_walkers", "_law_note_here"]) (pn := ["_law_walkers", "_law_note_here"]) (mp := []) (fb := f__law_most) c.d__law_most ⟨rfl, rfl, rfl, ndN, rfl, by decide +kernel, by decide +kernel⟩ (fun _ _ _ _ _ _ us hl => match us, hl with | [_, _], _ => rfl) fun f cdv A outer s H E hr => (dss_cons (ds_if (db_cmp (op_inA (u1 hr)) (o2_in rfl) (de_ix rfl (u1 hr) (de_var 1) de_int) (de_tup (da_cons de_str (da_cons de_str da_nil))) (by rfl)) (dss_one (ds_ret (de_bin op_sub o2_sub (de_ix rfl (u1 hr) (de_var 1) de_int) (de_callTy call_int1 oc_int rfl c.b_int boot_int (da_cons (de_cmp (op_eqS (u64 hr)) (o2_eqS rfl) (de_ix rfl (u1 hr) (de_var 1) de_int) de_str (nomark _)) da_nil))))) dss_nil) (dss_cons (ds_if (db_w (dbw_or (db_cmp (op_eqS (u64 hr)) (o2_eqS rfl) (de_ix rfl (u1 hr) (de_var 1) de_int) de_str (nomark _)) (dbw_or1 (db_w (dbw_and (db_cmp (op_eqS (u64 hr)) (o2_eqS rfl) (de_ix rfl (u1 hr) (de_var 1) de_int) de_str (nomark _)) (dbw_and1 (db_cmp op_notN o2_notN (de_ix rfl (u1 hr) (de_var 1) de_int) de_non (nomark _)))))))) (dss_one (ds_ret de_int)) dss_nil) (dss_one (ds_ret (de_var 0)))))
/-! _law_rule -/
def f__law_rule (R__law_rule : List Slot → RF) : Env → RS := (sSeq (sAsg (dCall F__law_take [some 0, none] (dMk 0 (dCons (dC (.int 12)) dNil))) (gtN 4)) (sSeq (sIf (bAnd (dTest (dBin gtD (dVar 3) (dC (.int 1)))) (dTest (dBin ltD (dVar 4) (dC (.int 3))))) (sSeq (sAsg (dCall R__law_rule [some 0, none, none, none] (dMk 0 (dCons (dVar 1) (dCons (dVar 2) (dCons (dBin subD (dVar 3) (dC (.int 1))) dNil))))) (gtN 7)) (sSeq (sIf (dTest (dBin eqS (dVar 4) (dC (.int 0)))) (sRet (dTup (dCons (dC (.str "not")) (dCons (dVar 7) dNil)))) sNx) (sRet (dTup (dCons (dBin ixD (dM (mLst (dCons (dC (.str "both")) (dCons (dC (.str "either")) dNil)))) (dBin subD (dVar 4) (dC (.int 1)))) (dCons (dVar 7) (dCons (dCall R__law_rule [some 0, none, none, none] (dMk 0 (dCons (dVar 1) (dCons (dVar 2) (dCons (dBin subD (dVar 3) (dC (.int 1))) dNil))))) dNil))))))) sNx) (sSeq (sAsg (dM (mComp [8, 10] (iEnum1 (dVar 2)) (gtSeq 2 (gtCons (gtN 8) (gtCons (gtN 10) gtNil))) (dTest (dBin yesD (dBin ixD (dVar 10) (dC (.int 0))) (dTup (dCons (dC (.str "last")) (dCons (dC (.str "first")) dNil))))) (dVar 8))) (gtN 5)) (sSeq (sIf (bAnd (dTest (dBin gtD (dVar 4) (dC (.int 9)))) (dTest (dBin neS (dVar 5) (dM (mLst dNil))))) (sRet (dTup (dCons (dC (.str "mine")) (dCons (dBin ixD (dVar 5) (dCall F__law_take [some 0, none] (dMk 0 (dCons (dCal (on1 lenD) (dCons (dVar 5) dNil)) dNil)))) dNil)))) sNx) (sSeq (sIf (bAnd (dTest (dBin ltD (dVar 4) (dC (.int 8)))) (dTest (dBin neS (dVar 2) (dTup dNil)))) (sSeq (sAsg (dCall F__law_take [some 0, none] (dMk 0 (dCons (dCal (on1 lenD) (dCons (dVar 2) dNil)) dNil))) (gtN 8)) (sSeq (sAsg (dCall F__law_take [some 0, none] (dMk 0 (dCons (dBin addD (dCall F__law_most [none, none] (dCons (dVar 1) (dCons (dBin ixD (dVar 2) (dVar 8)) dNil))) (dC (.int 1))) dNil))) (gtN 9)) (sRet (dTup (dCons (dC (.str "note")) (dCons (dVar 8) (dCons (dVar 9) (dCons (dBin addD (dVar 9) (dCall F__law_take [some 0, none] (dMk 0 (dCons (dBin subD (dBin addD (dCall F__law_most [none, none] (dCons (dVar 1) (dCons (dBin ixD (dVar 2) (dVar 8)) dNil))) (dC (.int 1))) (dVar 9)) dNil)))) dNil)))))))) sNx) (sSeq (sAsg (dCal (on1 tupD) (dCons (dM (mComp [11] (iRange1 (dVar 1)) (gtN 11) (dTest (dBin eqS (dCall F__law_take [some 0, none] (dMk 0 (dCons (dC (.int 2)) dNil))) (dC (.int 0)))) (dVar 11))) dNil)) (gtN 6)) (sRet (dIf (bOr (dTest (dBin eqS (dVar 6) (dTup dNil))) (dTest (dBin gtD (dVar 4) (dC (.int 9))))) (dTup (dCons (dC (.str "free")) dNil)) (dTup (dCons (dC (.str "who")) (dCons (dVar 6) dNil)))))))))))
def F__law_rule : Nat → List Slot → RF
  | 0 => fun _ => .bad
  | n + 1 => fun ss => fin [0] (f__law_rule (F__law_rule n) (startE 12 ss))
theorem dfns__law_rule {g : G} {Pr : Program} {w : World} {mg : Str → Option Value} {base : Heap} {cc Pt : Nat → Addr} (c : Facts g Pr w mg base cc Pt) : ∀ n, Dfn g Pr w g.K mg base (2 + n) "_law_rule" 4 [0] (F__law_rule n)
  | 0 => dfn_bad (st := st__law_rule) (pn := ["_law_pot_here", "_law_walkers", "_law_notes", "_law_deep"]) (mp := [0]) _ c.d__law_rule (fun _ _ _ _ _ _ us hl => match us, hl with | [_, _, _, _], _ => rfl)
  | n + 1 => by
    have ih__law_rule := dfns__law_rule c n
    exact (by
    have ndN : (["_law_pot_here", "_law_walkers", "_law_notes", "_law_deep", "_law_way", "_law_marks", "_law_some", "_law_one", "_law_k", "_law_low", "_law_note_here", "_law_walker"] : List Str).Nodup := by decide +kernel
    exact dfn_mk (k := 2 + n) (st := st__law_rule) (N := ["_law_pot_here", "_law_walkers", "_law_notes", "_law_deep", "_law_way", "_law_marks", "_law_some", "_law_one", "_law_k", "_law_low", "_law_note_here", "_law_walker"]) (pn := ["_law_pot_here", "_law_walkers", "_law_notes", "_law_deep"]) (mp := [0]) (fb := f__law_rule (F__law_rule n)) c.d__law_rule ⟨rfl, rfl, rfl, ndN, rfl, by decide +kernel, by decide +kernel⟩ (fun _ _ _ _ _ _ us hl => match us, hl with | [_, _, _, _], _ => rfl) fun f cdv A outer s H E hr => (dss_cons (ds_asg (de_call ((dfn__law_take c).mono (by omega)) hr rfl (das_m 0 (das_v de_int das_nil))) (dg_name 4 ndN)) (dss_cons (ds_if (db_w (dbw_and (db_cmp op_gt o2_rB0 (de_var 3) de_int (nomark _)) (dbw_and1 (db_cmp op_lt o2_rB0 (de_var 4) de_int (nomark _))))) (dss_cons (ds_asg (de_call ih__law_rule hr rfl (das_m 0 (das_v (de_var 1) (das_v (de_var 2) (das_v (de_bin op_sub o2_sub (de_var 3) de_int) das_nil))))) (dg_name 7 ndN)) (dss_cons (ds_if (db_cmp (op_eqS (u64 hr)) (o2_eqS rfl) (de_var 4) de_int (nomark _)) (dss_one (ds_ret (de_tup (da_cons de_str (da_cons (de_var 7) da_nil))))) dss_nil) (dss_one (ds_ret (de_tup (da_cons (de_ix rfl (u1 hr) (de_m (dm_lst (da_cons de_str (da_cons de_str da_nil)))) (de_bin op_sub o2_sub (de_var 4) de_int)) (da_cons (de_var 7) (da_cons (de_call ih__law_rule hr rfl (das_m 0 (das_v (de_var 1) (das_v (de_var 2) (das_v (de_bin op_sub o2_sub (de_var 3) de_int) das_nil))))) da_nil)))))))) dss_nil) (dss_cons (ds_lcV (own := [("_law_k", 8), ("_law_note_here", 10)]) 5 ndN rfl (di_enum rfl rfl c.b_enumerate (de_var 2)) (blkOk_by (by rfl)) (fun _ _ _ _ _ => (dg_seq rfl rfl (dgs_cons (dg_name 8 ndN) (dgs_cons (dg_name 10 ndN) dgs_nil)))) (fun _ _ _ _ _ => (dts_one (db_cmp (op_inA (u1 hr)) (o2_in rfl) (de_ix rfl (u1 hr) (de_var 10) de_int) (de_tup (da_cons de_str (da_cons de_str da_nil))) (by rfl)))) (fun _ _ _ _ _ => (de_var 8))) (dss_cons (ds_if (db_w (dbw_and (db_cmp op_gt o2_rB0 (de_var 4) de_int (nomark _)) (dbw_and1 (db_cmp (op_neS (u64 hr)) (o2_neS rfl) (de_var 5) (de_m (dm_lst da_nil)) (nomark _))))) (dss_one (ds_ret (de_tup (da_cons de_str (da_cons (de_ix rfl (u1 hr) (de_var 5) (de_call ((dfn__law_take c).mono (by omega)) hr rfl (das_m 0 (das_v (de_callB call_len (oc_len rfl) rfl c.b_len PySem.boot_len (da_cons (de_var 5) da_nil)) das_nil)))) da_nil))))) dss_nil) (dss_cons (ds_if (db_w (dbw_and (db_cmp op_lt o2_rB0 (de_var 4) de_int (nomark _)) (dbw_and1 (db_cmp (op_neS (u64 hr)) (o2_neS rfl) (de_var 2) (de_tup da_nil) (nomark _))))) (dss_cons (ds_asg (de_call ((dfn__law_take c).mono (by omega)) hr rfl (das_m 0 (das_v (de_callB call_len (oc_len rfl) rfl c.b_len PySem.boot_len (da_cons (de_var 2) da_nil)) das_nil))) (dg_name 8 ndN)) (dss_cons (ds_asg (de_call ((dfn__law_take c).mono (by omega)) hr rfl (das_m 0 (das_v (de_bin op_addX (o2_add rfl) (de_call ((dfn__law_most c).mono (by omega)) hr rfl (das_v (de_var 1) (das_v (de_ix rfl (u1 hr) (de_var 2) (de_var 8)) das_nil))) de_int) das_nil))) (dg_name 9 ndN)) (dss_one (ds_ret (de_tup (da_cons de_str (da_cons (de_var 8) (da_cons (de_var 9) (da_cons (de_bin op_addX (o2_add rfl) (de_var 9) (de_call ((dfn__law_take c).mono (by omega)) hr rfl (das_m 0 (das_v (de_bin op_sub o2_sub (de_bin op_addX (o2_add rfl) (de_call ((dfn__law_most c).mono (by omega)) hr rfl (das_v (de_var 1) (das_v (de_ix rfl (u1 hr) (de_var 2) (de_var 8)) das_nil))) de_int) (de_var 9)) das_nil)))) da_nil))))))))) dss_nil) (dss_cons (ds_asg (de_callTy call_tuple_of (oc_tup rfl) rfl c.b_tuple boot_tuple (da_cons (de_m (dm_comp (own := [("_law_walker", 11)]) ndN rfl (di_range1 rfl c.b_range (de_var 1)) (blkOk_by (by rfl)) (fun _ _ _ _ _ => (dg_name 11 ndN)) (fun _ _ _ _ _ => (dts_one (db_cmp (op_eqS (u64 hr)) (o2_eqS rfl) (de_call ((dfn__law_take c).mono (by omega)) hr rfl (das_m 0 (das_v de_int das_nil))) de_int (nomark _)))) (fun _ _ _ _ _ => (de_var 11)))) da_nil)) (dg_name 6 ndN)) (dss_one (ds_ret (de_ifExp (db_w (dbw_or (db_cmp (op_eqS (u64 hr)) (o2_eqS rfl) (de_var 6) (de_tup da_nil) (nomark _)) (dbw_or1 (db_cmp op_gt o2_rB0 (de_var 4) de_int (nomark _))))) (de_tup (da_cons de_str da_nil)) (de_tup (da_cons de_str (da_cons (de_var 6) da_nil)))))))))))))
theorem dfn__law_rule {g : G} {Pr : Program} {w : World} {mg : Str → Option Value} {base : Heap} {cc Pt : Nat → Addr} (c : Facts g Pr w mg base cc Pt) (n : Nat) : Dfn g Pr w g.K mg base (2 + n) "_law_rule" 4 [0] (F__law_rule n) := dfns__law_rule c n
/-! _law_lets -/
def f__law_lets (R__law_lets : List Slot → RF) : Env → RS := (sSeq (sIf (dTest (dBin eqS (dBin ixD (dVar 0) (dC (.int 0))) (dC (.str "free")))) (sRet (dC (.bl true))) sNx) (sSeq (sIf (dTest (dBin eqS (dBin ixD (dVar 0) (dC (.int 0))) (dC (.str "who")))) (sRet (dBin yesD (dVar 2) (dBin ixD (dVar 0) (dC (.int 1))))) sNx) (sSeq (sIf (dTest (dBin eqS (dBin ixD (dVar 0) (dC (.int 0))) (dC (.str "note")))) (sRet (dChain leD leD (dBin ixD (dVar 0) (dC (.int 2))) (dBin ixD (dVar 1) (dBin ixD (dVar 0) (dC (.int 1)))) (dBin ixD (dVar 0) (dC (.int 3))))) sNx) (sSeq (sIf (dTest (dBin eqS (dBin ixD (dVar 0) (dC (.int 0))) (dC (.str "mine")))) (sRet (dBin eqS (dBin ixD (dVar 1) (dBin ixD (dVar 0) (dC (.int 1)))) (dBin addD (dC (.int 1)) (dVar 2)))) sNx) (sSeq (sAsg (dCall R__law_lets [none, none, none] (dCons (dBin ixD (dVar 0) (dC (.int 1))) (dCons (dVar 1) (dCons (dVar 2) dNil)))) (gtN 3)) (sSeq (sIf (dTest (dBin eqS (dBin ixD (dVar 0) (dC (.int 0))) (dC (.str "not")))) (sRet (dNot (dVar 3))) sNx) (sSeq (sAsg (dCall R__law_lets [none, none, none] (dCons (dBin ixD (dVar 0) (dC (.int 2))) (dCons (dVar 1) (dCons (dVar 2) dNil)))) (gtN 4)) (sRet (dIf (dTest (dBin eqS (dBin ixD (dVar 0) (dC (.int 0))) (dC (.str "both")))) (dAnd (dVar 3) (dVar 4)) (dOr (dVar 3) (dVar 4)))))))))))
def F__law_lets : Nat → List Slot → RF
  | 0 => fun _ => .bad
  | n + 1 => fun ss => fin [] (f__law_lets (F__law_lets n) (startE 5 ss))
theorem dfns__law_lets {g : G} {Pr : Program} {w : World} {mg : Str → Option Value} {base : Heap} {cc Pt : Nat → Addr} (c : Facts g Pr w mg base cc Pt) : ∀ n, Dfn g Pr w g.K mg base (1 + n) "_law_lets" 3 [] (F__law_lets n)
  | 0 => dfn_bad (st := st__law_lets) (pn := ["_law_rule_here", "_law_memory", "_law_walker"]) (mp := []) _ c.d__law_lets (fun _ _ _ _ _ _ us hl => match us, hl with | [_, _, _], _ => rfl)
  | n + 1 => by
    have ih__law_lets := dfns__law_lets c n
    exact (by
    have ndN : (["_law_rule_here", "_law_memory", "_law_walker", "_law_one", "_law_other"] : List Str).Nodup := by decide +kernel
    exact dfn_mk (k := 1 + n) (st := st__law_lets) (N := ["_law_rule_here", "_law_memory", "_law_walker", "_law_one", "_law_other"]) (pn := ["_law_rule_here", "_law_memory", "_law_walker"]) (mp := []) (fb := f__law_lets (F__law_lets n)) c.d__law_lets ⟨rfl, rfl, rfl, ndN, rfl, by decide +kernel, by decide +kernel⟩ (fun _ _ _ _ _ _ us hl => match us, hl with | [_, _, _], _ => rfl) fun f cdv A outer s H E hr => (dss_cons (ds_if (db_cmp (op_eqS (u64 hr)) (o2_eqS rfl) (de_ix rfl (u1 hr) (de_var 0) de_int) de_str (nomark _)) (dss_one (ds_ret de_bl)) dss_nil) (dss_cons (ds_if (db_cmp (op_eqS (u64 hr)) (o2_eqS rfl) (de_ix rfl (u1 hr) (de_var 0) de_int) de_str (nomark _)) (dss_one (ds_ret (de_cmp (op_inA (u1 hr)) (o2_in rfl) (de_var 2) (de_ix rfl (u1 hr) (de_var 0) de_int) (by rfl)))) dss_nil) (dss_cons (ds_if (db_cmp (op_eqS (u64 hr)) (o2_eqS rfl) (de_ix rfl (u1 hr) (de_var 0) de_int) de_str (nomark _)) (dss_one (ds_ret (de_chain op_le op_le o2_rB0 o2_rB0 (de_ix rfl (u1 hr) (de_var 0) de_int) (de_ix rfl (u1 hr) (de_var 1) (de_ix rfl (u1 hr) (de_var 0) de_int)) (de_ix rfl (u1 hr) (de_var 0) de_int)))) dss_nil) (dss_cons (ds_if (db_cmp (op_eqS (u64 hr)) (o2_eqS rfl) (de_ix rfl (u1 hr) (de_var 0) de_int) de_str (nomark _)) (dss_one (ds_ret (de_cmp (op_eqS (u64 hr)) (o2_eqS rfl) (de_ix rfl (u1 hr) (de_var 1) (de_ix rfl (u1 hr) (de_var 0) de_int)) (de_bin op_addX (o2_add rfl) de_int (de_var 2)) (nomark _)))) dss_nil) (dss_cons (ds_asg (de_call ih__law_lets hr rfl (das_v (de_ix rfl (u1 hr) (de_var 0) de_int) (das_v (de_var 1) (das_v (de_var 2) das_nil)))) (dg_name 3 ndN)) (dss_cons (ds_if (db_cmp (op_eqS (u64 hr)) (o2_eqS rfl) (de_ix rfl (u1 hr) (de_var 0) de_int) de_str (nomark _)) (dss_one (ds_ret (de_not (de_var 3)))) dss_nil) (dss_cons (ds_asg (de_call ih__law_lets hr rfl (das_v (de_ix rfl (u1 hr) (de_var 0) de_int) (das_v (de_var 1) (das_v (de_var 2) das_nil)))) (dg_name 4 ndN)) (dss_one (ds_ret (de_ifExp (db_cmp (op_eqS (u64 hr)) (o2_eqS rfl) (de_ix rfl (u1 hr) (de_var 0) de_int) de_str (nomark _)) (de_and (de_var 3) (de_one (de_var 4))) (de_or (de_var 3) (de_one (de_var 4))))))))))))))
theorem dfn__law_lets {g : G} {Pr : Program} {w : World} {mg : Str → Option Value} {base : Heap} {cc Pt : Nat → Addr} (c : Facts g Pr w mg base cc Pt) (n : Nat) : Dfn g Pr w g.K mg base (1 + n) "_law_lets" 3 [] (F__law_lets n) := dfns__law_lets c n
/-! _law_memories -/
def f__law_memories : Env → RS := (sSeq (sAsg (dM (mComp [6] (iItems1 (dVar 2)) (gtN 6) bTrue (dCall F__law_most [none, none] (dCons (dVar 1) (dCons (dVar 6) dNil))))) (gtN 3)) (sSeq (sAsgM 4 (mLst (dCons (dBin mulA (dTup (dCons (dC (.int 0)) dNil)) (dCal (on1 lenD) (dCons (dVar 2) dNil))) (dCons (dCal (on1 tupD) (dCons (dVar 3) dNil)) dNil)))) (sSeq (sFor (iRange1 (dC (.int 8))) (gtN 5) (sApp 4 (dCal (on1 tupD) (dCons (dM (mComp [7] (iItems1 (dVar 3)) (gtN 7) bTrue (dCall F__law_take [some 0, none] (dMk 0 (dCons (dBin addD (dVar 7) (dC (.int 1))) dNil))))) dNil)))) (sRet (dFrz 4)))))
def F__law_memories : List Slot → RF := fun ss => fin [0] (f__law_memories (startE 8 ss))
theorem dfn__law_memories {g : G} {Pr : Program} {w : World} {mg : Str → Option Value} {base : Heap} {cc Pt : Nat → Addr} (c : Facts g Pr w mg base cc Pt) : Dfn g Pr w g.K mg base 2 "_law_memories" 3 [0] F__law_memories := by
  have ndN : (["_law_pot_here", "_law_walkers", "_law_notes", "_law_mosts", "_law_found", "_law_turn", "_law_note_here", "_law_most_here"] : List Str).Nodup := by decide +kernel
  obtain ⟨d_FITS, m_FITS, t_FITS⟩ := c.t_FITS
  obtain ⟨d_PAIRS, m_PAIRS, t_PAIRS⟩ := c.t_PAIRS
  exact dfn_mk (st := st__law_memories) (N := ["_law_pot_here", "_law_walkers", "_law_notes", "_law_mosts", "_law_found", "_law_turn", "_law_note_here", "_law_most_here"]) (pn := ["_law_pot_here", "_law_walkers", "_law_notes"]) (mp := [0]) (fb := f__law_memories) c.d__law_memories ⟨rfl, rfl, rfl, ndN, rfl, by decide +kernel, by decide +kernel⟩ (fun _ _ _ _ _ _ us hl => match us, hl with | [_, _, _], _ => rfl) fun f cdv A outer s H E hr => (dss_cons (ds_lcV (own := [("_law_note_here", 6)]) 3 ndN rfl (di_seq rfl (de_var 2)) (blkOk_by (by rfl)) (fun _ _ _ _ _ => (dg_name 6 ndN)) (fun _ _ _ _ _ => dts_nil) (fun _ _ _ _ _ => (de_call ((dfn__law_most c).mono (by decide)) hr rfl (das_v (de_var 1) (das_v (de_var 6) das_nil))))) (dss_cons (ds_asgM 4 ndN (dm_lst (da_cons (de_bin op_mulA (o2_mulA rfl) (de_tup (da_cons de_int da_nil)) (de_callB call_len (oc_len rfl) rfl c.b_len PySem.boot_len (da_cons (de_var 2) da_nil))) (da_cons (de_callTy call_tuple_of (oc_tup rfl) rfl c.b_tuple boot_tuple (da_cons (de_var 3) da_nil)) da_nil)))) (dss_cons (ds_for po_cx rfl (di_range1 rfl c.b_range de_int) (dg_name 5 ndN) (dss_one (ds_app 4 (by exact (de_callTy call_tuple_of (oc_tup rfl) rfl c.b_tuple boot_tuple (da_cons (de_m (dm_comp (own := [("_law_most_here", 7)]) ndN rfl (di_seq rfl (de_var 3)) (blkOk_by (by rfl)) (fun _ _ _ _ _ => (dg_name 7 ndN)) (fun _ _ _ _ _ => dts_nil) (fun _ _ _ _ _ => (de_call ((dfn__law_take c).mono (by decide)) hr rfl (das_m 0 (das_v (de_bin op_addX (o2_add rfl) (de_var 7) de_int) das_nil)))))) da_nil)))))) (dss_one (ds_ret (de_frz 4))))))
/-! _law_otherwise -/
def f__law_otherwise : Env → RS := (sSeq (sAsgM 5 (mLst dNil)) (sSeq (sFor (iEnum1 (dVar 2)) (gtSeq 2 (gtCons (gtN 6) (gtCons (gtN 7) gtNil))) (sApp 5 (dIf (dTest (dBin yesD (dVar 6) (dVar 4))) (dBin ixD (dVar 3) (dVar 6)) (dCall F__law_take [some 0, none] (dMk 0 (dCons (dBin addD (dCall F__law_most [none, none] (dCons (dVar 1) (dCons (dVar 7) dNil))) (dC (.int 1))) dNil)))))) (sRet (dTupM 5))))
def F__law_otherwise : List Slot → RF := fun ss => fin [0] (f__law_otherwise (startE 8 ss))
theorem dfn__law_otherwise {g : G} {Pr : Program} {w : World} {mg : Str → Option Value} {base : Heap} {cc Pt : Nat → Addr} (c : Facts g Pr w mg base cc Pt) : Dfn g Pr w g.K mg base 2 "_law_otherwise" 5 [0] F__law_otherwise := by
  have ndN : (["_law_pot_here", "_law_walkers", "_law_notes", "_law_memory", "_law_asked", "_law_found", "_law_k", "_law_note_here"] : List Str).Nodup := by decide +kernel
  obtain ⟨d_FITS, m_FITS, t_FITS⟩ := c.t_FITS
  obtain ⟨d_PAIRS, m_PAIRS, t_PAIRS⟩ := c.t_PAIRS
  exact dfn_mk (st := st__law_otherwise) (N := ["_law_pot_here", "_law_walkers", "_law_notes", "_law_memory", "_law_asked", "_law_found", "_law_k", "_law_note_here"]) (pn := ["_law_pot_here", "_law_walkers", "_law_notes", "_law_memory", "_law_asked"]) (mp := [0]) (fb := f__law_otherwise) c.d__law_otherwise ⟨rfl, rfl, rfl, ndN, rfl, by decide +kernel, by decide +kernel⟩ (fun _ _ _ _ _ _ us hl => match us, hl with | [_, _, _, _, _], _ => rfl) fun f cdv A outer s H E hr => (dss_cons (ds_asgM 5 ndN (dm_lst da_nil)) (dss_cons (ds_for po_cx rfl (di_enum rfl rfl c.b_enumerate (de_var 2)) (dg_seq rfl rfl (dgs_cons (dg_name 6 ndN) (dgs_cons (dg_name 7 ndN) dgs_nil))) (dss_one (ds_app 5 (by exact (de_ifExp (db_cmp (op_inA (u1 hr)) (o2_in rfl) (de_var 6) (de_var 4) (by rfl)) (de_ix rfl (u1 hr) (de_var 3) (de_var 6)) (de_call ((dfn__law_take c).mono (by decide)) hr rfl (das_m 0 (das_v (de_bin op_addX (o2_add rfl) (de_call ((dfn__law_most c).mono (by decide)) hr rfl (das_v (de_var 1) (das_v (de_var 7) das_nil))) de_int) das_nil)))))))) (dss_one (ds_ret (de_tupM 5 (by rfl) c.b_tuple)))))
/-! _law_rule_right -/
def f__law_rule_right : Env → RS := (sSeq (sAsg (dCall F_asks [none, none, none] (dCons (dVar 1) (dCons (dVar 2) (dCons (dVar 3) dNil)))) (gtN 5)) (sSeq (sFor (iItems1 (dCall F__law_memories [some 0, none, none] (dMk 0 (dCons (dVar 1) (dCons (dVar 2) dNil))))) (gtN 6) (sFor (iRange1 (dVar 1)) (gtN 7) (sSeq (sPar2 10 11 (dCons (dCall (F__law_lets 16) [none, none, none] (dCons (dVar 3) (dCons (dVar 6) (dCons (dVar 7) dNil)))) (dCons (dCall (F__law_lets 16) [none, none, none] (dCons (dVar 4) (dCons (dVar 6) (dCons (dVar 7) dNil)))) dNil))) (sSeq (sAsgM 8 (mLst (dCons (dCall F_lets_by [none, none, none, none, none] (dCons (dVar 1) (dCons (dVar 2) (dCons (dVar 3) (dCons (dVar 6) (dCons (dVar 7) dNil)))))) dNil))) (sSeq (sApp 8 (dCall F_lets_by [none, none, none, none, none] (dCons (dVar 1) (dCons (dVar 2) (dCons (dTup (dCons (dC (.str "not")) (dCons (dVar 3) dNil))) (dCons (dVar 6) (dCons (dVar 7) dNil))))))) (sSeq (sApp 8 (dCall F_lets_by [none, none, none, none, none] (dCons (dVar 1) (dCons (dVar 2) (dCons (dTup (dCons (dC (.str "both")) (dCons (dVar 3) (dCons (dVar 4) dNil)))) (dCons (dVar 6) (dCons (dVar 7) dNil))))))) (sSeq (sApp 8 (dCall F_lets_by [none, none, none, none, none] (dCons (dVar 1) (dCons (dVar 2) (dCons (dTup (dCons (dC (.str "either")) (dCons (dVar 4) (dCons (dVar 3) dNil)))) (dCons (dVar 6) (dCons (dVar 7) dNil))))))) (sSeq (sIf (dTest (dBin neS (dCal (on1 reprD) (dCons (dFrz 8) dNil)) (dCal (on1 reprD) (dCons (dM (mLst (dCons (dVar 10) (dCons (dNot (dVar 10)) (dCons (dAnd (dVar 10) (dVar 11)) (dCons (dOr (dVar 10) (dVar 11)) dNil)))))) dNil)))) (sRet (dC (.bl false))) sNx) (sSeq (sAsg (dCall F__law_otherwise [some 0, none, none, none, none] (dMk 0 (dCons (dVar 1) (dCons (dVar 2) (dCons (dVar 6) (dCons (dVar 5) dNil)))))) (gtN 9)) (sIf (dTest (dBin neS (dCal (on1 reprD) (dCons (dCall F_lets_by [none, none, none, none, none] (dCons (dVar 1) (dCons (dVar 2) (dCons (dVar 3) (dCons (dVar 9) (dCons (dVar 7) dNil)))))) dNil)) (dCal (on1 reprD) (dCons (dVar 10) dNil)))) (sRet (dC (.bl false))) sNx)))))))))) (sRet (dC (.bl true)))))
def F__law_rule_right : List Slot → RF := fun ss => fin [0] (f__law_rule_right (startE 12 ss))
theorem dfn__law_rule_right {g : G} {Pr : Program} {w : World} {mg : Str → Option Value} {base : Heap} {cc Pt : Nat → Addr} (c : Facts g Pr w mg base cc Pt) : DfnG g Pr w g.K mg base 23 "_law_rule_right" 5 [0] F__law_rule_right := by
  have ndN : (["_law_pot_here", "_law_walkers", "_law_notes", "_law_rule_here", "_law_other", "_law_asked", "_law_memory", "_law_walker", "_law_some", "_law_beside", "_law_due", "_law_second"] : List Str).Nodup := by decide +kernel
  obtain ⟨d_FITS, m_FITS, t_FITS⟩ := c.t_FITS
  obtain ⟨d_PAIRS, m_PAIRS, t_PAIRS⟩ := c.t_PAIRS
  exact dfn_mkG (st := st__law_rule_right) (N := ["_law_pot_here", "_law_walkers", "_law_notes", "_law_rule_here", "_law_other", "_law_asked", "_law_memory", "_law_walker", "_law_some", "_law_beside", "_law_due", "_law_second"]) (pn := ["_law_pot_here", "_law_walkers", "_law_notes", "_law_rule_here", "_law_other"]) (mp := [0]) (fb := f__law_rule_right) c.d__law_rule_right ⟨rfl, rfl, rfl, ndN, rfl, by decide +kernel, by decide +kernel⟩ (fun _ _ _ _ _ _ us hl => match us, hl with | [_, _, _, _, _], _ => rfl) fun f cdv A outer s H E hr hgd => (dss_cons (ds_asg (de_call ((dfn_asks c).mono (by decide)) hr rfl (das_v (de_var 1) (das_v (de_var 2) (das_v (de_var 3) das_nil)))) (dg_name 5 ndN)) (dss_cons (ds_for po_cx rfl (di_seq rfl (de_call ((dfn__law_memories c).mono (by decide)) hr rfl (das_m 0 (das_v (de_var 1) (das_v (de_var 2) das_nil))))) (dg_name 6 ndN) (dss_one (ds_for po_cx rfl (di_range1 rfl c.b_range (de_var 1)) (dg_name 7 ndN) (dss_cons (ds_par2 10 11 rfl ndN (da_cons (de_call ((dfn__law_lets c 16).mono (by decide)) hr rfl (das_v (de_var 3) (das_v (de_var 6) (das_v (de_var 7) das_nil)))) (da_cons (de_call ((dfn__law_lets c 16).mono (by decide)) hr rfl (das_v (de_var 4) (das_v (de_var 6) (das_v (de_var 7) das_nil)))) da_nil))) (dss_cons (ds_asgM 8 ndN (dm_lst (da_cons (de_call ((dfn_lets_by c).mono (by decide)) hr rfl (das_v (de_var 1) (das_v (de_var 2) (das_v (de_var 3) (das_v (de_var 6) (das_v (de_var 7) das_nil)))))) da_nil))) (dss_cons (ds_app 8 (by exact (de_call ((dfn_lets_by c).mono (by decide)) hr rfl (das_v (de_var 1) (das_v (de_var 2) (das_v (de_tup (da_cons de_str (da_cons (de_var 3) da_nil))) (das_v (de_var 6) (das_v (de_var 7) das_nil)))))))) (dss_cons (ds_app 8 (by exact (de_call ((dfn_lets_by c).mono (by decide)) hr rfl (das_v (de_var 1) (das_v (de_var 2) (das_v (de_tup (da_cons de_str (da_cons (de_var 3) (da_cons (de_var 4) da_nil)))) (das_v (de_var 6) (das_v (de_var 7) das_nil)))))))) (dss_cons (ds_app 8 (by exact (de_call ((dfn_lets_by c).mono (by decide)) hr rfl (das_v (de_var 1) (das_v (de_var 2) (das_v (de_tup (da_cons de_str (da_cons (de_var 4) (da_cons (de_var 3) da_nil)))) (das_v (de_var 6) (das_v (de_var 7) das_nil)))))))) (dss_cons (ds_if (db_cmp (op_neS (u64 hr)) (o2_neS rfl) (de_callB (DX.call_repr (u64 hr) hgd) (oc_repr rfl) rfl c.b_repr boot_repr (da_cons (de_frz 8) da_nil)) (de_callB (DX.call_repr (u64 hr) hgd) (oc_repr rfl) rfl c.b_repr boot_repr (da_cons (de_m (dm_lst (da_cons (de_var 10) (da_cons (de_not (de_var 10)) (da_cons (de_and (de_var 10) (de_one (de_var 11))) (da_cons (de_or (de_var 10) (de_one (de_var 11))) da_nil)))))) da_nil)) (nomark _)) (dss_one (ds_ret de_bl)) dss_nil) (dss_cons (ds_asg (de_call ((dfn__law_otherwise c).mono (by decide)) hr rfl (das_m 0 (das_v (de_var 1) (das_v (de_var 2) (das_v (de_var 6) (das_v (de_var 5) das_nil)))))) (dg_name 9 ndN)) (dss_one (ds_if (db_cmp (op_neS (u64 hr)) (o2_neS rfl) (de_callB (DX.call_repr (u64 hr) hgd) (oc_repr rfl) rfl c.b_repr boot_repr (da_cons (de_call ((dfn_lets_by c).mono (by decide)) hr rfl (das_v (de_var 1) (das_v (de_var 2) (das_v (de_var 3) (das_v (de_var 9) (das_v (de_var 7) das_nil)))))) da_nil)) (de_callB (DX.call_repr (u64 hr) hgd) (oc_repr rfl) rfl c.b_repr boot_repr (da_cons (de_var 10) da_nil)) (nomark _)) (dss_one (ds_ret de_bl)) dss_nil)))))))))))) (dss_one (ds_ret de_bl))))
/-! _law_word -/
def f__law_word : Env → RS := (sSeq (sTry (sEx (dAct 0)) ((exr_RoomError, some 1, (sSeq (sAsg (dM (mLst (dCons (dIsX 1 isr_1) (dCons (dIsX 1 isr_2) (dCons (dIsX 1 isr_3) (dCons (dIsX 1 isr_4) dNil)))))) (gtN 2)) (sRet (dIf (dTest (dBin eqS (dMeth isLst lcntD (dVar 2) (dC (.bl true))) (dC (.int 1)))) (dBin ixD (dM (mLst (dCons (dC (.str "note")) (dCons (dC (.str "rule")) (dCons (dC (.str "memory")) (dCons (dC (.str "walker")) dNil)))))) (dMeth isLst lidxD (dVar 2) (dC (.bl true)))) (dC (.str "odd")))))) :: ((exr_LackError, some 1, (sRet (dIf (dTruth (dIsX 1 isr_0)) (dC (.str "number")) (dC (.str "odd"))))) :: []))) (sRet (dC (.str "told"))))
theorem gives__law_word {g : G} {Pr : Program} {w : World} {mg : Str → Option Value} {base : Heap} {cc Pt : Nat → Addr} (c : Facts g Pr w mg base cc Pt) {N : List Str} {qual : Str} {scope : Scope} {f0 : Addr} {cd : Value} {A0 : Around} {outer0 : List PySem.Env} {s0 : Shared} {H0 : Hp} {E0 : XK} {gA : Addr} {cdg : Value} {j : Nat} {qq : Str} (hrX : Room (j + 1) (A0.deeper (envOfC qual scope s0.heap.objs.size f0 cd))) (hgX : (A0.deeper (envOfC qual scope s0.heap.objs.size f0 cd)).guards = some []) :
    DX.GivesT (cxOf (L2.CX Pr w) Pr w g.K mg base N qual scope f0 cd A0 outer0 s0 H0 E0) ["_law_call", "e", "_law_some"] "_law_word" (defScope st__law_word) gA cdg (defBody st__law_word) "_law_call" qq (TTm g 3 f__law_word) := by
  have ndN : (["_law_call", "e", "_law_some"] : List Str).Nodup := by decide +kernel
  refine gives_of (Ng := ["_law_call", "e", "_law_some"]) (fm := f__law_word) fun f c2 s H E tl act => ?_
  have hr := hrX.deeper (envOfC "_law_word" (defScope st__law_word) s.heap.objs.size gA cdg)
  have hgd := DX.gd_deeper (env := envOfC "_law_word" (defScope st__law_word) s.heap.objs.size gA cdg) hgX
  obtain ⟨d_FITS, m_FITS, t_FITS⟩ := c.t_FITS
  obtain ⟨d_PAIRS, m_PAIRS, t_PAIRS⟩ := c.t_PAIRS
  exact (dss_cons (ds_try rfl rfl rfl ndN (fun pn xe po => (dss_one (ds_ex (de_act fun W tk => act W pn xe _ _ tk)))) (.consA rfl rfl (by decide) ⟨rfl, by decide, .inl c.e_RoomError⟩ c.exm_RoomError (fun a oe cls d pn hz hf => (dss_cons (ds_asg (de_m (dm_lst (da_cons (de_is1 1 rfl hz hf rfl c.b_isinstance (cl_own rfl c.e_NoNote cl_nil) c.is_1) (da_cons (de_is1 1 rfl hz hf rfl c.b_isinstance (cl_own rfl c.e_NoRule cl_nil) c.is_2) (da_cons (de_is1 1 rfl hz hf rfl c.b_isinstance (cl_own rfl c.e_NoMemory cl_nil) c.is_3) (da_cons (de_is1 1 rfl hz hf rfl c.b_isinstance (cl_own rfl c.e_NoWalker cl_nil) c.is_4) da_nil)))))) (dg_name 2 ndN)) (dss_one (ds_ret (de_ifExp (db_cmp (op_eqS (have q := u64 hr; q)) (o2_eqS rfl) (de_lcount rfl (have q := u65 hr; q) (de_var 2) de_bl) de_int (nomark _)) (de_ix rfl (have q := u1 hr; q) (de_m (dm_lst (da_cons de_str (da_cons de_str (da_cons de_str (da_cons de_str da_nil)))))) (de_lindex rfl (have q := u65 hr; q) (de_var 2) de_bl)) de_str))))) (.consA rfl rfl (by decide) ⟨rfl, by decide, .inl c.e_LackError⟩ c.exm_LackError (fun a oe cls d pn hz hf => (dss_one (ds_ret (de_ifExp (db_truth rfl (fun _ => rfl) (de_is1 1 rfl hz hf rfl c.b_isinstance (cl_own rfl c.e_NoNumber cl_nil) c.is_0)) de_str de_str)))) .nil))) (dss_one (ds_ret de_str)))
/-! _law_refused_right -/
def f__law_refused_right : Env → RS := (sSeq (sAsg (dBin ixD (dCall F__law_memories [some 0, none, none] (dMk 0 (dCons (dVar 1) (dCons (dVar 2) dNil)))) (dCall F__law_take [some 0, none] (dMk 0 (dCons (dC (.int 10)) dNil)))) (gtN 4)) (sSeq (sAsg (dCall F__law_take [some 0, none] (dMk 0 (dCons (dC (.int 32)) dNil))) (gtN 5)) (sSeq (sAsg (dM (mComp [17] (iItems1 (dTup (dCons (dC (.int 1)) (dCons (dC (.int 2)) (dCons (dC (.int 4)) (dCons (dC (.int 8)) (dCons (dC (.int 16)) dNil))))))) (gtN 17) bTrue (dBin eqS (dBin modD (dBin fdivD (dVar 5) (dVar 17)) (dC (.int 2))) (dC (.int 1))))) (gtN 6)) (sSeq (sAsg (dIf (dTruth (dBin ixD (dVar 6) (dC (.int 0)))) (dBin ixD (dM (mLst (dCons (dC (.int 0)) (dCons (dC (.int 4)) (dCons (dC (.bl true)) (dCons (dC .non) dNil)))))) (dCall F__law_take [some 0, none] (dMk 0 (dCons (dC (.int 4)) dNil)))) (dVar 1)) (gtN 7)) (sSeq (sAsgM 8 (mLst (dCons (dM (mList (dVar 2))) (dCons (dBin addD (dVar 2) (dTup (dCons (dC .non) dNil))) (dCons (dC .non) (dCons (dBin mulA (dVar 2) (dC (.int 5))) dNil)))))) (sSeq (sAsg (dIf (dTruth (dBin ixD (dVar 6) (dC (.int 1)))) (dIxM 8 (dCall F__law_take [some 0, none] (dMk 0 (dCons (dC (.int 4)) dNil)))) (dVar 2)) (gtN 9)) (sSeq (sAsg (dTup (dCons (dC (.str "not")) (dCons (dTup (dCons (dC (.str "not")) (dCons (dTup (dCons (dC (.str "not")) (dCons (dTup (dCons (dC (.str "not")) (dCons (dVar 3) dNil))) dNil))) dNil))) dNil))) (gtN 10)) (sSeq (sAsgM 8 (mLst (dCons (dVar 10) (dCons (dM (mList (dVar 3))) (dCons (dBin addD (dVar 3) (dTup (dCons (dC (.int 0)) dNil))) (dCons (dC .non) (dCons (dTup (dCons (dC (.str "note")) (dCons (dCal (on1 lenD) (dCons (dVar 2) dNil)) (dCons (dC (.int 0)) (dCons (dC (.int 0)) dNil))))) dNil))))))) (sSeq (sAsg (dIf (dTruth (dBin ixD (dVar 6) (dC (.int 2)))) (dIxM 8 (dCall F__law_take [some 0, none] (dMk 0 (dCons (dC (.int 5)) dNil)))) (dVar 3)) (gtN 11)) (sSeq (sAsgM 8 (mLst (dCons (dBin addD (dVar 4) (dTup (dCons (dC (.int 0)) dNil))) (dCons (dSl (dVar 4) (pSome (dC (.int 1))) pNo) (dCons (dM (mList (dVar 4))) (dCons (dBin addD (dTup (dCons (dUn negD (dC (.int 1))) dNil)) (dSl (dVar 4) (pSome (dC (.int 1))) pNo)) dNil)))))) (sSeq (sAsgM 8 (mCat (dFrz 8) (dM (mLst (dCons (dBin addD (dTup (dCons (dC (.bl true)) dNil)) (dSl (dVar 4) (pSome (dC (.int 1))) pNo)) (dCons (dBin addD (dTup (dCons (dC (.int 5)) dNil)) (dSl (dVar 4) (pSome (dC (.int 1))) pNo)) (dCons (dC .non) dNil))))))) (sSeq (sFor (iItems1 (dM (mLst (dCons (dUn negD (dC (.int 1))) (dCons (dC (.int 9)) (dCons (dC (.bl true)) (dCons (dC .non) dNil))))))) (gtN 12) (sApp 8 (dBin addD (dSl (dVar 4) pNo (pSome (dUn negD (dC (.int 1))))) (dTup (dCons (dVar 12) dNil))))) (sSeq (sAsg (dIf (dTruth (dBin ixD (dVar 6) (dC (.int 3)))) (dIxM 8 (dCall F__law_take [some 0, none] (dMk 0 (dCons (dC (.int 11)) dNil)))) (dVar 4)) (gtN 13)) (sSeq (sAsg (dCall F__law_take [some 0, none] (dMk 0 (dCons (dVar 1) dNil))) (gtN 14)) (sSeq (sIf (dTruth (dBin ixD (dVar 6) (dC (.int 4)))) (sAsg (dBin ixD (dM (mLst (dCons (dVar 1) (dCons (dUn negD (dC (.int 1))) (dCons (dC (.bl true)) (dCons (dC .non) (dCons (dTup (dCons (dC (.int 0)) dNil)) dNil))))))) (dCall F__law_take [some 0, none] (dMk 0 (dCons (dC (.int 5)) dNil)))) (gtN 14)) sNx) (sSeq (sAsg (dM (mLst (dCons (dC (.str "number")) (dCons (dC (.str "note")) (dCons (dC (.str "rule")) (dCons (dC (.str "memory")) (dCons (dC (.str "walker")) dNil))))))) (gtN 15)) (sSeq (sAsg (dBin ixD (dM (mCat (dM (mComp [18, 19] (iZip2 (dVar 15) (dVar 6)) (gtSeq 2 (gtCons (gtN 18) (gtCons (gtN 19) gtNil))) (dTruth (dVar 19)) (dVar 18))) (dM (mLst (dCons (dC (.str "told")) dNil))))) (dC (.int 0))) (gtN 16)) (sRet (dBin eqS (dLam f__law_word 3 (dCall F_lets_by [none, none, none, none, none] (dCons (dVar 7) (dCons (dVar 9) (dCons (dVar 11) (dCons (dVar 13) (dCons (dVar 14) dNil))))))) (dVar 16))))))))))))))))))))
def F__law_refused_right : List Slot → RF := fun ss => fin [0] (f__law_refused_right (startE 20 ss))
theorem dfn__law_refused_right {g : G} {Pr : Program} {w : World} {mg : Str → Option Value} {base : Heap} {cc Pt : Nat → Addr} (c : Facts g Pr w mg base cc Pt) : DfnG g Pr w g.K mg base 25 "_law_refused_right" 4 [0] F__law_refused_right := by
  have ndN : (["_law_pot_here", "_law_walkers", "_law_notes", "_law_rule_here", "_law_memory", "_law_bits", "_law_bad", "_law_one", "_law_some", "_law_two", "_law_deep", "_law_three", "_law_odd", "_law_four", "_law_five", "_law_words", "_law_due", "_law_size", "_law_word_here", "_law_none"] : List Str).Nodup := by decide +kernel
  obtain ⟨d_FITS, m_FITS, t_FITS⟩ := c.t_FITS
  obtain ⟨d_PAIRS, m_PAIRS, t_PAIRS⟩ := c.t_PAIRS
  obtain ⟨fd__law_word, F_at__law_word, hm__law_word⟩ := c.d__law_word.ex
  exact dfn_mkL (st := st__law_refused_right) (N := ["_law_pot_here", "_law_walkers", "_law_notes", "_law_rule_here", "_law_memory", "_law_bits", "_law_bad", "_law_one", "_law_some", "_law_two", "_law_deep", "_law_three", "_law_odd", "_law_four", "_law_five", "_law_words", "_law_due", "_law_size", "_law_word_here", "_law_none"]) (pn := ["_law_pot_here", "_law_walkers", "_law_notes", "_law_rule_here"]) (mp := [0]) (fb := f__law_refused_right) c.d__law_refused_right c.dl__law_refused_right ⟨rfl, rfl, rfl, ndN, rfl, by decide +kernel, by decide +kernel⟩ (fun _ _ _ _ _ _ us hl => match us, hl with | [_, _, _, _], _ => rfl) fun f A outer s H E hr hgd => (dss_cons (ds_asg (de_ix rfl (u1 hr) (de_call ((dfn__law_memories c).mono (by decide)) hr rfl (das_m 0 (das_v (de_var 1) (das_v (de_var 2) das_nil)))) (de_call ((dfn__law_take c).mono (by decide)) hr rfl (das_m 0 (das_v de_int das_nil)))) (dg_name 4 ndN)) (dss_cons (ds_asg (de_call ((dfn__law_take c).mono (by decide)) hr rfl (das_m 0 (das_v de_int das_nil))) (dg_name 5 ndN)) (dss_cons (ds_lcV (own := [("_law_size", 17)]) 6 ndN rfl (di_seq rfl (de_tup (da_cons de_int (da_cons de_int (da_cons de_int (da_cons de_int (da_cons de_int da_nil))))))) (blkOk_by (by rfl)) (fun _ _ _ _ _ => (dg_name 17 ndN)) (fun _ _ _ _ _ => dts_nil) (fun _ _ _ _ _ => (de_cmp (op_eqS (u64 hr)) (o2_eqS rfl) (de_bin op_mod o2_mod (de_bin op_fdivW o2_fdiv (de_var 5) (de_var 17)) de_int) de_int (nomark _)))) (dss_cons (ds_asg (de_ifExp (db_truth rfl (fun _ => rfl) (de_ix rfl (u1 hr) (de_var 6) de_int)) (de_ix rfl (u1 hr) (de_m (dm_lst (da_cons de_int (da_cons de_int (da_cons de_bl (da_cons de_non da_nil)))))) (de_call ((dfn__law_take c).mono (by decide)) hr rfl (das_m 0 (das_v de_int das_nil)))) (de_var 1)) (dg_name 7 ndN)) (dss_cons (ds_asgM 8 ndN (dm_lst (da_cons (de_m (dm_list rfl (by rfl) c.b_list (de_var 2))) (da_cons (de_bin op_addX (o2_add rfl) (de_var 2) (de_tup (da_cons de_non da_nil))) (da_cons de_non (da_cons (de_bin op_mulA (o2_mulA rfl) (de_var 2) de_int) da_nil)))))) (dss_cons (ds_asg (de_ifExp (db_truth rfl (fun _ => rfl) (de_ix rfl (u1 hr) (de_var 6) de_int)) (de_ixM 8 (de_call ((dfn__law_take c).mono (by decide)) hr (by rfl) (das_m 0 (das_v de_int das_nil)))) (de_var 2)) (dg_name 9 ndN)) (dss_cons (ds_asg (de_tup (da_cons de_str (da_cons (de_tup (da_cons de_str (da_cons (de_tup (da_cons de_str (da_cons (de_tup (da_cons de_str (da_cons (de_var 3) da_nil))) da_nil))) da_nil))) da_nil))) (dg_name 10 ndN)) (dss_cons (ds_asgM 8 ndN (dm_lst (da_cons (de_var 10) (da_cons (de_m (dm_list rfl (by rfl) c.b_list (de_var 3))) (da_cons (de_bin op_addX (o2_add rfl) (de_var 3) (de_tup (da_cons de_int da_nil))) (da_cons de_non (da_cons (de_tup (da_cons de_str (da_cons (de_callB call_len (oc_len rfl) rfl c.b_len PySem.boot_len (da_cons (de_var 2) da_nil)) (da_cons de_int (da_cons de_int da_nil))))) da_nil))))))) (dss_cons (ds_asg (de_ifExp (db_truth rfl (fun _ => rfl) (de_ix rfl (u1 hr) (de_var 6) de_int)) (de_ixM 8 (de_call ((dfn__law_take c).mono (by decide)) hr (by rfl) (das_m 0 (das_v de_int das_nil)))) (de_var 3)) (dg_name 11 ndN)) (dss_cons (ds_asgM 8 ndN (dm_lst (da_cons (de_bin op_addX (o2_add rfl) (de_var 4) (de_tup (da_cons de_int da_nil))) (da_cons (de_sl rfl (de_var 4) (do_some de_int) do_none) (da_cons (de_m (dm_list rfl (by rfl) c.b_list (de_var 4))) (da_cons (de_bin op_addX (o2_add rfl) (de_tup (da_cons (de_un un_neg o1_neg de_int) da_nil)) (de_sl rfl (de_var 4) (do_some de_int) do_none)) da_nil)))))) (dss_cons (ds_asgM 8 ndN (dm_cat rfl (de_frz 8) (de_m (dm_lst (da_cons (de_bin op_addX (o2_add rfl) (de_tup (da_cons de_bl da_nil)) (de_sl rfl (de_var 4) (do_some de_int) do_none)) (da_cons (de_bin op_addX (o2_add rfl) (de_tup (da_cons de_int da_nil)) (de_sl rfl (de_var 4) (do_some de_int) do_none)) (da_cons de_non da_nil))))))) (dss_cons (ds_for po_cx rfl (di_seq rfl (de_m (dm_lst (da_cons (de_un un_neg o1_neg de_int) (da_cons de_int (da_cons de_bl (da_cons de_non da_nil))))))) (dg_name 12 ndN) (dss_one (ds_app 8 (by exact (de_bin op_addX (o2_add rfl) (de_sl rfl (de_var 4) do_none (do_some (de_un un_neg o1_neg de_int))) (de_tup (da_cons (de_var 12) da_nil))))))) (dss_cons (ds_asg (de_ifExp (db_truth rfl (fun _ => rfl) (de_ix rfl (u1 hr) (de_var 6) de_int)) (de_ixM 8 (de_call ((dfn__law_take c).mono (by decide)) hr (by rfl) (das_m 0 (das_v de_int das_nil)))) (de_var 4)) (dg_name 13 ndN)) (dss_cons (ds_asg (de_call ((dfn__law_take c).mono (by decide)) hr rfl (das_m 0 (das_v (de_var 1) das_nil))) (dg_name 14 ndN)) (dss_cons (ds_if (db_truth rfl (fun _ => rfl) (de_ix rfl (u1 hr) (de_var 6) de_int)) (dss_one (ds_asg (de_ix rfl (u1 hr) (de_m (dm_lst (da_cons (de_var 1) (da_cons (de_un un_neg o1_neg de_int) (da_cons de_bl (da_cons de_non (da_cons (de_tup (da_cons de_int da_nil)) da_nil))))))) (de_call ((dfn__law_take c).mono (by decide)) hr rfl (das_m 0 (das_v de_int das_nil)))) (dg_name 14 ndN))) dss_nil) (dss_cons (ds_asg (de_m (dm_lst (da_cons de_str (da_cons de_str (da_cons de_str (da_cons de_str (da_cons de_str da_nil))))))) (dg_name 15 ndN)) (dss_cons (ds_asg (de_ix rfl (u1 hr) (de_m (dm_cat rfl (de_m (dm_comp (own := [("_law_word_here", 18), ("_law_none", 19)]) ndN rfl (di_zip rfl rfl c.b_zip (de_var 15) (de_var 6)) (blkOk_by (by rfl)) (fun _ _ _ _ _ => (dg_seq rfl rfl (dgs_cons (dg_name 18 ndN) (dgs_cons (dg_name 19 ndN) dgs_nil)))) (fun _ _ _ _ _ => (dts_one (db_truth rfl (fun _ => rfl) (de_var 19)))) (fun _ _ _ _ _ => (de_var 18)))) (de_m (dm_lst (da_cons de_str da_nil))))) de_int) (dg_name 16 ndN)) (dss_one (ds_ret (de_cmp (op_eqS (u64 hr)) (o2_eqS rfl) (de_lam (k := 22) (Ng := ["_law_call", "e", "_law_some"]) rfl hm__law_word F_at__law_word (fun _ _ _ _ _ _ us hl => match us, hl with | [_], _ => rfl) ⟨rfl, rfl, rfl, by decide +kernel, rfl, by decide +kernel, by decide +kernel⟩ rfl (by first | exact Or.inl rfl | exact Or.inr (Or.inl rfl)) (fun cdg => gives__law_word c hr hgd) c.tabB__law_refused_right rfl c.hmT__law_refused_right c.huT__law_refused_right hr (LamX.lamS_by (by rfl)) (fun A outer s H E f c2 hr => (de_call ((dfn_lets_by c).mono (by decide)) hr rfl (das_v (de_var 7) (das_v (de_var 9) (das_v (de_var 11) (das_v (de_var 13) (das_v (de_var 14) das_nil)))))))) (de_var 16) (nomark _)))))))))))))))))))))
/-! law -/
def f_law : Env → RS := (sSeq (sAsg (dCall F__law_folded [none, none] (dCons (dVar 0) (dCons (dC (.int 6)) dNil))) (gtN 1)) (sSeq (sFor (iRange1 (dCal (on2 max2D) (dCons (dC (.int 1)) (dCons (dCal (on1 lenD) (dCons (dVar 1) dNil)) dNil)))) (gtN 2) (sSeq (sAsgM 3 (mCall F__law_pot [none, none] (dCons (dVar 1) (dCons (dVar 2) dNil)))) (sSeq (sAsg (dBin addD (dC (.int 1)) (dCall F__law_take [some 3, none] (dMk 3 (dCons (dC (.int 3)) dNil)))) (gtN 4)) (sSeq (sAsg (dCal (on1 tupD) (dCons (dM (mComp [8] (iRange1 (dBin addD (dC (.int 1)) (dCall F__law_take [some 3, none] (dMk 3 (dCons (dC (.int 4)) dNil))))) (gtN 8) bTrue (dCall F__law_note [some 3, none] (dMk 3 (dCons (dVar 4) dNil))))) dNil)) (gtN 5)) (sSeq (sAsg (dM (mComp [8] (iRange1 (dC (.int 3))) (gtN 8) bTrue (dCall (F__law_rule 16) [some 3, none, none, none] (dMk 3 (dCons (dVar 4) (dCons (dVar 5) (dCons (dC (.int 3)) dNil))))))) (gtN 6)) (sSeq (sFor (iRange1 (dC (.int 3))) (gtN 7) (sIf (bNot (dTruth (dCall F__law_rule_right [some 3, none, none, none, none] (dMk 3 (dCons (dVar 4) (dCons (dVar 5) (dCons (dBin ixD (dVar 6) (dVar 7)) (dCons (dBin ixD (dVar 6) (dBin subD (dVar 7) (dC (.int 1)))) dNil)))))))) (sRet (dC (.bl false))) sNx)) (sFor (iRange1 (dC (.int 6))) (gtN 8) (sIf (bNot (dTruth (dCall F__law_refused_right [some 3, none, none, none] (dMk 3 (dCons (dVar 4) (dCons (dVar 5) (dCons (dBin ixD (dVar 6) (dBin modD (dVar 8) (dC (.int 3)))) dNil))))))) (sRet (dC (.bl false))) sNx)))))))) (sRet (dC (.bl true)))))
def F_law : List Slot → RF := fun ss => fin [] (f_law (startE 9 ss))
theorem law_ok {g : G} {Pr : Program} {w : World} {mg : Str → Option Value} {base : Heap} {cc Pt : Nat → Addr} (c : Facts g Pr w mg base cc Pt) : ∀ (fd : FuncData) (oc2 : Value) (od2 : Option Addr) (osl2 : Array (Option Value)), g.K.lookup (g.fnA 55) = some ⟨oc2, od2, .func fd, osl2⟩ → DX.FnG Pr w g.K mg base (L2.CX Pr w) 26 (g.fnA 55) fd ["_law_script"] (spD g ["_law_script", "_law_cells", "_law_k", "_law_pot_here", "_law_walkers", "_law_notes", "_law_rules", "_law_at", "_law_turn"] [] 1 F_law) ∧ (∀ (s : Shared) (u : Value), BindsTo s fd ⟨[u], []⟩ [("_law_script", u)]) := by
  have ndN : (["_law_script", "_law_cells", "_law_k", "_law_pot_here", "_law_walkers", "_law_notes", "_law_rules", "_law_at", "_law_turn"] : List Str).Nodup := by decide +kernel
  obtain ⟨d_FITS, m_FITS, t_FITS⟩ := c.t_FITS
  obtain ⟨d_PAIRS, m_PAIRS, t_PAIRS⟩ := c.t_PAIRS
  exact law_mk (st := st_law) (N := ["_law_script", "_law_cells", "_law_k", "_law_pot_here", "_law_walkers", "_law_notes", "_law_rules", "_law_at", "_law_turn"]) (fb := f_law) c.d_law ⟨rfl, rfl, rfl, ndN, rfl, by decide +kernel, by decide +kernel⟩ (fun _ _ _ _ _ _ us hl => match us, hl with | [_], _ => rfl) fun f A outer s H E hr hgd => (dss_cons (ds_asg (de_call ((dfn__law_folded c).mono (by decide)) hr rfl (das_v (de_var 0) (das_v de_int das_nil))) (dg_name 1 ndN)) (dss_cons (ds_for po_cx rfl (di_range1 rfl c.b_range (de_callB (call_max2 rfl) oc_max2 rfl c.b_max boot_max (da_cons de_int (da_cons (de_callB call_len (oc_len rfl) rfl c.b_len PySem.boot_len (da_cons (de_var 1) da_nil)) da_nil)))) (dg_name 2 ndN) (dss_cons (ds_asgM 3 ndN (dm_call ((dfn__law_pot c).mono (by decide)) hr rfl (das_v (de_var 1) (das_v (de_var 2) das_nil)))) (dss_cons (ds_asg (de_bin op_addX (o2_add rfl) de_int (de_call ((dfn__law_take c).mono (by decide)) hr rfl (das_m 3 (das_v de_int das_nil)))) (dg_name 4 ndN)) (dss_cons (ds_asg (de_callTy call_tuple_of (oc_tup rfl) rfl c.b_tuple boot_tuple (da_cons (de_m (dm_comp (own := [("_law_turn", 8)]) ndN rfl (di_range1 rfl c.b_range (de_bin op_addX (o2_add rfl) de_int (de_call ((dfn__law_take c).mono (by decide)) hr rfl (das_m 3 (das_v de_int das_nil))))) (blkOk_by (by rfl)) (fun _ _ _ _ _ => (dg_name 8 ndN)) (fun _ _ _ _ _ => dts_nil) (fun _ _ _ _ _ => (de_call ((dfn__law_note c).mono (by decide)) hr rfl (das_m 3 (das_v (de_var 4) das_nil)))))) da_nil)) (dg_name 5 ndN)) (dss_cons (ds_lcV (own := [("_law_turn", 8)]) 6 ndN rfl (di_range1 rfl c.b_range de_int) (blkOk_by (by rfl)) (fun _ _ _ _ _ => (dg_name 8 ndN)) (fun _ _ _ _ _ => dts_nil) (fun _ _ _ _ _ => (de_call ((dfn__law_rule c 16).mono (by decide)) hr rfl (das_m 3 (das_v (de_var 4) (das_v (de_var 5) (das_v de_int das_nil))))))) (dss_cons (ds_for po_cx rfl (di_range1 rfl c.b_range de_int) (dg_name 7 ndN) (dss_one (ds_if (db_not (db_truth rfl (fun _ => rfl) (de_callG ((dfn__law_rule_right c).mono (by decide)) hr hgd rfl (das_m 3 (das_v (de_var 4) (das_v (de_var 5) (das_v (de_ix rfl (u1 hr) (de_var 6) (de_var 7)) (das_v (de_ix rfl (u1 hr) (de_var 6) (de_bin op_sub o2_sub (de_var 7) de_int)) das_nil)))))))) (dss_one (ds_ret de_bl)) dss_nil))) (dss_one (ds_for po_cx rfl (di_range1 rfl c.b_range de_int) (dg_name 8 ndN) (dss_one (ds_if (db_not (db_truth rfl (fun _ => rfl) (de_callG ((dfn__law_refused_right c).mono (by decide)) hr hgd rfl (das_m 3 (das_v (de_var 4) (das_v (de_var 5) (das_v (de_ix rfl (u1 hr) (de_var 6) (de_bin op_mod o2_mod (de_var 8) de_int)) das_nil))))))) (dss_one (ds_ret de_bl)) dss_nil)))))))))) (dss_one (ds_ret de_bl))))
end DL
end

section
set_option Elab.async false
set_option linter.all false
set_option maxRecDepth 100000
set_option maxHeartbeats 0
namespace DL
open PySem PySem.Spec PyProof.Rows L2 DX LamX
def nmF : List (Nat × Str) := [(12, ("is_between" : Str)), (13, ("is_who" : Str)), (14, ("fits_came" : Str)), (15, ("fits_round" : Str)), (16, ("fits_since" : Str)), (18, ("is_note_of" : Str)), (19, ("need_walkers" : Str)), (20, ("most_in" : Str)), (24, ("are_notes" : Str)), (25, ("are_walkers" : Str)), (26, ("is_span" : Str)), (27, ("fits_free" : Str)), (28, ("fits_who" : Str)), (29, ("fits_note" : Str)), (30, ("fits_mine" : Str)), (31, ("fits_one" : Str)), (32, ("fits_two" : Str)), (34, ("is_rule_of" : Str)), (35, ("need_notes" : Str)), (36, ("need_rule" : Str)), (37, ("notes_asked" : Str)), (38, ("asks" : Str)), (39, ("lets" : Str)), (40, ("is_memory_of" : Str)), (41, ("lets_by" : Str)), (43, ("_law_pot" : Str)), (44, ("_law_take" : Str)), (45, ("_law_folded" : Str)), (46, ("_law_note" : Str)), (47, ("_law_most" : Str)), (48, ("_law_rule" : Str)), (49, ("_law_lets" : Str)), (50, ("_law_memories" : Str)), (51, ("_law_otherwise" : Str)), (52, ("_law_rule_right" : Str)), (53, ("_law_word" : Str)), (54, ("_law_refused_right" : Str)), (55, ("law" : Str))]
def nmC : List (Nat × Str) := [(1, ("RoomError" : Str)), (2, ("NoNote" : Str)), (3, ("NoRule" : Str)), (4, ("NoMemory" : Str)), (5, ("NoWalker" : Str)), (6, ("LackError" : Str)), (7, ("NoNumber" : Str))]
def hosts : List He.Defn := [("law", none), ("_law_refused_right", none)]
abbrev ccF (K : PySem.W.Frag) (i : Nat) : Addr := (He.cT K (hosts.getD i ("law", none))).1
abbrev PtF (K : PySem.W.Frag) (i : Nat) : Addr := (He.cT K (hosts.getD i ("law", none))).2
abbrev gOf (K : PySem.W.Frag) : G := ⟨K, fun n => He.ga K ((nmF.lookup n).getD ""), fun n => He.ga K ((nmC.lookup n).getD ""), [(PtF K 1, q__law_refused_right)], none, none⟩
def fa : List He.Fa := [.glo "is_between", .glo "is_who", .glo "fits_came", .glo "fits_round", .glo "fits_since", .glo "is_note_of", .glo "need_walkers", .glo "most_in", .glo "are_notes", .glo "are_walkers", .glo "is_span", .glo "fits_free", .glo "fits_who", .glo "fits_note", .glo "fits_mine", .glo "fits_one", .glo "fits_two", .glo "is_rule_of", .glo "need_notes", .glo "need_rule", .glo "notes_asked", .glo "asks", .glo "lets", .glo "is_memory_of", .glo "lets_by", .glo "_law_pot", .glo "_law_take", .glo "_law_folded", .glo "_law_note", .glo "_law_most", .glo "_law_rule", .glo "_law_lets", .glo "_law_memories", .glo "_law_otherwise", .glo "_law_rule_right", .glo "_law_word", .glo "_law_refused_right", .glo "law", .glo "LackError", .glo "NoMemory", .glo "NoNote", .glo "NoNumber", .glo "NoRule", .glo "NoWalker", .glo "RoomError", .free "abs", .free "all", .free "any", .free "bool", .free "enumerate", .free "int", .free "isinstance", .free "len", .free "list", .free "max", .free "min", .free "range", .free "repr", .free "set", .free "sorted", .free "str", .free "tuple", .free "zip", .int "LEAST_BY" 2, .int "MOST_DEEP" 4, .int "MOST_NOTES" 4, .int "MOST_TOP" 4, .int "MOST_WALKERS" 3, .glo "FITS", .glo "PAIRS", .exc "NoMemory", .exc "NoNote", .free "LookupError", .exc "NoRule", .exc "NoWalker"]
abbrev st_init_LackError : Stmt := inClass (top 6) 0
def fn : List He.DefD := [⟨("is_between", none), "is_between", "is_between", defArgs st_is_between, defBody st_is_between, defScope st_is_between, [], []⟩,
  ⟨("is_who", none), "is_who", "is_who", defArgs st_is_who, defBody st_is_who, defScope st_is_who, [], []⟩,
  ⟨("fits_came", none), "fits_came", "fits_came", defArgs st_fits_came, defBody st_fits_came, defScope st_fits_came, [], []⟩,
  ⟨("fits_round", none), "fits_round", "fits_round", defArgs st_fits_round, defBody st_fits_round, defScope st_fits_round, [], []⟩,
  ⟨("fits_since", none), "fits_since", "fits_since", defArgs st_fits_since, defBody st_fits_since, defScope st_fits_since, [], []⟩,
  ⟨("is_note_of", none), "is_note_of", "is_note_of", defArgs st_is_note_of, defBody st_is_note_of, defScope st_is_note_of, [], []⟩,
  ⟨("need_walkers", none), "need_walkers", "need_walkers", defArgs st_need_walkers, defBody st_need_walkers, defScope st_need_walkers, [], []⟩,
  ⟨("most_in", none), "most_in", "most_in", defArgs st_most_in, defBody st_most_in, defScope st_most_in, [], []⟩,
  ⟨("are_notes", none), "are_notes", "are_notes", defArgs st_are_notes, defBody st_are_notes, defScope st_are_notes, [], []⟩,
  ⟨("are_walkers", none), "are_walkers", "are_walkers", defArgs st_are_walkers, defBody st_are_walkers, defScope st_are_walkers, [], []⟩,
  ⟨("is_span", none), "is_span", "is_span", defArgs st_is_span, defBody st_is_span, defScope st_is_span, [], []⟩,
  ⟨("fits_free", none), "fits_free", "fits_free", defArgs st_fits_free, defBody st_fits_free, defScope st_fits_free, [], []⟩,
  ⟨("fits_who", none), "fits_who", "fits_who", defArgs st_fits_who, defBody st_fits_who, defScope st_fits_who, [], []⟩,
  ⟨("fits_note", none), "fits_note", "fits_note", defArgs st_fits_note, defBody st_fits_note, defScope st_fits_note, [], []⟩,
  ⟨("fits_mine", none), "fits_mine", "fits_mine", defArgs st_fits_mine, defBody st_fits_mine, defScope st_fits_mine, [], []⟩,
  ⟨("fits_one", none), "fits_one", "fits_one", defArgs st_fits_one, defBody st_fits_one, defScope st_fits_one, [], []⟩,
  ⟨("fits_two", none), "fits_two", "fits_two", defArgs st_fits_two, defBody st_fits_two, defScope st_fits_two, [], []⟩,
  ⟨("is_rule_of", none), "is_rule_of", "is_rule_of", defArgs st_is_rule_of, defBody st_is_rule_of, defScope st_is_rule_of, [], []⟩,
  ⟨("need_notes", none), "need_notes", "need_notes", defArgs st_need_notes, defBody st_need_notes, defScope st_need_notes, [], []⟩,
  ⟨("need_rule", none), "need_rule", "need_rule", defArgs st_need_rule, defBody st_need_rule, defScope st_need_rule, [], []⟩,
  ⟨("notes_asked", none), "notes_asked", "notes_asked", defArgs st_notes_asked, defBody st_notes_asked, defScope st_notes_asked, [], []⟩,
  ⟨("asks", none), "asks", "asks", defArgs st_asks, defBody st_asks, defScope st_asks, [], []⟩,
  ⟨("lets", none), "lets", "lets", defArgs st_lets, defBody st_lets, defScope st_lets, [], []⟩,
  ⟨("is_memory_of", none), "is_memory_of", "is_memory_of", defArgs st_is_memory_of, defBody st_is_memory_of, defScope st_is_memory_of, [], []⟩,
  ⟨("lets_by", none), "lets_by", "lets_by", defArgs st_lets_by, defBody st_lets_by, defScope st_lets_by, [], []⟩,
  ⟨("_law_pot", none), "_law_pot", "_law_pot", defArgs st__law_pot, defBody st__law_pot, defScope st__law_pot, [], []⟩,
  ⟨("_law_take", none), "_law_take", "_law_take", defArgs st__law_take, defBody st__law_take, defScope st__law_take, [], []⟩,
  ⟨("_law_folded", none), "_law_folded", "_law_folded", defArgs st__law_folded, defBody st__law_folded, defScope st__law_folded, [], []⟩,
  ⟨("_law_note", none), "_law_note", "_law_note", defArgs st__law_note, defBody st__law_note, defScope st__law_note, [], []⟩,
  ⟨("_law_most", none), "_law_most", "_law_most", defArgs st__law_most, defBody st__law_most, defScope st__law_most, [], []⟩,
  ⟨("_law_rule", none), "_law_rule", "_law_rule", defArgs st__law_rule, defBody st__law_rule, defScope st__law_rule, [], []⟩,
  ⟨("_law_lets", none), "_law_lets", "_law_lets", defArgs st__law_lets, defBody st__law_lets, defScope st__law_lets, [], []⟩,
  ⟨("_law_memories", none), "_law_memories", "_law_memories", defArgs st__law_memories, defBody st__law_memories, defScope st__law_memories, [], []⟩,
  ⟨("_law_otherwise", none), "_law_otherwise", "_law_otherwise", defArgs st__law_otherwise, defBody st__law_otherwise, defScope st__law_otherwise, [], []⟩,
  ⟨("_law_rule_right", none), "_law_rule_right", "_law_rule_right", defArgs st__law_rule_right, defBody st__law_rule_right, defScope st__law_rule_right, [], []⟩,
  ⟨("_law_word", none), "_law_word", "_law_word", defArgs st__law_word, defBody st__law_word, defScope st__law_word, [], []⟩,
  ⟨("_law_refused_right", none), "_law_refused_right", "_law_refused_right", defArgs st__law_refused_right, defBody st__law_refused_right, defScope st__law_refused_right, [], []⟩,
  ⟨("law", none), "law", "law", defArgs st_law, defBody st_law, defScope st_law, [], []⟩,
  ⟨("LackError", some "__init__"), "__init__", "LackError.__init__", defArgs st_init_LackError, defBody st_init_LackError, defScope st_init_LackError, [], []⟩]
def ts : List He.Tab := [(fun K => He.ga K "FITS", tab_FITS.map (·.1)), (fun K => He.ga K "PAIRS", tab_PAIRS.map (·.1))]
def exl (K : PySem.W.Frag) : List Bool := [(tab_FITS.all fun p => decide (PySem.W.nsIn (gOf K).K (He.ga K "FITS") p.1 = some (some (.ref ((gOf K).fnA p.2))))),
  (tab_PAIRS.all fun p => decide (PySem.W.nsIn (gOf K).K (He.ga K "PAIRS") p.1 = some (some (.ref ((gOf K).fnA p.2))))),
  (exr_LackError_t.all fun p => decide (PySem.W.exmOne (gOf K).K (.ref ((gOf K).clA p.1)) (.ref ((gOf K).clA 6)) = some p.2)),
  (exr_RoomError_t.all fun p => decide (PySem.W.exmOne (gOf K).K (.ref ((gOf K).clA p.1)) (.ref ((gOf K).clA 1)) = some p.2)),
  (isr_0_t.all fun p => excCB (gOf K).K ((gOf K).clA p.1) && decide (PySem.W.kitOne (gOf K).K (.ref ((gOf K).clA p.1)) (.ref ((gOf K).clA 7)) = some p.2)),
  (isr_1_t.all fun p => excCB (gOf K).K ((gOf K).clA p.1) && decide (PySem.W.kitOne (gOf K).K (.ref ((gOf K).clA p.1)) (.ref ((gOf K).clA 2)) = some p.2)),
  (isr_2_t.all fun p => excCB (gOf K).K ((gOf K).clA p.1) && decide (PySem.W.kitOne (gOf K).K (.ref ((gOf K).clA p.1)) (.ref ((gOf K).clA 3)) = some p.2)),
  (isr_3_t.all fun p => excCB (gOf K).K ((gOf K).clA p.1) && decide (PySem.W.kitOne (gOf K).K (.ref ((gOf K).clA p.1)) (.ref ((gOf K).clA 4)) = some p.2)),
  (isr_4_t.all fun p => excCB (gOf K).K ((gOf K).clA p.1) && decide (PySem.W.kitOne (gOf K).K (.ref ((gOf K).clA p.1)) (.ref ((gOf K).clA 5)) = some p.2)),
  oexTB (gOf K).K ((gOf K).clA 7) "LookupError.__new__" leTail,
  decide (PySem.W.findIn (gOf K).K (.ref ((gOf K).clA 7)) "__init__" = some (some (.ref (He.fAd K ("LackError", some "__init__"))))),
  decide (PySem.W.typeIn (gOf K).K (.ref (He.fAd K ("LackError", some "__init__"))) = some (.type "function")),
  decide (PySem.W.findIn (gOf K).K (.ref ((gOf K).clA 7)) "number" = some none)]
def exb (K : PySem.W.Frag) : Bool := (exl K).all id
theorem exb_at {K : PySem.W.Frag} (h : exb K = true) (i : Nat) {b : Bool} (e : (exl K)[i]? = some b) : b = true := List.all_eq_true.mp h b (List.mem_of_getElem? e)
def tf : List He.Defn := hosts
abbrev rowR : PySem.W.OpenRow := PySem.W.OpenLaw.row PySem.Challenge.rw_whocame_k04_rules_let_by
abbrev hk : PySem.W.Hook := He.hookX 6 fa fn ts tf exb
def ob (s : PySem.W.SharedT) : He.AlX := He.obsX 6 fa fn ts tf exb (HandSHeadRun.getT s)
theorem ob_eq (s : PySem.W.SharedT) : ob s = hk.obs s.abs := He.obsX_eq (HandSHeadRun.getT_eq s)
def loose0 : List Str := ["RoomError", "NoNote", "NoRule", "NoMemory", "NoWalker", "LackError", "NoNumber", "MOST_WALKERS", "MOST_TOP", "LEAST_BY", "is_between", "is_who", "fits_came", "fits_round", "fits_since", "PAIRS", "is_note_of", "need_walkers", "most_in", "MOST_NOTES", "MOST_DEEP", "are_notes", "are_walkers", "is_span", "fits_free", "fits_who", "fits_note", "fits_mine", "fits_one", "fits_two"]
def loose1 : List Str := ["FITS", "is_rule_of", "need_notes", "need_rule", "notes_asked", "asks", "lets", "is_memory_of", "lets_by", "_law_pot", "_law_take", "_law_folded", "_law_note", "_law_most", "_law_rule", "_law_lets", "_law_memories", "_law_otherwise", "_law_rule_right", "_law_word", "_law_refused_right"]
abbrev loose : List Str := loose0 ++ loose1
end DL
end

section
set_option Elab.async false
set_option linter.all false
set_option maxRecDepth 100000
set_option maxHeartbeats 0
namespace DL
open PySem PySem.Spec PyProof.Rows L2 DX LamX
theorem run (w : World) : HandSHeadRun.RunEq rowR (PySem.W.view rowR.prog [55]) hk ob 40000 loose w := PySem.W.byRow2 "special-get-raises" (P := fun w => HandSHeadRun.RunEq rowR (PySem.W.view rowR.prog [55]) hk ob 40000 loose w) (fun w os => by kernel_rfl) (fun w os => by kernel_rfl) w
end DL
end

section
set_option Elab.async false
set_option linter.all false
set_option maxRecDepth 100000
set_option maxHeartbeats 0
namespace DL
open PySem PySem.Spec PyProof.Rows L2 DX LamX
section
variable {Pr : Program} {w : World} {K : PySem.W.Frag} {h base : Heap} {mg : Str → Option Value}
theorem tab_raw {fa : List He.Fa} {fn : List He.DefD} {ts : List He.Tab} (c : He.SaysT fa fn ts w K) (i : Nat) {t : He.Tab} (h : ts[i]? = some t) : He.dicW K (t.1 K) = some (He.keysIn w.params t.2) := by
  have e : ts.map (fun t => He.dicW K (t.1 K)) = ts.map fun t => some (He.keysIn w.params t.2) := congrArg (fun z : He.AlT => z.2) c
  have e2 : (ts.map fun t => He.dicW K (t.1 K))[i]? = (ts.map fun t => some (He.keysIn w.params t.2))[i]? := by rw [e]
  rw [List.getElem?_map, List.getElem?_map, h] at e2
  exact Option.some.inj e2
theorem facts_of (KX : K.In h) (G : h.Ns mainGlobals mg) (c : He.SaysX fa fn ts tf exb w h K) (hTB : ∀ p ∈ hosts.map (He.cT K), LamX.TabB base mg p.1 p.2) : Facts (gOf K) Pr w mg base (ccF K) (PtF K) where
  b_abs := He.free_ok KX G (c.t.d.fact 45 (f := .free "abs") rfl)
  b_all := He.free_ok KX G (c.t.d.fact 46 (f := .free "all") rfl)
  b_any := He.free_ok KX G (c.t.d.fact 47 (f := .free "any") rfl)
  b_bool := He.free_ok KX G (c.t.d.fact 48 (f := .free "bool") rfl)
  b_enumerate := He.free_ok KX G (c.t.d.fact 49 (f := .free "enumerate") rfl)
  b_int := He.free_ok KX G (c.t.d.fact 50 (f := .free "int") rfl)
  b_isinstance := He.free_ok KX G (c.t.d.fact 51 (f := .free "isinstance") rfl)
  b_len := He.free_ok KX G (c.t.d.fact 52 (f := .free "len") rfl)
  b_list := He.free_ok KX G (c.t.d.fact 53 (f := .free "list") rfl)
  b_max := He.free_ok KX G (c.t.d.fact 54 (f := .free "max") rfl)
  b_min := He.free_ok KX G (c.t.d.fact 55 (f := .free "min") rfl)
  b_range := He.free_ok KX G (c.t.d.fact 56 (f := .free "range") rfl)
  b_repr := He.free_ok KX G (c.t.d.fact 57 (f := .free "repr") rfl)
  b_set := He.free_ok KX G (c.t.d.fact 58 (f := .free "set") rfl)
  b_sorted := He.free_ok KX G (c.t.d.fact 59 (f := .free "sorted") rfl)
  b_str := He.free_ok KX G (c.t.d.fact 60 (f := .free "str") rfl)
  b_tuple := He.free_ok KX G (c.t.d.fact 61 (f := .free "tuple") rfl)
  b_zip := He.free_ok KX G (c.t.d.fact 62 (f := .free "zip") rfl)
  c_LEAST_BY := He.int_ok KX G (c.t.d.fact 63 (f := .int "LEAST_BY" 2) rfl)
  c_MOST_DEEP := He.int_ok KX G (c.t.d.fact 64 (f := .int "MOST_DEEP" 4) rfl)
  c_MOST_NOTES := He.int_ok KX G (c.t.d.fact 65 (f := .int "MOST_NOTES" 4) rfl)
  c_MOST_TOP := He.int_ok KX G (c.t.d.fact 66 (f := .int "MOST_TOP" 4) rfl)
  c_MOST_WALKERS := He.int_ok KX G (c.t.d.fact 67 (f := .int "MOST_WALKERS" 3) rfl)
  t_FITS := ⟨He.ga K "FITS", He.glo_ok KX G (c.t.d.fact 68 (f := .glo "FITS") rfl), ktab_of (g := gOf K) (tab_raw c.t 0 rfl) (exb_at c.more 0 rfl)⟩
  t_PAIRS := ⟨He.ga K "PAIRS", He.glo_ok KX G (c.t.d.fact 69 (f := .glo "PAIRS") rfl), ktab_of (g := gOf K) (tab_raw c.t 1 rfl) (exb_at c.more 1 rfl)⟩
  e_LackError := He.glo_ok KX G (c.t.d.fact 38 (f := .glo "LackError") rfl)
  e_NoMemory := He.glo_ok KX G (c.t.d.fact 39 (f := .glo "NoMemory") rfl)
  e_NoNote := He.glo_ok KX G (c.t.d.fact 40 (f := .glo "NoNote") rfl)
  e_NoNumber := He.glo_ok KX G (c.t.d.fact 41 (f := .glo "NoNumber") rfl)
  e_NoRule := He.glo_ok KX G (c.t.d.fact 42 (f := .glo "NoRule") rfl)
  e_NoWalker := He.glo_ok KX G (c.t.d.fact 43 (f := .glo "NoWalker") rfl)
  e_RoomError := He.glo_ok KX G (c.t.d.fact 44 (f := .glo "RoomError") rfl)
  ev_NoMemory := excV_of (g := gOf K) (n := 4) (c.t.d.fact 70 (f := .exc "NoMemory") rfl) rfl
  ev_NoNote := excV_of (g := gOf K) (n := 2) (c.t.d.fact 71 (f := .exc "NoNote") rfl) rfl
  ef_NoNumber := by
    obtain ⟨fd, Fd⟩ := c.t.d.def_ 38 rfl
    exact excF_le (g := gOf K) (n := 7) (y := "number") (f := "number") (st := st_init_LackError) (exb_at c.more 9 rfl) (of_decide_eq_true (exb_at c.more 10 rfl)) (of_decide_eq_true (exb_at c.more 11 rfl)) (of_decide_eq_true (exb_at c.more 12 rfl)) Fd (He.free_ok KX G (c.t.d.fact 72 (f := .free "LookupError") rfl)) ⟨rfl, rfl, rfl, by decide +kernel, rfl, by decide +kernel, by decide +kernel⟩ rfl (fun _ _ _ _ _ _ us hl => match us, hl with | [_, _], _ => rfl) rfl (Or.inl rfl) (Or.inl rfl) (by decide) (by decide) (fun _ => rfl) (fun _ _ => rfl) (fun _ => ⟨_, rfl⟩)
  ev_NoRule := excV_of (g := gOf K) (n := 3) (c.t.d.fact 73 (f := .exc "NoRule") rfl) rfl
  ev_NoWalker := excV_of (g := gOf K) (n := 5) (c.t.d.fact 74 (f := .exc "NoWalker") rfl) rfl
  exm_LackError := fun n b hb => of_decide_eq_true (List.all_eq_true.mp (exb_at c.more 2 rfl) (n, b) (lookup_in hb))
  exm_RoomError := fun n b hb => of_decide_eq_true (List.all_eq_true.mp (exb_at c.more 3 rfl) (n, b) (lookup_in hb))
  is_0 := fun n b hb => by
    obtain ⟨h1, h2⟩ := Bool.and_eq_true_iff.mp (List.all_eq_true.mp (exb_at c.more 4 rfl) (n, b) (lookup_in hb))
    exact ⟨excCB_ok h1, of_decide_eq_true h2⟩
  is_1 := fun n b hb => by
    obtain ⟨h1, h2⟩ := Bool.and_eq_true_iff.mp (List.all_eq_true.mp (exb_at c.more 5 rfl) (n, b) (lookup_in hb))
    exact ⟨excCB_ok h1, of_decide_eq_true h2⟩
  is_2 := fun n b hb => by
    obtain ⟨h1, h2⟩ := Bool.and_eq_true_iff.mp (List.all_eq_true.mp (exb_at c.more 6 rfl) (n, b) (lookup_in hb))
    exact ⟨excCB_ok h1, of_decide_eq_true h2⟩
  is_3 := fun n b hb => by
    obtain ⟨h1, h2⟩ := Bool.and_eq_true_iff.mp (List.all_eq_true.mp (exb_at c.more 7 rfl) (n, b) (lookup_in hb))
    exact ⟨excCB_ok h1, of_decide_eq_true h2⟩
  is_4 := fun n b hb => by
    obtain ⟨h1, h2⟩ := Bool.and_eq_true_iff.mp (List.all_eq_true.mp (exb_at c.more 8 rfl) (n, b) (lookup_in hb))
    exact ⟨excCB_ok h1, of_decide_eq_true h2⟩
  d_is_between := by
    obtain ⟨fd, Fd⟩ := c.t.d.def_ 0 rfl
    exact ⟨fd, fun_ofD (st := st_is_between) Fd, He.glo_ok KX G (c.t.d.fact 0 (f := .glo "is_between") rfl)⟩
  d_is_who := by
    obtain ⟨fd, Fd⟩ := c.t.d.def_ 1 rfl
    exact ⟨fd, fun_ofD (st := st_is_who) Fd, He.glo_ok KX G (c.t.d.fact 1 (f := .glo "is_who") rfl)⟩
  d_fits_came := by
    obtain ⟨fd, Fd⟩ := c.t.d.def_ 2 rfl
    exact ⟨fd, fun_ofD (st := st_fits_came) Fd, He.glo_ok KX G (c.t.d.fact 2 (f := .glo "fits_came") rfl)⟩
  d_fits_round := by
    obtain ⟨fd, Fd⟩ := c.t.d.def_ 3 rfl
    exact ⟨fd, fun_ofD (st := st_fits_round) Fd, He.glo_ok KX G (c.t.d.fact 3 (f := .glo "fits_round") rfl)⟩
  d_fits_since := by
    obtain ⟨fd, Fd⟩ := c.t.d.def_ 4 rfl
    exact ⟨fd, fun_ofD (st := st_fits_since) Fd, He.glo_ok KX G (c.t.d.fact 4 (f := .glo "fits_since") rfl)⟩
  d_is_note_of := by
    obtain ⟨fd, Fd⟩ := c.t.d.def_ 5 rfl
    exact ⟨fd, fun_ofD (st := st_is_note_of) Fd, He.glo_ok KX G (c.t.d.fact 5 (f := .glo "is_note_of") rfl)⟩
  d_need_walkers := by
    obtain ⟨fd, Fd⟩ := c.t.d.def_ 6 rfl
    exact ⟨fd, fun_ofD (st := st_need_walkers) Fd, He.glo_ok KX G (c.t.d.fact 6 (f := .glo "need_walkers") rfl)⟩
  d_most_in := by
    obtain ⟨fd, Fd⟩ := c.t.d.def_ 7 rfl
    exact ⟨fd, fun_ofD (st := st_most_in) Fd, He.glo_ok KX G (c.t.d.fact 7 (f := .glo "most_in") rfl)⟩
  d_are_notes := by
    obtain ⟨fd, Fd⟩ := c.t.d.def_ 8 rfl
    exact ⟨fd, fun_ofD (st := st_are_notes) Fd, He.glo_ok KX G (c.t.d.fact 8 (f := .glo "are_notes") rfl)⟩
  d_are_walkers := by
    obtain ⟨fd, Fd⟩ := c.t.d.def_ 9 rfl
    exact ⟨fd, fun_ofD (st := st_are_walkers) Fd, He.glo_ok KX G (c.t.d.fact 9 (f := .glo "are_walkers") rfl)⟩
  d_is_span := by
    obtain ⟨fd, Fd⟩ := c.t.d.def_ 10 rfl
    exact ⟨fd, fun_ofD (st := st_is_span) Fd, He.glo_ok KX G (c.t.d.fact 10 (f := .glo "is_span") rfl)⟩
  d_fits_free := by
    obtain ⟨fd, Fd⟩ := c.t.d.def_ 11 rfl
    exact ⟨fd, fun_ofD (st := st_fits_free) Fd, He.glo_ok KX G (c.t.d.fact 11 (f := .glo "fits_free") rfl)⟩
  d_fits_who := by
    obtain ⟨fd, Fd⟩ := c.t.d.def_ 12 rfl
    exact ⟨fd, fun_ofD (st := st_fits_who) Fd, He.glo_ok KX G (c.t.d.fact 12 (f := .glo "fits_who") rfl)⟩
  d_fits_note := by
    obtain ⟨fd, Fd⟩ := c.t.d.def_ 13 rfl
    exact ⟨fd, fun_ofD (st := st_fits_note) Fd, He.glo_ok KX G (c.t.d.fact 13 (f := .glo "fits_note") rfl)⟩
  d_fits_mine := by
    obtain ⟨fd, Fd⟩ := c.t.d.def_ 14 rfl
    exact ⟨fd, fun_ofD (st := st_fits_mine) Fd, He.glo_ok KX G (c.t.d.fact 14 (f := .glo "fits_mine") rfl)⟩
  d_fits_one := by
    obtain ⟨fd, Fd⟩ := c.t.d.def_ 15 rfl
    exact ⟨fd, fun_ofD (st := st_fits_one) Fd, He.glo_ok KX G (c.t.d.fact 15 (f := .glo "fits_one") rfl)⟩
  d_fits_two := by
    obtain ⟨fd, Fd⟩ := c.t.d.def_ 16 rfl
    exact ⟨fd, fun_ofD (st := st_fits_two) Fd, He.glo_ok KX G (c.t.d.fact 16 (f := .glo "fits_two") rfl)⟩
  d_is_rule_of := by
    obtain ⟨fd, Fd⟩ := c.t.d.def_ 17 rfl
    exact ⟨fd, fun_ofD (st := st_is_rule_of) Fd, He.glo_ok KX G (c.t.d.fact 17 (f := .glo "is_rule_of") rfl)⟩
  d_need_notes := by
    obtain ⟨fd, Fd⟩ := c.t.d.def_ 18 rfl
    exact ⟨fd, fun_ofD (st := st_need_notes) Fd, He.glo_ok KX G (c.t.d.fact 18 (f := .glo "need_notes") rfl)⟩
  d_need_rule := by
    obtain ⟨fd, Fd⟩ := c.t.d.def_ 19 rfl
    exact ⟨fd, fun_ofD (st := st_need_rule) Fd, He.glo_ok KX G (c.t.d.fact 19 (f := .glo "need_rule") rfl)⟩
  d_notes_asked := by
    obtain ⟨fd, Fd⟩ := c.t.d.def_ 20 rfl
    exact ⟨fd, fun_ofD (st := st_notes_asked) Fd, He.glo_ok KX G (c.t.d.fact 20 (f := .glo "notes_asked") rfl)⟩
  d_asks := by
    obtain ⟨fd, Fd⟩ := c.t.d.def_ 21 rfl
    exact ⟨fd, fun_ofD (st := st_asks) Fd, He.glo_ok KX G (c.t.d.fact 21 (f := .glo "asks") rfl)⟩
  d_lets := by
    obtain ⟨fd, Fd⟩ := c.t.d.def_ 22 rfl
    exact ⟨fd, fun_ofD (st := st_lets) Fd, He.glo_ok KX G (c.t.d.fact 22 (f := .glo "lets") rfl)⟩
  d_is_memory_of := by
    obtain ⟨fd, Fd⟩ := c.t.d.def_ 23 rfl
    exact ⟨fd, fun_ofD (st := st_is_memory_of) Fd, He.glo_ok KX G (c.t.d.fact 23 (f := .glo "is_memory_of") rfl)⟩
  d_lets_by := by
    obtain ⟨fd, Fd⟩ := c.t.d.def_ 24 rfl
    exact ⟨fd, fun_ofD (st := st_lets_by) Fd, He.glo_ok KX G (c.t.d.fact 24 (f := .glo "lets_by") rfl)⟩
  d__law_pot := by
    obtain ⟨fd, Fd⟩ := c.t.d.def_ 25 rfl
    exact ⟨fd, fun_ofD (st := st__law_pot) Fd, He.glo_ok KX G (c.t.d.fact 25 (f := .glo "_law_pot") rfl)⟩
  d__law_take := by
    obtain ⟨fd, Fd⟩ := c.t.d.def_ 26 rfl
    exact ⟨fd, fun_ofD (st := st__law_take) Fd, He.glo_ok KX G (c.t.d.fact 26 (f := .glo "_law_take") rfl)⟩
  d__law_folded := by
    obtain ⟨fd, Fd⟩ := c.t.d.def_ 27 rfl
    exact ⟨fd, fun_ofD (st := st__law_folded) Fd, He.glo_ok KX G (c.t.d.fact 27 (f := .glo "_law_folded") rfl)⟩
  d__law_note := by
    obtain ⟨fd, Fd⟩ := c.t.d.def_ 28 rfl
    exact ⟨fd, fun_ofD (st := st__law_note) Fd, He.glo_ok KX G (c.t.d.fact 28 (f := .glo "_law_note") rfl)⟩
  d__law_most := by
    obtain ⟨fd, Fd⟩ := c.t.d.def_ 29 rfl
    exact ⟨fd, fun_ofD (st := st__law_most) Fd, He.glo_ok KX G (c.t.d.fact 29 (f := .glo "_law_most") rfl)⟩
  d__law_rule := by
    obtain ⟨fd, Fd⟩ := c.t.d.def_ 30 rfl
    exact ⟨fd, fun_ofD (st := st__law_rule) Fd, He.glo_ok KX G (c.t.d.fact 30 (f := .glo "_law_rule") rfl)⟩
  d__law_lets := by
    obtain ⟨fd, Fd⟩ := c.t.d.def_ 31 rfl
    exact ⟨fd, fun_ofD (st := st__law_lets) Fd, He.glo_ok KX G (c.t.d.fact 31 (f := .glo "_law_lets") rfl)⟩
  d__law_memories := by
    obtain ⟨fd, Fd⟩ := c.t.d.def_ 32 rfl
    exact ⟨fd, fun_ofD (st := st__law_memories) Fd, He.glo_ok KX G (c.t.d.fact 32 (f := .glo "_law_memories") rfl)⟩
  d__law_otherwise := by
    obtain ⟨fd, Fd⟩ := c.t.d.def_ 33 rfl
    exact ⟨fd, fun_ofD (st := st__law_otherwise) Fd, He.glo_ok KX G (c.t.d.fact 33 (f := .glo "_law_otherwise") rfl)⟩
  d__law_rule_right := by
    obtain ⟨fd, Fd⟩ := c.t.d.def_ 34 rfl
    exact ⟨fd, fun_ofD (st := st__law_rule_right) Fd, He.glo_ok KX G (c.t.d.fact 34 (f := .glo "_law_rule_right") rfl)⟩
  d__law_word := by
    obtain ⟨fd, Fd⟩ := c.t.d.def_ 35 rfl
    exact ⟨fd, fun_ofD (st := st__law_word) Fd, He.glo_ok KX G (c.t.d.fact 35 (f := .glo "_law_word") rfl)⟩
  d__law_refused_right := by
    obtain ⟨fd, Fd⟩ := c.t.d.def_ 36 rfl
    exact ⟨fd, fun_ofD (st := st__law_refused_right) Fd, He.glo_ok KX G (c.t.d.fact 36 (f := .glo "_law_refused_right") rfl)⟩
  d_law := by
    obtain ⟨fd, Fd⟩ := c.t.d.def_ 37 rfl
    exact defAtL_of (g := gOf K) (n := 55) (st := st_law) Fd (He.glo_ok KX G (c.t.d.fact 37 (f := .glo "law") rfl)) rfl
  dl__law_refused_right := by
    obtain ⟨fd, Fd⟩ := c.t.d.def_ 36 rfl
    exact defAtL_of (g := gOf K) (n := 54) (st := st__law_refused_right) Fd (He.glo_ok KX G (c.t.d.fact 36 (f := .glo "_law_refused_right") rfl)) rfl
  tabB__law_refused_right := hTB _ (List.mem_map_of_mem (f := He.cT K) (List.mem_of_getElem? (show hosts[1]? = some (((("_law_refused_right" : Str), none)) : He.Defn) from rfl)))
  hmT__law_refused_right := List.mem_of_getElem? (show (gOf K).T[0]? = some (PtF K 1, q__law_refused_right) from rfl)
  huT__law_refused_right := fun p hp e => by
    obtain ⟨k, hk⟩ := List.getElem?_of_mem hp
    match k, hk with
    | 0, hk => cases hk; rfl
    | k + 1, hk => simp at hk
end
end DL
end

section
set_option Elab.async false
set_option linter.all false
set_option maxRecDepth 100000
set_option maxHeartbeats 0
open PySem PySem.W PySem.Calls PyProof.Rows
theorem law_head (pure_law : ∀ ns : List Int, ns.length ≤ 63 → (∀ z ∈ ns, PySem.Builtin.Int.intBits z ≤ 1048576) → DL.F_law [.v (.lst (ns.map .int))] = .ok (.v (.bl true)) []) : PySem.Challenge.rw_whocame_k04_rules_let_by.Holds := by
  w_on; o_law
  refine HandSHeadRun.head_any (r := OpenLaw.row PySem.Challenge.rw_whocame_k04_rules_let_by) (q := view (OpenLaw.row PySem.Challenge.rw_whocame_k04_rules_let_by).prog [55]) (H := DL.hk) (ob := DL.ob) (M := 40000) (loose := DL.loose) (d := HandSHeadRun.topDef (OpenLaw.row PySem.Challenge.rw_whocame_k04_rules_let_by).prog 55) (kwd := []) DL.ob_eq
    (by kernel_rfl) (fun s => by kernel_rfl) DL.run (by kernel_rfl) (by kernel_rfl) (by kernel_rfl) (by rfl) (by first | assumption | decide +kernel) (by decide +kernel) ⟨rfl, rfl, rfl, rfl, rfl, by decide +kernel⟩ ?hw ?hc
  case hw => w_witness2
  case hc =>
    refine DX.walk_ofG (l := PySem.Challenge.rw_whocame_k04_rules_let_by) (n := 63) (k := 26) (x := "_law_script") rfl (by decide) (by kernel_rfl) ⟨rfl, by decide, by decide⟩ ?F
    intro w mg fa h Y G hmg0
    obtain ⟨K, KX, c⟩ := Y
    have hmg : mg ("law" : PySem.Str) = some (.ref fa) := by
      have e : (HandSHeadRun.topDef (OpenLaw.row PySem.Challenge.rw_whocame_k04_rules_let_by).prog 55).name = ("law" : PySem.Str) := by kernel_rfl
      rw [← e]
      exact hmg0
    have hga : mg ("law" : PySem.Str) = some (.ref ((DL.gOf K).fnA 55)) := He.glo_ok KX G (c.t.d.fact 37 (f := .glo "law") rfl)
    rw [hmg] at hga
    cases hga
    obtain ⟨fd, Fd⟩ := c.t.d.def_ 37 rfl
    obtain ⟨oc, od, dV, kV, doc, pm, an, cdv, ct, osl, efd, lk, _, _, _⟩ := Fd.ex
    have key : ∀ base : Heap, (∀ p ∈ DL.hosts.map (He.cT K), LamX.TabB base mg p.1 p.2) → _ := fun base hTB => DL.law_ok (Pr := (PySem.Challenge.rw_whocame_k04_rules_let_by).prog) (w := w) (base := base) (DL.facts_of KX G c hTB) fd oc od osl lk
    refine ⟨K, KX, fd, DL.hosts.map (He.cT K), _, fun p hp => ?_, fun p hp => ?_, fun p hp => ?_, fun s u => ?_, fun H a ns hl hz hH hS => DL.spec_of hS ?_ (pure_law ns hl hz), fun base hKb hns hTB => (key base hTB).1⟩
    · obtain ⟨z, hz, rfl⟩ := List.mem_map.mp hp; exact c.empty z hz
    · obtain ⟨z, hz, rfl⟩ := List.mem_map.mp hp; exact c.out z hz
    · obtain ⟨z, hz, rfl⟩ := List.mem_map.mp hp; exact PySem.W.codeHd_of_K KX (c.hd z hz)
    · exact (L2.FunD.bindsA (ps := [("_law_script" : PySem.Str)]) Fd fun _ _ _ _ _ _ us hl => match us, hl with | [_], _ => rfl) s [u] rfl
    · intro p hp
      obtain ⟨k, hk⟩ := List.getElem?_of_mem hp
      match k, hk with
      | 0, hk => cases hk; exact LamX.TabS.nil (hH _ (List.mem_map_of_mem (f := He.cT K) (List.mem_of_getElem? (show DL.hosts[1]? = some ((("_law_refused_right" : Str), none) : He.Defn) from rfl))))
      | k + 1, hk => simp at hk
end

section
set_option Elab.async false
set_option linter.all false
set_option maxRecDepth 100000
namespace DL
open PySem PySem.Spec PyProof.Rows L2

@[simp] theorem sNx_ap (e : Env) : sNx e = .nx e := rfl
@[simp] theorem dNil_ap (e : Env) : dNil e = .ok [] e := rfl
@[simp] theorem pNo_ap (e : Env) : pNo e = .ok none e := rfl
@[simp] theorem bTrue_ap (e : Env) : bTrue e = .ok true e := rfl
@[simp] theorem dEmp_ap (e : Env) : dEmp e = .ok (.dct [] []) e := rfl
@[simp] theorem dCall_ap (F : List Slot → RF) (sh : List (Option Nat)) (fa : Env → R (List D)) (e : Env) : dCall F sh fa e = callF F sh fa kD e := rfl
@[simp] theorem mCall_ap (F : List Slot → RF) (sh : List (Option Nat)) (fa : Env → R (List D)) (e : Env) : mCall F sh fa e = callF F sh fa kM e := rfl
@[simp] theorem gtN_ap (i : Nat) (d : D) (e : Env) : gtN i d e = some (e.set i (some (.v d))) := rfl
@[simp] theorem dVar_ap (i : Nat) (e : Env) : dVar i e = (match e[i]? with
  | some (some (.v d)) => .ok d e
  | _ => .bad) := rfl
@[simp] theorem dFrz_ap (i : Nat) (e : Env) : dFrz i e = (match e[i]? with
  | some (some (.m ds)) => .ok (.lst ds) (e.set i (some (.v (.lst ds))))
  | _ => .bad) := rfl
@[simp] theorem dC_ap (d : D) (e : Env) : dC d e = (.ok d e) := rfl
def c1_dUn (F : D → Option D) (a : D) (e1 : Env) : R D := opt (F a) e1
@[simp] theorem c1_dUn_ap (F : D → Option D) (a : D) (e1 : Env) : c1_dUn F a e1 = (opt (F a) e1) := rfl
@[simp] theorem dUn_ap (F : D → Option D) (fa : Env → R D) (e : Env) : dUn F fa e = (bnd (fa e) (c1_dUn F)) := rfl
def c2_dBin (F : D → D → Option D) (a : D) (b : D) (e2 : Env) : R D := opt (F a b) e2
@[simp] theorem c2_dBin_ap (F : D → D → Option D) (a : D) (b : D) (e2 : Env) : c2_dBin F a b e2 = (opt (F a b) e2) := rfl
def c1_dBin (F : D → D → Option D) (fb : Env → R D) (a : D) (e1 : Env) : R D := bnd (fb e1) (c2_dBin F a)
@[simp] theorem c1_dBin_ap (F : D → D → Option D) (fb : Env → R D) (a : D) (e1 : Env) : c1_dBin F fb a e1 = (bnd (fb e1) (c2_dBin F a)) := rfl
@[simp] theorem dBin_ap (F : D → D → Option D) (fa fb : Env → R D) (e : Env) : dBin F fa fb e = (bnd (fa e) (c1_dBin F fb)) := rfl
def c1_dCal (F : List D → Option D) (as : (List D)) (e1 : Env) : R D := opt (F as) e1
@[simp] theorem c1_dCal_ap (F : List D → Option D) (as : (List D)) (e1 : Env) : c1_dCal F as e1 = (opt (F as) e1) := rfl
@[simp] theorem dCal_ap (F : List D → Option D) (fs : Env → R (List D)) (e : Env) : dCal F fs e = (bnd (fs e) (c1_dCal F)) := rfl
def c1_dTest  (d : D) (e1 : Env) : R Bool := opt (asB d) e1
@[simp] theorem c1_dTest_ap  (d : D) (e1 : Env) : c1_dTest d e1 = (opt (asB d) e1) := rfl
@[simp] theorem dTest_ap (f : Env → R D) (e : Env) : dTest f e = (bnd (f e) (c1_dTest)) := rfl
def c3_dChain (F : D → D → Option D) (F' : D → D → Option D) (fc : Env → R D) (y : D) (k : Bool) (e2 : Env) : R D := if k = true then bnd (fc e2) fun z e3 => opt (F' y z) e3 else .ok (.bl false) e2
@[simp] theorem c3_dChain_ap (F : D → D → Option D) (F' : D → D → Option D) (fc : Env → R D) (y : D) (k : Bool) (e2 : Env) : c3_dChain F F' fc y k e2 = (if k = true then bnd (fc e2) fun z e3 => opt (F' y z) e3 else .ok (.bl false) e2) := rfl
def c2_dChain (F : D → D → Option D) (F' : D → D → Option D) (fc : Env → R D) (x : D) (y : D) (e2 : Env) : R D := bnd (opt ((F x y).bind asB) e2) (c3_dChain F F' fc y)
@[simp] theorem c2_dChain_ap (F : D → D → Option D) (F' : D → D → Option D) (fc : Env → R D) (x : D) (y : D) (e2 : Env) : c2_dChain F F' fc x y e2 = (bnd (opt ((F x y).bind asB) e2) (c3_dChain F F' fc y)) := rfl
def c1_dChain (F : D → D → Option D) (F' : D → D → Option D) (fb : Env → R D) (fc : Env → R D) (x : D) (e1 : Env) : R D := bnd (fb e1) (c2_dChain F F' fc x)
@[simp] theorem c1_dChain_ap (F : D → D → Option D) (F' : D → D → Option D) (fb : Env → R D) (fc : Env → R D) (x : D) (e1 : Env) : c1_dChain F F' fb fc x e1 = (bnd (fb e1) (c2_dChain F F' fc x)) := rfl
@[simp] theorem dChain_ap (F F' : D → D → Option D) (fa fb fc : Env → R D) (e : Env) : dChain F F' fa fb fc e = (bnd (fa e) (c1_dChain F F' fb fc)) := rfl
def c1_dAnd (fb : Env → R D) (k : Bool) (e1 : Env) : R D := if k = true then fb e1 else .ok (.bl false) e1
@[simp] theorem c1_dAnd_ap (fb : Env → R D) (k : Bool) (e1 : Env) : c1_dAnd fb k e1 = (if k = true then fb e1 else .ok (.bl false) e1) := rfl
@[simp] theorem dAnd_ap (fa fb : Env → R D) (e : Env) : dAnd fa fb e = (bnd (dTest fa e) (c1_dAnd fb)) := rfl
def c1_dOr (fb : Env → R D) (k : Bool) (e1 : Env) : R D := if k = true then .ok (.bl true) e1 else fb e1
@[simp] theorem c1_dOr_ap (fb : Env → R D) (k : Bool) (e1 : Env) : c1_dOr fb k e1 = (if k = true then .ok (.bl true) e1 else fb e1) := rfl
@[simp] theorem dOr_ap (fa fb : Env → R D) (e : Env) : dOr fa fb e = (bnd (dTest fa e) (c1_dOr fb)) := rfl
def c1_dNot  (k : Bool) (e1 : Env) : R D := .ok (.bl (!k)) e1
@[simp] theorem c1_dNot_ap  (k : Bool) (e1 : Env) : c1_dNot k e1 = (.ok (.bl (!k)) e1) := rfl
@[simp] theorem dNot_ap (fa : Env → R D) (e : Env) : dNot fa e = (bnd (dTest fa e) (c1_dNot)) := rfl
def c1_bAnd (fb : Env → R Bool) (k : Bool) (e1 : Env) : R Bool := if k = true then fb e1 else .ok false e1
@[simp] theorem c1_bAnd_ap (fb : Env → R Bool) (k : Bool) (e1 : Env) : c1_bAnd fb k e1 = (if k = true then fb e1 else .ok false e1) := rfl
@[simp] theorem bAnd_ap (fa fb : Env → R Bool) (e : Env) : bAnd fa fb e = (bnd (fa e) (c1_bAnd fb)) := rfl
def c1_bOr (fb : Env → R Bool) (k : Bool) (e1 : Env) : R Bool := if k = true then .ok true e1 else fb e1
@[simp] theorem c1_bOr_ap (fb : Env → R Bool) (k : Bool) (e1 : Env) : c1_bOr fb k e1 = (if k = true then .ok true e1 else fb e1) := rfl
@[simp] theorem bOr_ap (fa fb : Env → R Bool) (e : Env) : bOr fa fb e = (bnd (fa e) (c1_bOr fb)) := rfl
def c1_bNot  (k : Bool) (e1 : Env) : R Bool := .ok (!k) e1
@[simp] theorem c1_bNot_ap  (k : Bool) (e1 : Env) : c1_bNot k e1 = (.ok (!k) e1) := rfl
@[simp] theorem bNot_ap (fa : Env → R Bool) (e : Env) : bNot fa e = (bnd (fa e) (c1_bNot)) := rfl
def c1_dIf (fa : Env → R D) (fb : Env → R D) (k : Bool) (e1 : Env) : R D := if k = true then fa e1 else fb e1
@[simp] theorem c1_dIf_ap (fa : Env → R D) (fb : Env → R D) (k : Bool) (e1 : Env) : c1_dIf fa fb k e1 = (if k = true then fa e1 else fb e1) := rfl
@[simp] theorem dIf_ap (ft : Env → R Bool) (fa fb : Env → R D) (e : Env) : dIf ft fa fb e = (bnd (ft e) (c1_dIf fa fb)) := rfl
def c1_dTruth  (d : D) (e1 : Env) : R Bool := opt (truthD d) e1
@[simp] theorem c1_dTruth_ap  (d : D) (e1 : Env) : c1_dTruth d e1 = (opt (truthD d) e1) := rfl
@[simp] theorem dTruth_ap (f : Env → R D) (e : Env) : dTruth f e = (bnd (f e) (c1_dTruth)) := rfl
def c2_dCons (d : D) (ds : (List D)) (e2 : Env) : R (List D) := .ok (d :: ds) e2
@[simp] theorem c2_dCons_ap (d : D) (ds : (List D)) (e2 : Env) : c2_dCons d ds e2 = (.ok (d :: ds) e2) := rfl
def c1_dCons (fs : Env → R (List D)) (d : D) (e1 : Env) : R (List D) := bnd (fs e1) (c2_dCons d)
@[simp] theorem c1_dCons_ap (fs : Env → R (List D)) (d : D) (e1 : Env) : c1_dCons fs d e1 = (bnd (fs e1) (c2_dCons d)) := rfl
@[simp] theorem dCons_ap (fa : Env → R D) (fs : Env → R (List D)) (e : Env) : dCons fa fs e = (bnd (fa e) (c1_dCons fs)) := rfl
def c1_dTup  (ds : (List D)) (e1 : Env) : R D := if ds.length ≤ 1000 then .ok (.tup ds) e1 else .bad
@[simp] theorem c1_dTup_ap  (ds : (List D)) (e1 : Env) : c1_dTup ds e1 = (if ds.length ≤ 1000 then .ok (.tup ds) e1 else .bad) := rfl
@[simp] theorem dTup_ap (fs : Env → R (List D)) (e : Env) : dTup fs e = (bnd (fs e) (c1_dTup)) := rfl
def c1_mLst  (ds : (List D)) (e1 : Env) : R (List D) := if ds.length ≤ 1000 then .ok ds e1 else .bad
@[simp] theorem c1_mLst_ap  (ds : (List D)) (e1 : Env) : c1_mLst ds e1 = (if ds.length ≤ 1000 then .ok ds e1 else .bad) := rfl
@[simp] theorem mLst_ap (fs : Env → R (List D)) (e : Env) : mLst fs e = (bnd (fs e) (c1_mLst)) := rfl
def c1_dM  (ds : (List D)) (e1 : Env) : R D := .ok (.lst ds) e1
@[simp] theorem c1_dM_ap  (ds : (List D)) (e1 : Env) : c1_dM ds e1 = (.ok (.lst ds) e1) := rfl
@[simp] theorem dM_ap (f : Env → R (List D)) (e : Env) : dM f e = (bnd (f e) (c1_dM)) := rfl
@[simp] theorem sSeq_ap (a b : Env → RS) (e : Env) : sSeq a b e = (sq (a e) b) := rfl
def c1_sIf (a : Env → RS) (b : Env → RS) (k : Bool) (e1 : Env) : RS := if k = true then a e1 else b e1
@[simp] theorem c1_sIf_ap (a : Env → RS) (b : Env → RS) (k : Bool) (e1 : Env) : c1_sIf a b k e1 = (if k = true then a e1 else b e1) := rfl
@[simp] theorem sIf_ap (t : Env → R Bool) (a b : Env → RS) (e : Env) : sIf t a b e = (sB (t e) (c1_sIf a b)) := rfl
def c1_sRet  (d : D) (e1 : Env) : RS := .rt (.v d) e1
@[simp] theorem c1_sRet_ap  (d : D) (e1 : Env) : c1_sRet d e1 = (.rt (.v d) e1) := rfl
@[simp] theorem sRet_ap (f : Env → R D) (e : Env) : sRet f e = (sB (f e) (c1_sRet)) := rfl
def c1_sRetM  (ds : (List D)) (e1 : Env) : RS := .rt (.m ds) e1
@[simp] theorem c1_sRetM_ap  (ds : (List D)) (e1 : Env) : c1_sRetM ds e1 = (.rt (.m ds) e1) := rfl
@[simp] theorem sRetM_ap (f : Env → R (List D)) (e : Env) : sRetM f e = (sB (f e) (c1_sRetM)) := rfl
def c1_sEx  (z_ : D) (e1 : Env) : RS := .nx e1
@[simp] theorem c1_sEx_ap  (z_ : D) (e1 : Env) : c1_sEx z_ e1 = (.nx e1) := rfl
@[simp] theorem sEx_ap (f : Env → R D) (e : Env) : sEx f e = (sB (f e) (c1_sEx)) := rfl
def c1_sAsg (t : D → Env → Option Env) (d : D) (e1 : Env) : RS := sO (t d e1) fun e2 => .nx e2
@[simp] theorem c1_sAsg_ap (t : D → Env → Option Env) (d : D) (e1 : Env) : c1_sAsg t d e1 = (sO (t d e1) fun e2 => .nx e2) := rfl
@[simp] theorem sAsg_ap (fe : Env → R D) (t : D → Env → Option Env) (e : Env) : sAsg fe t e = (sB (fe e) (c1_sAsg t)) := rfl
def c1_sAsgM (i : Nat) (ds : (List D)) (e1 : Env) : RS := .nx (e1.set i (some (.m ds)))
@[simp] theorem c1_sAsgM_ap (i : Nat) (ds : (List D)) (e1 : Env) : c1_sAsgM i ds e1 = (.nx (e1.set i (some (.m ds)))) := rfl
@[simp] theorem sAsgM_ap (i : Nat) (fm : Env → R (List D)) (e : Env) : sAsgM i fm e = (sB (fm e) (c1_sAsgM i)) := rfl
def c3_dIxM (k : D) (ds : List D) (e1 : Env) : R D := opt (ixD (.lst ds) k) e1
@[simp] theorem c3_dIxM_ap (k : D) (ds : List D) (e1 : Env) : c3_dIxM k ds e1 = (opt (ixD (.lst ds) k) e1) := rfl
def c2_dIxM (i : Nat) (k : D) (e1 : Env) : R D := bnd (opt (mAt e1 i) e1) (c3_dIxM k)
@[simp] theorem c2_dIxM_ap (i : Nat) (k : D) (e1 : Env) : c2_dIxM i k e1 = (bnd (opt (mAt e1 i) e1) (c3_dIxM k)) := rfl
def c1_dIxM (i : Nat) (fi : Env → R D) (z_ : List D) (e : Env) : R D := bnd (fi e) (c2_dIxM i)
@[simp] theorem c1_dIxM_ap (i : Nat) (fi : Env → R D) (z_ : List D) (e : Env) : c1_dIxM i fi z_ e = (bnd (fi e) (c2_dIxM i)) := rfl
@[simp] theorem dIxM_ap (i : Nat) (fi : Env → R D) (e : Env) : dIxM i fi e = (bnd (opt (mAt e i) e) (c1_dIxM i fi)) := rfl
def c1_dLenM  (ds : List D) (e : Env) : R D := .ok (.int ds.length) e
@[simp] theorem c1_dLenM_ap  (ds : List D) (e : Env) : c1_dLenM ds e = (.ok (.int ds.length) e) := rfl
@[simp] theorem dLenM_ap (i : Nat) (e : Env) : dLenM i e = (bnd (opt (mAt e i) e) (c1_dLenM)) := rfl
def c1_dTupM  (ds : List D) (e : Env) : R D := .ok (.tup ds) e
@[simp] theorem c1_dTupM_ap  (ds : List D) (e : Env) : c1_dTupM ds e = (.ok (.tup ds) e) := rfl
@[simp] theorem dTupM_ap (i : Nat) (e : Env) : dTupM i e = (bnd (opt (mAt e i) e) (c1_dTupM)) := rfl
def c4_sSetM (i : Nat) (d : D) (k : D) (ds : List D) (e2 : Env) : RS := match k with
  | .int n => sO (ixN ds.length n) fun j => .nx (e2.set i (some (.m (ds.set j d))))
  | _ => .bad
@[simp] theorem c4_sSetM_ap (i : Nat) (d : D) (k : D) (ds : List D) (e2 : Env) : c4_sSetM i d k ds e2 = (match k with
  | .int n => sO (ixN ds.length n) fun j => .nx (e2.set i (some (.m (ds.set j d))))
  | _ => .bad) := rfl
def c3_sSetM (i : Nat) (d : D) (k : D) (e2 : Env) : RS := sB (opt (mAt e2 i) e2) (c4_sSetM i d k)
@[simp] theorem c3_sSetM_ap (i : Nat) (d : D) (k : D) (e2 : Env) : c3_sSetM i d k e2 = (sB (opt (mAt e2 i) e2) (c4_sSetM i d k)) := rfl
def c2_sSetM (i : Nat) (fi : Env → R D) (d : D) (z_ : List D) (e1 : Env) : RS := sB (fi e1) (c3_sSetM i d)
@[simp] theorem c2_sSetM_ap (i : Nat) (fi : Env → R D) (d : D) (z_ : List D) (e1 : Env) : c2_sSetM i fi d z_ e1 = (sB (fi e1) (c3_sSetM i d)) := rfl
def c1_sSetM (i : Nat) (fi : Env → R D) (d : D) (e1 : Env) : RS := sB (opt (mAt e1 i) e1) (c2_sSetM i fi d)
@[simp] theorem c1_sSetM_ap (i : Nat) (fi : Env → R D) (d : D) (e1 : Env) : c1_sSetM i fi d e1 = (sB (opt (mAt e1 i) e1) (c2_sSetM i fi d)) := rfl
@[simp] theorem sSetM_ap (i : Nat) (fi fv : Env → R D) (e : Env) : sSetM i fi fv e = (sB (fv e) (c1_sSetM i fi)) := rfl
def c3_sApp (i : Nat) (d : D) (ds : List D) (e1 : Env) : RS := if ds.length < 16777216 then .nx (e1.set i (some (.m (ds ++ [d])))) else .bad
@[simp] theorem c3_sApp_ap (i : Nat) (d : D) (ds : List D) (e1 : Env) : c3_sApp i d ds e1 = (if ds.length < 16777216 then .nx (e1.set i (some (.m (ds ++ [d])))) else .bad) := rfl
def c2_sApp (i : Nat) (d : D) (e1 : Env) : RS := sB (opt (mAt e1 i) e1) (c3_sApp i d)
@[simp] theorem c2_sApp_ap (i : Nat) (d : D) (e1 : Env) : c2_sApp i d e1 = (sB (opt (mAt e1 i) e1) (c3_sApp i d)) := rfl
def c1_sApp (i : Nat) (fv : Env → R D) (z_ : List D) (e : Env) : RS := sB (fv e) (c2_sApp i)
@[simp] theorem c1_sApp_ap (i : Nat) (fv : Env → R D) (z_ : List D) (e : Env) : c1_sApp i fv z_ e = (sB (fv e) (c2_sApp i)) := rfl
@[simp] theorem sApp_ap (i : Nat) (fv : Env → R D) (e : Env) : sApp i fv e = (sB (opt (mAt e i) e) (c1_sApp i fv)) := rfl
def c1_mList  (d : D) (e1 : Env) : R (List D) := match d with
  | .tup ds => .ok ds e1
  | .lst ds => .ok ds e1
  | _ => .bad
@[simp] theorem c1_mList_ap  (d : D) (e1 : Env) : c1_mList d e1 = (match d with
  | .tup ds => .ok ds e1
  | .lst ds => .ok ds e1
  | _ => .bad) := rfl
@[simp] theorem mList_ap (f : Env → R D) (e : Env) : mList f e = (bnd (f e) (c1_mList)) := rfl
def c2_pSome  (i : Int) (e1 : Env) : R (Option Int) := .ok (some i) e1
@[simp] theorem c2_pSome_ap  (i : Int) (e1 : Env) : c2_pSome i e1 = (.ok (some i) e1) := rfl
def c1_pSome  (d : D) (e1 : Env) : R (Option Int) := bnd (opt (asI d) e1) (c2_pSome)
@[simp] theorem c1_pSome_ap  (d : D) (e1 : Env) : c1_pSome d e1 = (bnd (opt (asI d) e1) (c2_pSome)) := rfl
@[simp] theorem pSome_ap (f : Env → R D) (e : Env) : pSome f e = (bnd (f e) (c1_pSome)) := rfl
def c3_dSlT (d : D) (l : (Option Int)) (h : (Option Int)) (e3 : Env) : R D := match d with
  | .tup ds => .ok (.tup (cutD ds l h)) e3
  | _ => .bad
@[simp] theorem c3_dSlT_ap (d : D) (l : (Option Int)) (h : (Option Int)) (e3 : Env) : c3_dSlT d l h e3 = (match d with
  | .tup ds => .ok (.tup (cutD ds l h)) e3
  | _ => .bad) := rfl
def c2_dSlT (hi : Env → R (Option Int)) (d : D) (l : (Option Int)) (e2 : Env) : R D := bnd (hi e2) (c3_dSlT d l)
@[simp] theorem c2_dSlT_ap (hi : Env → R (Option Int)) (d : D) (l : (Option Int)) (e2 : Env) : c2_dSlT hi d l e2 = (bnd (hi e2) (c3_dSlT d l)) := rfl
def c1_dSlT (lo : Env → R (Option Int)) (hi : Env → R (Option Int)) (d : D) (e1 : Env) : R D := bnd (lo e1) (c2_dSlT hi d)
@[simp] theorem c1_dSlT_ap (lo : Env → R (Option Int)) (hi : Env → R (Option Int)) (d : D) (e1 : Env) : c1_dSlT lo hi d e1 = (bnd (lo e1) (c2_dSlT hi d)) := rfl
@[simp] theorem dSlT_ap (f : Env → R D) (lo hi : Env → R (Option Int)) (e : Env) : dSlT f lo hi e = (bnd (f e) (c1_dSlT lo hi)) := rfl
def c3_mSlL (d : D) (l : (Option Int)) (h : (Option Int)) (e3 : Env) : R (List D) := match d with
  | .lst ds => .ok (cutD ds l h) e3
  | _ => .bad
@[simp] theorem c3_mSlL_ap (d : D) (l : (Option Int)) (h : (Option Int)) (e3 : Env) : c3_mSlL d l h e3 = (match d with
  | .lst ds => .ok (cutD ds l h) e3
  | _ => .bad) := rfl
def c2_mSlL (hi : Env → R (Option Int)) (d : D) (l : (Option Int)) (e2 : Env) : R (List D) := bnd (hi e2) (c3_mSlL d l)
@[simp] theorem c2_mSlL_ap (hi : Env → R (Option Int)) (d : D) (l : (Option Int)) (e2 : Env) : c2_mSlL hi d l e2 = (bnd (hi e2) (c3_mSlL d l)) := rfl
def c1_mSlL (lo : Env → R (Option Int)) (hi : Env → R (Option Int)) (d : D) (e1 : Env) : R (List D) := bnd (lo e1) (c2_mSlL hi d)
@[simp] theorem c1_mSlL_ap (lo : Env → R (Option Int)) (hi : Env → R (Option Int)) (d : D) (e1 : Env) : c1_mSlL lo hi d e1 = (bnd (lo e1) (c2_mSlL hi d)) := rfl
@[simp] theorem mSlL_ap (f : Env → R D) (lo hi : Env → R (Option Int)) (e : Env) : mSlL f lo hi e = (bnd (f e) (c1_mSlL lo hi)) := rfl
def c2_mCat (a : D) (b : D) (e2 : Env) : R (List D) := match a, b with
  | .lst xs, .lst ys => if xs.length + ys.length ≤ 16777216 then .ok (xs ++ ys) e2 else .bad
  | _, _ => .bad
@[simp] theorem c2_mCat_ap (a : D) (b : D) (e2 : Env) : c2_mCat a b e2 = (match a, b with
  | .lst xs, .lst ys => if xs.length + ys.length ≤ 16777216 then .ok (xs ++ ys) e2 else .bad
  | _, _ => .bad) := rfl
def c1_mCat (fb : Env → R D) (a : D) (e1 : Env) : R (List D) := bnd (fb e1) (c2_mCat a)
@[simp] theorem c1_mCat_ap (fb : Env → R D) (a : D) (e1 : Env) : c1_mCat fb a e1 = (bnd (fb e1) (c2_mCat a)) := rfl
@[simp] theorem mCat_ap (fa fb : Env → R D) (e : Env) : mCat fa fb e = (bnd (fa e) (c1_mCat fb)) := rfl
def c1_iItems1  (d : D) (e1 : Env) : R (List D) := opt (itemsD d) e1
@[simp] theorem c1_iItems1_ap  (d : D) (e1 : Env) : c1_iItems1 d e1 = (opt (itemsD d) e1) := rfl
@[simp] theorem iItems1_ap (f : Env → R D) (e : Env) : iItems1 f e = (bnd (f e) (c1_iItems1)) := rfl
def c2_iRange1  (j : Int) (e1 : Env) : R (List D) := if wide62 j then .ok (rangeL 0 j.toNat) e1 else .bad
@[simp] theorem c2_iRange1_ap  (j : Int) (e1 : Env) : c2_iRange1 j e1 = (if wide62 j then .ok (rangeL 0 j.toNat) e1 else .bad) := rfl
def c1_iRange1  (d : D) (e1 : Env) : R (List D) := bnd (opt (asI d) e1) (c2_iRange1)
@[simp] theorem c1_iRange1_ap  (d : D) (e1 : Env) : c1_iRange1 d e1 = (bnd (opt (asI d) e1) (c2_iRange1)) := rfl
@[simp] theorem iRange1_ap (f : Env → R D) (e : Env) : iRange1 f e = (bnd (f e) (c1_iRange1)) := rfl
def c4_iRange2 (i : Int) (j : Int) (e2 : Env) : R (List D) := if wide62 i && wide62 j then .ok (rangeL i (j - i).toNat) e2 else .bad
@[simp] theorem c4_iRange2_ap (i : Int) (j : Int) (e2 : Env) : c4_iRange2 i j e2 = (if wide62 i && wide62 j then .ok (rangeL i (j - i).toNat) e2 else .bad) := rfl
def c3_iRange2 (b : D) (i : Int) (e2 : Env) : R (List D) := bnd (opt (asI b) e2) (c4_iRange2 i)
@[simp] theorem c3_iRange2_ap (b : D) (i : Int) (e2 : Env) : c3_iRange2 b i e2 = (bnd (opt (asI b) e2) (c4_iRange2 i)) := rfl
def c2_iRange2 (a : D) (b : D) (e2 : Env) : R (List D) := bnd (opt (asI a) e2) (c3_iRange2 b)
@[simp] theorem c2_iRange2_ap (a : D) (b : D) (e2 : Env) : c2_iRange2 a b e2 = (bnd (opt (asI a) e2) (c3_iRange2 b)) := rfl
def c1_iRange2 (fb : Env → R D) (a : D) (e1 : Env) : R (List D) := bnd (fb e1) (c2_iRange2 a)
@[simp] theorem c1_iRange2_ap (fb : Env → R D) (a : D) (e1 : Env) : c1_iRange2 fb a e1 = (bnd (fb e1) (c2_iRange2 a)) := rfl
@[simp] theorem iRange2_ap (fa fb : Env → R D) (e : Env) : iRange2 fa fb e = (bnd (fa e) (c1_iRange2 fb)) := rfl
def c1_dMk (fs : Env → R (List D)) (z_ : List D) (e1 : Env) : R (List D) := fs e1
@[simp] theorem c1_dMk_ap (fs : Env → R (List D)) (z_ : List D) (e1 : Env) : c1_dMk fs z_ e1 = (fs e1) := rfl
@[simp] theorem dMk_ap (i : Nat) (fs : Env → R (List D)) (e : Env) : dMk i fs e = (bnd (opt (mAt e i) e) (c1_dMk fs)) := rfl
def c3_dSl (d : D) (l : (Option Int)) (h : (Option Int)) (e3 : Env) : R D := opt (slD d l h) e3
@[simp] theorem c3_dSl_ap (d : D) (l : (Option Int)) (h : (Option Int)) (e3 : Env) : c3_dSl d l h e3 = (opt (slD d l h) e3) := rfl
def c2_dSl (hi : Env → R (Option Int)) (d : D) (l : (Option Int)) (e2 : Env) : R D := bnd (hi e2) (c3_dSl d l)
@[simp] theorem c2_dSl_ap (hi : Env → R (Option Int)) (d : D) (l : (Option Int)) (e2 : Env) : c2_dSl hi d l e2 = (bnd (hi e2) (c3_dSl d l)) := rfl
def c1_dSl (lo : Env → R (Option Int)) (hi : Env → R (Option Int)) (d : D) (e1 : Env) : R D := bnd (lo e1) (c2_dSl hi d)
@[simp] theorem c1_dSl_ap (lo : Env → R (Option Int)) (hi : Env → R (Option Int)) (d : D) (e1 : Env) : c1_dSl lo hi d e1 = (bnd (lo e1) (c2_dSl hi d)) := rfl
@[simp] theorem dSl_ap (f : Env → R D) (lo hi : Env → R (Option Int)) (e : Env) : dSl f lo hi e = (bnd (f e) (c1_dSl lo hi)) := rfl
def c1_dDisp (ks : List Key) (ds : (List D)) (e1 : Env) : R D := if ds.length = ks.length then .ok (.dct ks ds) e1 else .bad
@[simp] theorem c1_dDisp_ap (ks : List Key) (ds : (List D)) (e1 : Env) : c1_dDisp ks ds e1 = (if ds.length = ks.length then .ok (.dct ks ds) e1 else .bad) := rfl
@[simp] theorem dDisp_ap (ks : List Key) (f : Env → R (List D)) (e : Env) : dDisp ks f e = (bnd (f e) (c1_dDisp ks)) := rfl
def c4_dGet2 (a : D) (b : D) (c : D) (e3 : Env) : R D := opt (getD2 a b c) e3
@[simp] theorem c4_dGet2_ap (a : D) (b : D) (c : D) (e3 : Env) : c4_dGet2 a b c e3 = (opt (getD2 a b c) e3) := rfl
def c3_dGet2 (fc : Env → R D) (a : D) (b : D) (e2 : Env) : R D := bnd (fc e2) (c4_dGet2 a b)
@[simp] theorem c3_dGet2_ap (fc : Env → R D) (a : D) (b : D) (e2 : Env) : c3_dGet2 fc a b e2 = (bnd (fc e2) (c4_dGet2 a b)) := rfl
def c2_dGet2 (fb : Env → R D) (fc : Env → R D) (a : D) (z_ : Unit) (e1 : Env) : R D := bnd (fb e1) (c3_dGet2 fc a)
@[simp] theorem c2_dGet2_ap (fb : Env → R D) (fc : Env → R D) (a : D) (z_ : Unit) (e1 : Env) : c2_dGet2 fb fc a z_ e1 = (bnd (fb e1) (c3_dGet2 fc a)) := rfl
def c1_dGet2 (fb : Env → R D) (fc : Env → R D) (a : D) (e1 : Env) : R D := bnd (opt (isDct a) e1) (c2_dGet2 fb fc a)
@[simp] theorem c1_dGet2_ap (fb : Env → R D) (fc : Env → R D) (a : D) (e1 : Env) : c1_dGet2 fb fc a e1 = (bnd (opt (isDct a) e1) (c2_dGet2 fb fc a)) := rfl
@[simp] theorem dGet2_ap (fa fb fc : Env → R D) (e : Env) : dGet2 fa fb fc e = (bnd (fa e) (c1_dGet2 fb fc)) := rfl
def c1_dCallH (sh : List (Option Nat)) (fa : Env → R (List D)) (e : Env) (F : (List Slot → RF)) (e_ : Env) : R D := callF F sh fa kD e
@[simp] theorem c1_dCallH_ap (sh : List (Option Nat)) (fa : Env → R (List D)) (e : Env) (F : (List Slot → RF)) (e_ : Env) : c1_dCallH sh fa e F e_ = (callF F sh fa kD e) := rfl
@[simp] theorem dCallH_ap (i : Nat) (S : Nat → Option (List Slot → RF)) (sh : List (Option Nat)) (fa : Env → R (List D)) (e : Env) : dCallH i S sh fa e = (bnd (opt ((fnAt e i).bind S) e) (c1_dCallH sh fa e)) := rfl
@[simp] theorem sRaise0_ap (n : Nat) (e : Env) : sRaise0 n e = (.exc ⟨n, []⟩ e) := rfl
def c1_sRaise1 (n : Nat) (f : Str) (d : D) (e1 : Env) : RS := .exc ⟨n, [(f, d)]⟩ e1
@[simp] theorem c1_sRaise1_ap (n : Nat) (f : Str) (d : D) (e1 : Env) : c1_sRaise1 n f d e1 = (.exc ⟨n, [(f, d)]⟩ e1) := rfl
@[simp] theorem sRaise1_ap (n : Nat) (f : Str) (fe : Env → R D) (e : Env) : sRaise1 n f fe e = (sB (fe e) (c1_sRaise1 n f)) := rfl
def c1_dIsX  (b : Bool) (e : Env) : R D := .ok (.bl b) e
@[simp] theorem c1_dIsX_ap  (b : Bool) (e : Env) : c1_dIsX b e = (.ok (.bl b) e) := rfl
@[simp] theorem dIsX_ap (i : Nat) (r : Nat → Option Bool) (e : Env) : dIsX i r e = (bnd (opt ((xAt e i).bind fun x => r x.1) e) (c1_dIsX)) := rfl
@[simp] theorem dXf_ap (i : Nat) (f : Str) (r : Nat → Bool) (e : Env) : dXf i f r e = (opt ((xAt e i).bind fun x => if r x.1 = true then (x.2.1.zip x.2.2).lookup f else none) e) := rfl
def c1_dAct  (t : (List D × Option (Nat × List Str))) (e : Env) : R D := actR e t
@[simp] theorem c1_dAct_ap  (t : (List D × Option (Nat × List Str))) (e : Env) : c1_dAct t e = (actR e t) := rfl
@[simp] theorem dAct_ap (i : Nat) (e : Env) : dAct i e = (bnd (opt (thAt e i) e) (c1_dAct)) := rfl
def c2_iEnum1  (ds : (List D)) (e1 : Env) : R (List D) := .ok (enumL 0 ds) e1
@[simp] theorem c2_iEnum1_ap  (ds : (List D)) (e1 : Env) : c2_iEnum1 ds e1 = (.ok (enumL 0 ds) e1) := rfl
def c1_iEnum1  (d : D) (e1 : Env) : R (List D) := bnd (opt (itemsD d) e1) (c2_iEnum1)
@[simp] theorem c1_iEnum1_ap  (d : D) (e1 : Env) : c1_iEnum1 d e1 = (bnd (opt (itemsD d) e1) (c2_iEnum1)) := rfl
@[simp] theorem iEnum1_ap (f : Env → R D) (e : Env) : iEnum1 f e = (bnd (f e) (c1_iEnum1)) := rfl
def c4_iZip2 (xs : (List D)) (ys : (List D)) (e2 : Env) : R (List D) := .ok (zipL xs ys) e2
@[simp] theorem c4_iZip2_ap (xs : (List D)) (ys : (List D)) (e2 : Env) : c4_iZip2 xs ys e2 = (.ok (zipL xs ys) e2) := rfl
def c3_iZip2 (b : D) (xs : (List D)) (e2 : Env) : R (List D) := bnd (opt (itemsD b) e2) (c4_iZip2 xs)
@[simp] theorem c3_iZip2_ap (b : D) (xs : (List D)) (e2 : Env) : c3_iZip2 b xs e2 = (bnd (opt (itemsD b) e2) (c4_iZip2 xs)) := rfl
def c2_iZip2 (a : D) (b : D) (e2 : Env) : R (List D) := bnd (opt (itemsD a) e2) (c3_iZip2 b)
@[simp] theorem c2_iZip2_ap (a : D) (b : D) (e2 : Env) : c2_iZip2 a b e2 = (bnd (opt (itemsD a) e2) (c3_iZip2 b)) := rfl
def c1_iZip2 (fb : Env → R D) (a : D) (e1 : Env) : R (List D) := bnd (fb e1) (c2_iZip2 a)
@[simp] theorem c1_iZip2_ap (fb : Env → R D) (a : D) (e1 : Env) : c1_iZip2 fb a e1 = (bnd (fb e1) (c2_iZip2 a)) := rfl
@[simp] theorem iZip2_ap (fa fb : Env → R D) (e : Env) : iZip2 fa fb e = (bnd (fa e) (c1_iZip2 fb)) := rfl
def c3_dMeth (F : D → D → Option D) (a : D) (b : D) (e2 : Env) : R D := opt (F a b) e2
@[simp] theorem c3_dMeth_ap (F : D → D → Option D) (a : D) (b : D) (e2 : Env) : c3_dMeth F a b e2 = (opt (F a b) e2) := rfl
def c2_dMeth (F : D → D → Option D) (fb : Env → R D) (a : D) (z_ : Unit) (e1 : Env) : R D := bnd (fb e1) (c3_dMeth F a)
@[simp] theorem c2_dMeth_ap (F : D → D → Option D) (fb : Env → R D) (a : D) (z_ : Unit) (e1 : Env) : c2_dMeth F fb a z_ e1 = (bnd (fb e1) (c3_dMeth F a)) := rfl
def c1_dMeth (ok : D → Option Unit) (F : D → D → Option D) (fb : Env → R D) (a : D) (e1 : Env) : R D := bnd (opt (ok a) e1) (c2_dMeth F fb a)
@[simp] theorem c1_dMeth_ap (ok : D → Option Unit) (F : D → D → Option D) (fb : Env → R D) (a : D) (e1 : Env) : c1_dMeth ok F fb a e1 = (bnd (opt (ok a) e1) (c2_dMeth F fb a)) := rfl
@[simp] theorem dMeth_ap (ok : D → Option Unit) (F : D → D → Option D) (fa fb : Env → R D) (e : Env) : dMeth ok F fa fb e = (bnd (fa e) (c1_dMeth ok F fb)) := rfl
def c4_sExt (i : Nat) (ds : List D) (xs : (List D)) (e1 : Env) : RS := if ds.length + xs.length ≤ 16777216 then .nx (e1.set i (some (.m (ds ++ xs)))) else .bad
@[simp] theorem c4_sExt_ap (i : Nat) (ds : List D) (xs : (List D)) (e1 : Env) : c4_sExt i ds xs e1 = (if ds.length + xs.length ≤ 16777216 then .nx (e1.set i (some (.m (ds ++ xs)))) else .bad) := rfl
def c3_sExt (i : Nat) (d : D) (ds : List D) (e1 : Env) : RS := sB (opt (itemsD d) e1) (c4_sExt i ds)
@[simp] theorem c3_sExt_ap (i : Nat) (d : D) (ds : List D) (e1 : Env) : c3_sExt i d ds e1 = (sB (opt (itemsD d) e1) (c4_sExt i ds)) := rfl
def c2_sExt (i : Nat) (d : D) (e1 : Env) : RS := sB (opt (mAt e1 i) e1) (c3_sExt i d)
@[simp] theorem c2_sExt_ap (i : Nat) (d : D) (e1 : Env) : c2_sExt i d e1 = (sB (opt (mAt e1 i) e1) (c3_sExt i d)) := rfl
def c1_sExt (i : Nat) (fv : Env → R D) (z_ : List D) (e : Env) : RS := sB (fv e) (c2_sExt i)
@[simp] theorem c1_sExt_ap (i : Nat) (fv : Env → R D) (z_ : List D) (e : Env) : c1_sExt i fv z_ e = (sB (fv e) (c2_sExt i)) := rfl
@[simp] theorem sExt_ap (i : Nat) (fv : Env → R D) (e : Env) : sExt i fv e = (sB (opt (mAt e i) e) (c1_sExt i fv)) := rfl
def c1_sPar2 (i : Nat) (j : Nat) (ds : (List D)) (e1 : Env) : RS := put2 i j ds e1
@[simp] theorem c1_sPar2_ap (i : Nat) (j : Nat) (ds : (List D)) (e1 : Env) : c1_sPar2 i j ds e1 = (put2 i j ds e1) := rfl
@[simp] theorem sPar2_ap (i j : Nat) (fs : Env → R (List D)) (e : Env) : sPar2 i j fs e = (sB (fs e) (c1_sPar2 i j)) := rfl
def c1_sPar3 (i : Nat) (j : Nat) (l : Nat) (ds : (List D)) (e1 : Env) : RS := put3 i j l ds e1
@[simp] theorem c1_sPar3_ap (i : Nat) (j : Nat) (l : Nat) (ds : (List D)) (e1 : Env) : c1_sPar3 i j l ds e1 = (put3 i j l ds e1) := rfl
@[simp] theorem sPar3_ap (i j l : Nat) (fs : Env → R (List D)) (e : Env) : sPar3 i j l fs e = (sB (fs e) (c1_sPar3 i j l)) := rfl
@[simp] theorem sFor_ap (f : Env → R (List D)) (t : D → Env → Option Env) (body : Env → RS) (e : Env) : sFor f t body e = sB (f e) (forL t body) := rfl
/-- a call whose arguments and answer are known -/
theorem call_ok {α : Type} {F : List Slot → RF} {sh : List (Option Nat)} {fa : Env → R (List D)} {k : Slot → Option α} {e e1 : Env} {ds : List D} {ss : List Slot} {s : Slot} {outs : List (List D)} (h1 : fa e = .ok ds e1) (h2 : mkS sh ds e1 = some ss) (h3 : F ss = .ok s outs) : callF F sh fa k e = opt (k s) (putO (psN 0 sh) outs e1) := by
  unfold callF; rw [h1]; simp only [bnd_ok, h2, h3]
theorem call_exc {α : Type} {F : List Slot → RF} {sh : List (Option Nat)} {fa : Env → R (List D)} {k : Slot → Option α} {e e1 : Env} {ds : List D} {ss : List Slot} {x : Xc} {outs : List (List D)} (h1 : fa e = .ok ds e1) (h2 : mkS sh ds e1 = some ss) (h3 : F ss = .exc x outs) : callF F sh fa k e = .exc x (putO (psN 0 sh) outs e1) := by
  unfold callF; rw [h1]; simp only [bnd_ok, h2, h3]
def kF {α : Type} (sh : List (Option Nat)) (k : Slot → Option α) (e1 : Env) (r : RF) : R α := match r with
  | .ok s outs => opt (k s) (putO (psN 0 sh) outs e1)
  | .exc x outs => .exc x (putO (psN 0 sh) outs e1)
  | .bad => .bad
def kG {α : Type} (F : List Slot → RF) (sh : List (Option Nat)) (k : Slot → Option α) (e1 : Env) (o : Option (List Slot)) : R α := match o with
  | none => .bad
  | some ss => kF sh k e1 (F ss)
@[simp] theorem kG_some {α : Type} (F : List Slot → RF) (sh : List (Option Nat)) (k : Slot → Option α) (e1 : Env) (ss : List Slot) : kG F sh k e1 (some ss) = kF sh k e1 (F ss) := rfl
def kS {α : Type} (F : List Slot → RF) (sh : List (Option Nat)) (k : Slot → Option α) (ds : List D) (e1 : Env) : R α := kG F sh k e1 (mkS sh ds e1)
@[simp] theorem kS_ap {α : Type} (F : List Slot → RF) (sh : List (Option Nat)) (k : Slot → Option α) (ds : List D) (e1 : Env) : kS F sh k ds e1 = kG F sh k e1 (mkS sh ds e1) := rfl
@[simp] theorem mkS_0 (ds : List D) (e : Env) : mkS [] ds e = some [] := by cases ds <;> rfl
@[simp] theorem mkS_v (sh : List (Option Nat)) (d : D) (ds : List D) (e : Env) : mkS (none :: sh) (d :: ds) e = (mkS sh ds e).map (Slot.v d :: ·) := rfl
def mkM (sh : List (Option Nat)) (ds : List D) (e : Env) (o : Option (List D)) : Option (List Slot) := match o with
  | some l => (mkS sh ds e).map (Slot.m l :: ·)
  | none => none
@[simp] theorem mkM_some (sh : List (Option Nat)) (ds l : List D) (e : Env) : mkM sh ds e (some l) = (mkS sh ds e).map (Slot.m l :: ·) := rfl
@[simp] theorem mkS_m (sh : List (Option Nat)) (i : Nat) (ds : List D) (e : Env) : mkS (some i :: sh) ds e = mkM sh ds e (mAt e i) := by
  unfold mkM; rw [mkS] <;> (cases ds <;> rfl)
def slM (o : Option (Option Slot)) : Option (List D) := match o with
  | some (some (.m ds)) => some ds
  | _ => none
@[simp] theorem slM_m (ds : List D) : slM (some (some (.m ds))) = some ds := rfl
@[simp] theorem mAt_ap (e : Env) (i : Nat) : mAt e i = slM (e[i]?) := rfl
@[simp] theorem psN_0 (k : Nat) : psN k [] = [] := rfl
@[simp] theorem psN_v (k : Nat) (sh : List (Option Nat)) : psN k (none :: sh) = psN (k + 1) sh := rfl
@[simp] theorem psN_m (k i : Nat) (sh : List (Option Nat)) : psN k (some i :: sh) = (k, i) :: psN (k + 1) sh := rfl
@[simp] theorem putO_0 (os : List (List D)) (e : Env) : putO [] os e = e := by cases os <;> rfl
@[simp] theorem putO_s (p : Nat × Nat) (r : List (Nat × Nat)) (o : List D) (os : List (List D)) (e : Env) : putO (p :: r) (o :: os) e = putO r os (e.set p.2 (some (.m o))) := rfl
@[simp] theorem outM_0 (e : Env) : outM [] e = [] := rfl
def getL (o : Option (List D)) : List D := o.getD []
@[simp] theorem getL_some (l : List D) : getL (some l) = l := rfl
@[simp] theorem outM_s (i : Nat) (r : List Nat) (e : Env) : outM (i :: r) e = getL (mAt e i) :: outM r e := rfl
@[simp] theorem callF_ap {α : Type} (F : List Slot → RF) (sh : List (Option Nat)) (fa : Env → R (List D)) (k : Slot → Option α) (e : Env) : callF F sh fa k e = bnd (fa e) (kS F sh k) := rfl
@[simp] theorem kF_ok {α : Type} (sh : List (Option Nat)) (k : Slot → Option α) (e1 : Env) (s : Slot) (outs : List (List D)) : kF sh k e1 (.ok s outs) = opt (k s) (putO (psN 0 sh) outs e1) := rfl
@[simp] theorem kF_exc {α : Type} (sh : List (Option Nat)) (k : Slot → Option α) (e1 : Env) (x : Xc) (outs : List (List D)) : kF sh k e1 (.exc x outs) = .exc x (putO (psN 0 sh) outs e1) := rfl
@[simp] theorem kD_v (d : D) : kD (.v d) = some d := rfl
@[simp] theorem kD_m (d : List D) : kD (.m d) = some (.lst d) := rfl
@[simp] theorem kM_m (d : List D) : kM (.m d) = some d := rfl
@[simp] theorem isi_T (d : D) (T : String) : isiD [d, .ty T] = isiD1 d T := rfl
@[simp] theorem asB_bl (b : Bool) : asB (.bl b) = some b := rfl
@[simp] theorem on1_ap (F : D → Option D) (a : D) : on1 F [a] = F a := rfl
@[simp] theorem on2_ap (F : D → D → Option D) (a b : D) : on2 F [a, b] = F a b := rfl
@[simp] theorem truth_bl (b : Bool) : truthD (.bl b) = some b := rfl
@[simp] theorem asI_int (i : Int) : asI (.int i) = some i := rfl
@[simp] theorem cmpI_ii (p : Int → Int → Bool) (i j : Int) : cmpI p (.int i) (.int j) = some (.bl (p i j)) := rfl
@[simp] theorem add_ii (i j : Int) : addD (.int i) (.int j) = some (.int (i + j)) := rfl
@[simp] theorem sub_ii (i j : Int) : subD (.int i) (.int j) = some (.int (i - j)) := rfl
@[simp] theorem isN_non (x : D) : isND x .non = some (.bl (isNon x)) := rfl
@[simp] theorem notN_non (x : D) : notND x .non = some (.bl (!isNon x)) := rfl
end DL
end

section
set_option Elab.async false
set_option linter.all false
set_option maxRecDepth 100000
/-! W1: what holds behind a denotation that ends (no exception). -/
namespace DL
open PySem PySem.Spec PyProof.Rows L2
def wR {α : Type} (r : R α) (Q : α → Env → Prop) : Prop := match r with
  | .ok a e => Q a e
  | _ => False
structure Po where
  nx : Env → Prop
  rt : Slot → Env → Prop
  ct : Env → Prop
  bk : Env → Prop
def wS (r : RS) (P : Po) : Prop := match r with
  | .nx e => P.nx e
  | .rt s e => P.rt s e
  | .ct e => P.ct e
  | .bk e => P.bk e
  | _ => False
def wF (r : RF) (Q : Slot → List (List D) → Prop) : Prop := match r with
  | .ok s o => Q s o
  | _ => False
theorem wF_iff {r : RF} {Q : Slot → List (List D) → Prop} : wF r Q ↔ ∃ s o, r = .ok s o ∧ Q s o := by
  cases r with
  | ok s o => exact ⟨fun h => ⟨s, o, rfl, h⟩, fun ⟨s', o', e, h⟩ => by cases e; exact h⟩
  | exc x o => exact ⟨fun h => h.elim, fun ⟨s', o', e, h⟩ => by cases e⟩
  | bad => exact ⟨fun h => h.elim, fun ⟨s', o', e, h⟩ => by cases e⟩
theorem wF_mono {r : RF} {Q Q' : Slot → List (List D) → Prop} (h : wF r Q) (m : ∀ s o, Q s o → Q' s o) : wF r Q' := by
  cases r <;> first | exact m _ _ h | exact h
theorem wR_mono {α : Type} {r : R α} {Q Q' : α → Env → Prop} (h : wR r Q) (m : ∀ s o, Q s o → Q' s o) : wR r Q' := by
  cases r <;> first | exact m _ _ h | exact h
def kB {α β : Type} (f : α → Env → R β) (Q : β → Env → Prop) (a : α) (e : Env) : Prop := wR (f a e) Q
def kBS {α : Type} (f : α → Env → RS) (P : Po) (a : α) (e : Env) : Prop := wS (f a e) P
def kNx (f : Env → RS) (P : Po) (e : Env) : Prop := wS (f e) P
def kSq (f : Env → RS) (P : Po) : Po := ⟨kNx f P, P.rt, P.ct, P.bk⟩
def kFn (mp : List Nat) (Q : Slot → List (List D) → Prop) (e : Env) : Prop := Q (.v .non) (outM mp e)
def kFr (mp : List Nat) (Q : Slot → List (List D) → Prop) (s : Slot) (e : Env) : Prop := Q s (outM mp e)
def kFin (mp : List Nat) (Q : Slot → List (List D) → Prop) : Po := ⟨kFn mp Q, kFr mp Q, fun _ => False, fun _ => False⟩
@[simp] theorem kB_ap {α β : Type} (f : α → Env → R β) (Q : β → Env → Prop) (a : α) (e : Env) : kB f Q a e = wR (f a e) Q := rfl
@[simp] theorem kBS_ap {α : Type} (f : α → Env → RS) (P : Po) (a : α) (e : Env) : kBS f P a e = wS (f a e) P := rfl
@[simp] theorem kNx_ap (f : Env → RS) (P : Po) (e : Env) : kNx f P e = wS (f e) P := rfl
@[simp] theorem kSq_nx (f : Env → RS) (P : Po) : (kSq f P).nx = kNx f P := rfl
@[simp] theorem kSq_rt (f : Env → RS) (P : Po) : (kSq f P).rt = P.rt := rfl
@[simp] theorem kSq_ct (f : Env → RS) (P : Po) : (kSq f P).ct = P.ct := rfl
@[simp] theorem kSq_bk (f : Env → RS) (P : Po) : (kSq f P).bk = P.bk := rfl
@[simp] theorem kFn_ap (mp : List Nat) (Q : Slot → List (List D) → Prop) (e : Env) : kFn mp Q e = Q (.v .non) (outM mp e) := rfl
@[simp] theorem kFr_ap (mp : List Nat) (Q : Slot → List (List D) → Prop) (s : Slot) (e : Env) : kFr mp Q s e = Q s (outM mp e) := rfl
@[simp] theorem kFin_nx (mp : List Nat) (Q : Slot → List (List D) → Prop) : (kFin mp Q).nx = kFn mp Q := rfl
@[simp] theorem kFin_rt (mp : List Nat) (Q : Slot → List (List D) → Prop) : (kFin mp Q).rt = kFr mp Q := rfl
@[simp] theorem wR_ok {α : Type} (a : α) (e : Env) (Q : α → Env → Prop) : wR (.ok a e) Q = Q a e := rfl
@[simp] theorem wS_nx (e : Env) (P : Po) : wS (.nx e) P = P.nx e := rfl
@[simp] theorem wS_rt (s : Slot) (e : Env) (P : Po) : wS (.rt s e) P = P.rt s e := rfl
@[simp] theorem wS_ct (e : Env) (P : Po) : wS (.ct e) P = P.ct e := rfl
@[simp] theorem wS_bk (e : Env) (P : Po) : wS (.bk e) P = P.bk e := rfl
@[simp] theorem wF_ok (s : Slot) (o : List (List D)) (Q : Slot → List (List D) → Prop) : wF (.ok s o) Q = Q s o := rfl
@[simp] theorem wR_bnd {α β : Type} (x : R α) (f : α → Env → R β) (Q : β → Env → Prop) : wR (bnd x f) Q = wR x (kB f Q) := by
  cases x <;> rfl
@[simp] theorem wS_sB {α : Type} (x : R α) (f : α → Env → RS) (P : Po) : wS (sB x f) P = wR x (kBS f P) := by
  cases x <;> rfl
@[simp] theorem wS_sq (r : RS) (f : Env → RS) (P : Po) : wS (sq r f) P = wS r (kSq f P) := by
  cases r <;> rfl
@[simp] theorem wF_fin (mp : List Nat) (r : RS) (Q : Slot → List (List D) → Prop) : wF (fin mp r) Q = wS r (kFin mp Q) := by
  cases r <;> rfl
@[simp] theorem wR_ite {α : Type} (c : Prop) [Decidable c] (a b : R α) (Q : α → Env → Prop) : wR (if c then a else b) Q = if c then wR a Q else wR b Q := by
  split <;> rfl
@[simp] theorem wS_ite (c : Prop) [Decidable c] (a b : RS) (P : Po) : wS (if c then a else b) P = if c then wS a P else wS b P := by
  split <;> rfl
/-- a call with a promise -/
theorem wR_call {α : Type} {sh : List (Option Nat)} {k : Slot → Option α} {e : Env} {r : RF} {Q' : Slot → List (List D) → Prop} {Q : α → Env → Prop} (h : wF r Q') (m : ∀ s o, Q' s o → wR (opt (k s) (putO (psN 0 sh) o e)) Q) : wR (kF sh k e r) Q := by
  cases r <;> first | exact m _ _ h | exact h
theorem at_list {l : List D} {i : Int} (h0 : 0 ≤ i) (h1 : i < (l.length : Int)) : ∃ d, d ∈ l ∧ ixD (.lst l) (.int i) = some d := by
  have h2 : i.toNat < l.length := by omega
  refine ⟨l[i.toNat], List.getElem_mem h2, ?_⟩
  have h3 : ixN l.length i = some i.toNat := by
    unfold ixN; rw [if_pos h0, if_pos h1]
  simp only [ixD, atI, h3, Option.bind_some]
  exact List.getElem?_eq_getElem h2
/-- some item of a list -/
theorem wR_at {l : List D} {i : Int} {e : Env} {Q : D → Env → Prop} (h0 : 0 ≤ i) (h1 : i < (l.length : Int)) (q : ∀ d ∈ l, Q d e) : wR (opt (ixD (.lst l) (.int i)) e) Q := by
  obtain ⟨d, hm, hd⟩ := at_list h0 h1
  rw [hd]
  exact q d hm
/-- a loop with what stands at each turn -/
theorem wS_for {t : D → Env → Option Env} {body : Env → RS} {P : Po} (I : Nat → Env → Prop) : ∀ (l : List D) (n : Nat) (e : Env), I n e →
    (∀ (i : Nat) (d : D) (e : Env), l[i]? = some d → I (n + i) e → ∃ e1, t d e = some e1 ∧ wS (body e1) ⟨I (n + i + 1), P.rt, I (n + i + 1), P.nx⟩) → (∀ e, I (n + l.length) e → P.nx e) → wS (forL t body l e) P
  | [], n, e, h0, st, en => en e h0
  | d :: l, n, e, h0, st, en => by
    obtain ⟨e1, h1, h2⟩ := st 0 d e rfl h0
    have ih := fun e2 (q : I (n + 0 + 1) e2) => wS_for (t := t) (body := body) (P := P) I l (n + 1) e2 q (fun i d' e' hi hI => by
      have z := st (i + 1) d' e' hi
      rw [show n + (i + 1) = n + 1 + i by omega] at z
      exact z hI) (fun e' hI => en e' (by rw [List.length_cons, show n + (l.length + 1) = n + 1 + l.length by omega]; exact hI))
    unfold forL
    rw [h1, sO_some]
    revert h2
    cases body e1 with
    | nx e2 => exact fun q => ih e2 q
    | ct e2 => exact fun q => ih e2 q
    | bk e2 => exact fun q => q
    | rt s e2 => exact fun q => q
    | exc x e2 => exact fun q => q
    | bad => exact fun q => q
/-- a comprehension with what stands at each turn -/
theorem wR_compL {vs : List Nat} {t : D → Env → Option Env} {tt : Env → R Bool} {fe : Env → R D} {Q : List D → Env → Prop} (I : Nat → List D → Env → Prop) : ∀ (l : List D) (n : Nat) (acc : List D) (e : Env), I n acc e →
    (∀ (i : Nat) (d : D) (acc : List D) (e : Env), l[i]? = some d → I (n + i) acc e → ∃ e1, t d e = some e1 ∧ wR (tt e1) (fun b e2 => if b = true then wR (fe e2) (fun y e3 => I (n + i + 1) (acc ++ [y]) (wipeE e3 vs)) else I (n + i + 1) acc (wipeE e2 vs))) →
    (∀ r e, I (n + l.length) r e → Q r e) → wR (compL vs t tt fe l e) (fun r e => Q (acc ++ r) e)
  | [], n, acc, e, h0, st, en => by
    show Q (acc ++ []) e
    rw [List.append_nil]
    exact en acc e h0
  | d :: l, n, acc, e, h0, st, en => by
    obtain ⟨e1, h1, h2⟩ := st 0 d acc e rfl h0
    have ih := fun acc2 e2 (q : I (n + 0 + 1) acc2 e2) => wR_compL (vs := vs) (t := t) (tt := tt) (fe := fe) (Q := Q) I l (n + 1) acc2 e2 q (fun i d' a' e' hi hI => by
      have z := st (i + 1) d' a' e' hi
      rw [show n + (i + 1) = n + 1 + i by omega] at z
      exact z hI) (fun r e' hI => en r e' (by rw [List.length_cons, show n + (l.length + 1) = n + 1 + l.length by omega]; exact hI))
    unfold compL
    rw [h1, opt_some, bnd_ok]
    revert h2
    cases tt e1 with
    | exc x e2 => exact fun q => q
    | bad => exact fun q => q
    | ok b e2 =>
      intro h2
      rw [bnd_ok]
      cases b with
      | false => exact ih acc _ h2
      | true =>
        have h2 : wR (fe e2) (fun y e3 => I (n + 0 + 1) (acc ++ [y]) (wipeE e3 vs)) := h2
        show wR (bnd (fe e2) _) _
        revert h2
        cases fe e2 with
        | exc x e3 => exact fun q => q
        | bad => exact fun q => q
        | ok y e3 =>
          intro q
          rw [bnd_ok, wR_bnd]
          refine wR_mono (ih (acc ++ [y]) _ q) fun r e4 z => ?_
          show Q (acc ++ (y :: r)) e4
          rw [List.append_assoc] at z
          exact z
/-- what stands behind a block's own turns -/
def kCm (e1 : Env) (vs : List Nat) (Q : List D → Env → Prop) (r : List D) (e2 : Env) : Prop := Q r (backE e2 e1 vs)
def kCo (vs : List Nat) (t : D → Env → Option Env) (tt : Env → R Bool) (fe : Env → R D) (Q : List D → Env → Prop) (ds : List D) (e1 : Env) : Prop := vs.all (noM e1) = true ∧ ds.length < 16777216 ∧ wR (compL vs t tt fe ds (wipeE e1 vs)) (kCm e1 vs Q)
@[simp] theorem kCm_ap (e1 : Env) (vs : List Nat) (Q : List D → Env → Prop) (r : List D) (e2 : Env) : kCm e1 vs Q r e2 = Q r (backE e2 e1 vs) := rfl
@[simp] theorem wR_mComp (vs : List Nat) (fi : Env → R (List D)) (t : D → Env → Option Env) (tt : Env → R Bool) (fe : Env → R D) (e : Env) (Q : List D → Env → Prop) : wR (mComp vs fi t tt fe e) Q = wR (fi e) (kCo vs t tt fe Q) := by
  unfold mComp
  rw [wR_bnd]
  congr 1
  funext ds e1
  unfold kB kCo
  dsimp only
  by_cases h : vs.all (noM e1) = true ∧ ds.length < 16777216
  · rw [if_pos h]
    cases compL vs t tt fe ds (wipeE e1 vs) with
    | ok r e2 => exact propext ⟨fun q => ⟨h.1, h.2, q⟩, fun q => q.2.2⟩
    | exc x e2 => exact propext ⟨fun q => q.elim, fun q => q.2.2⟩
    | bad => exact propext ⟨fun q => q.elim, fun q => q.2.2⟩
  · rw [if_neg h]
    exact propext ⟨fun q => q.elim, fun q => h ⟨q.1, q.2.1⟩⟩
theorem comp_go {vs : List Nat} {t : D → Env → Option Env} {tt : Env → R Bool} {fe : Env → R D} {Q : List D → Env → Prop} {ds : List D} {e1 : Env} (h1 : vs.all (noM e1) = true) (h2 : ds.length < 16777216) (I : Nat → List D → Env → Prop) (h0 : I 0 [] (wipeE e1 vs))
    (st : ∀ (i : Nat) (d : D) (acc : List D) (e : Env), ds[i]? = some d → I i acc e → ∃ e1, t d e = some e1 ∧ wR (tt e1) (fun b e2 => if b = true then wR (fe e2) (fun y e3 => I (i + 1) (acc ++ [y]) (wipeE e3 vs)) else I (i + 1) acc (wipeE e2 vs)))
    (en : ∀ r e, I ds.length r e → Q r (backE e e1 vs)) : kCo vs t tt fe Q ds e1 := by
  refine ⟨h1, h2, ?_⟩
  have z := wR_compL (vs := vs) (t := t) (tt := tt) (fe := fe) (Q := kCm e1 vs Q) I ds 0 [] (wipeE e1 vs) h0 (fun i d acc e hi hI => by
    rw [Nat.zero_add] at hI ⊢
    exact st i d acc e hi hI) (fun r e hI => by
    rw [Nat.zero_add] at hI
    exact en r e hI)
  exact z
end DL
end

section
set_option Elab.async false
set_option linter.all false
set_option maxRecDepth 100000
/-! W2: values, pots, numbers: nothing of any law. -/
namespace DL
open PySem PySem.Spec PyProof.Rows L2
def betw (d : D) (lo hi : Int) : Bool := match d with
  | .int i => decide (lo ≤ i) && decide (i ≤ hi)
  | _ => false
def dataD : D → Bool
  | .non | .bl _ | .int _ | .str _ | .tup _ | .lst _ | .dct _ _ => true
  | _ => false
@[simp] theorem ix_l0 (a : D) (l : List D) : ixD (.lst (a :: l)) (.int 0) = some a := by simp [ixD, atI, ixN]
@[simp] theorem ix_l1 (a b : D) (l : List D) : ixD (.lst (a :: b :: l)) (.int 1) = some b := by
  have : (1 : Int) < (l.length : Int) + 1 + 1 := by omega
  simp [ixD, atI, ixN, this]
@[simp] theorem ix_l2 (a b c : D) (l : List D) : ixD (.lst (a :: b :: c :: l)) (.int 2) = some c := by
  have : (2 : Int) < (l.length : Int) + 1 + 1 + 1 := by omega
  simp [ixD, atI, ixN, this]
@[simp] theorem ix_l3 (a b c d : D) (l : List D) : ixD (.lst (a :: b :: c :: d :: l)) (.int 3) = some d := by
  have : (3 : Int) < (l.length : Int) + 1 + 1 + 1 + 1 := by omega
  simp [ixD, atI, ixN, this]
@[simp] theorem ix_t0 (a : D) (l : List D) : ixD (.tup (a :: l)) (.int 0) = some a := by simp [ixD, atI, ixN]
@[simp] theorem ix_t1 (a b : D) (l : List D) : ixD (.tup (a :: b :: l)) (.int 1) = some b := by
  have : (1 : Int) < (l.length : Int) + 1 + 1 := by omega
  simp [ixD, atI, ixN, this]
@[simp] theorem ix_t2 (a b c : D) (l : List D) : ixD (.tup (a :: b :: c :: l)) (.int 2) = some c := by
  have : (2 : Int) < (l.length : Int) + 1 + 1 + 1 := by omega
  simp [ixD, atI, ixN, this]
@[simp] theorem ix_t3 (a b c d : D) (l : List D) : ixD (.tup (a :: b :: c :: d :: l)) (.int 3) = some d := by
  have : (3 : Int) < (l.length : Int) + 1 + 1 + 1 + 1 := by omega
  simp [ixD, atI, ixN, this]
theorem isi_int (d : D) (h : dataD d = true) : isiD1 d "int" = some (.bl (match d with | .int _ => true | .bl _ => true | _ => false)) := by
  cases d <;> first | (cases h; done) | (simp [isiD1, okTy, tyD, isTy])
theorem isi_bool (d : D) (h : dataD d = true) : isiD1 d "bool" = some (.bl (match d with | .bl _ => true | _ => false)) := by
  cases d <;> first | (cases h; done) | (simp [isiD1, okTy, tyD, isTy])
def tupB : D → Bool
  | .tup _ => true
  | _ => false
def strB : D → Bool
  | .str _ => true
  | _ => false
theorem isi_tup (d : D) (h : dataD d = true) : isiD1 d "tuple" = some (.bl (tupB d)) := by
  cases d <;> first | (cases h; done) | (simp [isiD1, okTy, tyD, isTy, tupB])
theorem isi_strB (d : D) (h : dataD d = true) : isiD1 d "str" = some (.bl (strB d)) := by
  cases d <;> first | (cases h; done) | (simp [isiD1, okTy, tyD, isTy, strB])
@[simp] theorem ixN_0 (n : Nat) : ixN (n + 1) 0 = some 0 := by simp [ixN]
@[simp] theorem ixN_30 : ixN 3 0 = some 0 := by decide
@[simp] theorem ixN_32 : ixN 3 2 = some 2 := by decide
@[simp] theorem ixN_40 : ixN 4 0 = some 0 := by decide
@[simp] theorem ixN_41 : ixN 4 1 = some 1 := by decide
@[simp] theorem ixN_42 : ixN 4 2 = some 2 := by decide
@[simp] theorem ixN_43 : ixN 4 3 = some 3 := by decide
def potL (c x k : Int) : List D := [.int c, .int x, .int k]
def potOk (K : Nat) (ds : List D) : Prop := ∃ c x k, ds = potL c x k ∧ 0 ≤ c ∧ 0 ≤ x ∧ x < 2 ^ 61 ∧ 0 ≤ k ∧ k ≤ (K : Int)
theorem potOk.mono {K K' : Nat} {ds : List D} (h : potOk K ds) (hk : K ≤ K') : potOk K' ds := by
  obtain ⟨c, x, k, a, b, d, e, f, i⟩ := h
  exact ⟨c, x, k, a, b, d, e, f, by omega⟩
theorem mod_lt61 (a m : Int) (h : 0 < m) (h2 : m ≤ 2 ^ 61) : 0 ≤ a % m ∧ a % m < 2 ^ 61 := ⟨Int.emod_nonneg _ (by omega), by have := Int.emod_lt_of_pos a h; omega⟩
theorem log2_lt (a : Int) (b : Nat) (h1 : 0 ≤ a) (h2 : a < 2 ^ b) : a.natAbs.log2 ≤ b := by
  by_cases z : a.natAbs = 0
  · rw [z]; simp
  · have h3 : a.natAbs < 2 ^ b := by
      have : ((a.natAbs : Nat) : Int) < ((2 ^ b : Nat) : Int) := by rw [Int.natAbs_of_nonneg h1]; push_cast; exact h2
      exact_mod_cast this
    have := (Nat.log2_lt z).mpr h3
    omega
theorem pow_ii (i j : Int) (b : Nat) (h1 : 0 ≤ i) (h2 : i < 2 ^ b) (hb : b < 1000000) (hj : 0 ≤ j) (hj2 : j ≤ 64) : powD (.int i) (.int j) = some (.int (i ^ j.toNat)) := by
  have := log2_lt i b h1 h2
  exact if_pos ⟨hj, hj2, by omega⟩
@[simp] theorem p1039 : powD (.int 10) (.int 39) = some (.int (10 ^ 39)) := pow_ii 10 39 4 (by decide) (by decide) (by decide) (by decide) (by decide)
theorem mod_ii (i j : Int) (h : 0 < j) : modD (.int i) (.int j) = some (.int (i % j)) := if_pos h
theorem fdiv_ii (i j : Int) (h : 0 < j) (h2 : j < 2 ^ 64) : fdivD (.int i) (.int j) = some (.int (i / j)) := by
  have := log2_lt j 64 (by omega) h2
  exact if_pos ⟨h, by omega⟩
theorem mul_ii (i j : Int) (h : -(2 ^ 64) < i ∧ i < 2 ^ 64) : mulD (.int i) (.int j) = some (.int (i * j)) := by
  exact if_pos (by simp only [small64, h.1, h.2, decide_true, Bool.and_self, Bool.true_or])
def intL (ns : List Int) : List D := ns.map .int
@[simp] theorem intL_len (ns : List Int) : (intL ns).length = ns.length := by simp [intL]
theorem atI_int (ns : List Int) (j : Nat) (h : j < ns.length) : ixD (.lst (intL ns)) (.int (j : Int)) = some (.int (ns.getD j 0)) := by
  have h2 : (j : Int) < ((intL ns).length : Int) := by rw [intL_len]; exact_mod_cast h
  have h3 : ixN (intL ns).length (j : Int) = some j := by
    unfold ixN; rw [if_pos (by omega : (0 : Int) ≤ (j : Int)), if_pos h2]; simp
  simp only [ixD, atI, h3, Option.bind_some]
  simp [intL, List.getElem?_eq_getElem h]
theorem mul_b (a : Int) (b : Bool) : mulD (.int a) (.int (if b = true then 1 else 0)) = some (.int (a * if b = true then 1 else 0)) := by
  refine if_pos ?_
  have : small64 (if b = true then 1 else 0) = true := by cases b <;> decide
  simp only [this, Bool.or_true, Bool.true_or]
theorem mul_b2 (a : Int) (p : Prop) [Decidable p] : mulD (.int a) (.int (if p then 1 else 0)) = some (.int (a * if p then 1 else 0)) := by
  by_cases q : p
  · simpa [q] using mul_b a true
  · simpa [q] using mul_b a false
theorem rangeL_succ (lo : Int) (n : Nat) : rangeL lo (n + 1) = .int lo :: rangeL (lo + 1) n := by
  unfold rangeL
  rw [List.range_succ_eq_map]
  simp only [List.map_cons, List.map_map]
  congr 1
  · simp
  · apply List.map_congr_left
    intro a _
    simp only [Function.comp]
    congr 1
    push_cast
    omega
theorem rangeL_zero (lo : Int) : rangeL lo 0 = [] := rfl
theorem wide_n (k : Nat) (hk : k ≤ 63) : wide62 (k : Int) = true := by
  simp only [wide62, Bool.and_eq_true, decide_eq_true_eq]
  omega
theorem wide_i {k : Int} (h0 : 0 ≤ k) (hk : k < 2 ^ 62) : wide62 k = true := by
  simp only [wide62, Bool.and_eq_true, decide_eq_true_eq]
  omega
theorem wide_16 : wide62 16 = true := by decide
theorem min_63 (n : Nat) (h : n ≤ 63) : min2D (.int 63) (.int (n : Int)) = some (.int (n : Int)) := by
  show some (D.int (if (n : Int) < 63 then (n : Int) else 63)) = _
  congr 2; split <;> omega
theorem cut_len {α : Type} (xs : List α) (a b : Option Int) : (cutD xs a b).length ≤ xs.length := by
  unfold cutD
  rw [List.length_take, List.length_drop]
  omega
theorem cut_mem {α : Type} {xs : List α} {a b : Option Int} {x : α} (h : x ∈ cutD xs a b) : x ∈ xs := List.mem_of_mem_drop (List.mem_of_mem_take h)
theorem add_tt (xs ys : List D) (h : xs.length + ys.length ≤ 1000) : addD (.tup xs) (.tup ys) = some (.tup (xs ++ ys)) := if_pos (by omega)
@[simp] theorem eqS_ii (i j : Int) : eqS (.int i) (.int j) = some (.bl (i == j)) := by
  show eqD _ _ = _
  unfold eqD
  rw [if_pos ⟨by simp [dep], by simp [dep]⟩]
  rfl
@[simp] theorem neS_ii (i j : Int) : neS (.int i) (.int j) = some (.bl (!(i == j))) := by
  show neD _ _ = _
  unfold neD
  rw [if_pos ⟨by simp [dep], by simp [dep]⟩]
  rfl
@[simp] theorem eqS_ss (i j : Str) : eqS (.str i) (.str j) = some (.bl (decide (i = j))) := rfl
@[simp] theorem neS_ss (i j : Str) : neS (.str i) (.str j) = some (.bl (!decide (i = j))) := rfl
theorem depL_le {xs : List D} {n : Nat} (h : ∀ x ∈ xs, dep x ≤ n) : depL xs ≤ n := by
  induction xs with
  | nil => simp [depL]
  | cons a r ih =>
    simp only [depL]
    have := h a (List.mem_cons_self ..)
    have := ih fun x hx => h x (List.mem_cons_of_mem _ hx)
    omega
theorem plainL_all {xs : List D} (h : ∀ x ∈ xs, plainD x = true) : plainL xs = true := by
  induction xs with
  | nil => rfl
  | cons a r ih => simp only [plainL, h a (List.mem_cons_self ..), ih fun x hx => h x (List.mem_cons_of_mem _ hx), Bool.and_self]
def whoB (w : Int) (a : D) : Bool := isNon a || betw a 0 (w - 1)
def difB (a b : D) : Bool := match a, b with
  | .int i, .int j => !(i == j)
  | _, _ => false
def okD (d : D) : Prop := dep d ≤ 60 ∨ d = .dct [] []
theorem okD_data (d : D) (h : okD d) : dataD d = true := by
  rcases h with h | h
  · cases d <;> first | rfl | (simp [dep] at h)
  · subst h; rfl
theorem data60 {d : D} (h : dep d ≤ 60) : dataD d = true := okD_data d (.inl h)
theorem betw_int {d : D} {lo hi : Int} (h : betw d lo hi = true) : ∃ i, d = .int i := by
  cases d <;> first | (simp [betw] at h; done) | exact ⟨_, rfl⟩
theorem betw_i {d : D} {lo hi : Int} (h : betw d lo hi = true) : ∃ i, d = .int i ∧ lo ≤ i ∧ i ≤ hi := by
  obtain ⟨i, rfl⟩ := betw_int h
  simp only [betw, Bool.and_eq_true, decide_eq_true_eq] at h
  exact ⟨i, rfl, h.1, h.2⟩
end DL
end

section
set_option Elab.async false
set_option linter.all false
set_option maxRecDepth 100000
/-! W3: repr of small things. -/
namespace DL
open PySem PySem.Spec PyProof.Rows L2
mutual
/-- whole numbers to forty figures, texts, rows of such -/
def shortD : D → Bool
  | .non | .bl _ => true
  | .int i => decide (i.natAbs < 10 ^ 40)
  | .str x => x.cps.all (· < 0x110000)
  | .tup xs | .lst xs => shortL xs
  | _ => false
def shortL : List D → Bool
  | [] => true
  | x :: xs => shortD x && shortL xs
end
mutual
def wgt : D → Nat
  | .int _ => 134
  | .str x => x.cps.size
  | .tup xs | .lst xs => wgtL xs
  | _ => 0
def wgtL : List D → Nat
  | [] => 0
  | x :: xs => wgt x + 1 + wgtL xs
end
theorem int_short {i : Int} (h : i.natAbs < 10 ^ 40) : (PyData.shown (.int i)).length ≤ 41 := by
  have e := int_text_length_le10 (a := i) (k := 40) (by decide) h
  rw [show PyData.shown (.int i) = Str.ofString (toString i) from rfl, PySem.ofString_length]
  exact e
theorem log_short {i : Int} (h : i.natAbs < 10 ^ 40) : i.natAbs.log2 ≤ 133 := by
  by_cases z : i.natAbs = 0
  · rw [z]; simp
  · have h2 : i.natAbs < 2 ^ 133 := Nat.lt_of_lt_of_le h (by decide)
    have := (Nat.log2_lt z).mpr h2
    omega
mutual
theorem short_ok : ∀ d : D, shortD d = true → (toP d).showable = true ∧ (toP d).leavesShort 41 = true ∧ (toP d).weight ≤ wgt d
  | .non, _ => ⟨rfl, rfl, Nat.le_refl _⟩
  | .bl b, _ => ⟨rfl, rfl, Nat.le_refl _⟩
  | .int i, h => by
    simp only [shortD, decide_eq_true_eq] at h
    have h1 := log_short h
    have h2 := int_short h
    refine ⟨?_, ?_, ?_⟩
    · simp only [toP, PyData.showable, decide_eq_true_eq]; omega
    · simp only [toP, PyData.leavesShort, decide_eq_true_eq]; exact h2
    · simp only [toP, PyData.weight, wgt]; split <;> omega
  | .str x, h => by
    simp only [shortD] at h
    refine ⟨rfl, ?_, Nat.le_refl _⟩
    simp only [toP, PyData.leavesShort, List.all_eq_true, decide_eq_true_eq]
    intro c hc
    have h2 := Array.all_eq_true'.mp h c (by simpa using hc)
    simp only [decide_eq_true_eq] at h2
    exact Nat.lt_of_lt_of_le h2 (by decide)
  | .tup xs, h => by
    obtain ⟨a, b, c⟩ := shortL_ok xs (by simpa only [shortD] using h)
    exact ⟨by simp only [toP, PyData.showable]; exact a, by simp only [toP, PyData.leavesShort]; exact b, by simp only [toP, PyData.weight, wgt]; exact c⟩
  | .lst xs, h => by
    obtain ⟨a, b, c⟩ := shortL_ok xs (by simpa only [shortD] using h)
    exact ⟨by simp only [toP, PyData.showable]; exact a, by simp only [toP, PyData.leavesShort]; exact b, by simp only [toP, PyData.weight, wgt]; exact c⟩
  | .dct _ _, h => by simp [shortD] at h
  | .fn _, h => by simp [shortD] at h
  | .cl _, h => by simp [shortD] at h
  | .ty _, h => by simp [shortD] at h
  | .th _ _, h => by simp [shortD] at h
  | .xc _ _ _, h => by simp [shortD] at h
theorem shortL_ok : ∀ xs : List D, shortL xs = true → PyData.showableAll (toPL xs) = true ∧ PyData.leavesShortAll 41 (toPL xs) = true ∧ PyData.weightAll (toPL xs) ≤ wgtL xs
  | [], _ => ⟨rfl, rfl, Nat.le_refl _⟩
  | x :: xs, h => by
    simp only [shortL, Bool.and_eq_true] at h
    obtain ⟨a, b, c⟩ := short_ok x h.1
    obtain ⟨a2, b2, c2⟩ := shortL_ok xs h.2
    refine ⟨?_, ?_, ?_⟩
    · simp only [toPL, PyData.showableAll, a, a2, Bool.and_self]
    · simp only [toPL, PyData.leavesShortAll, b, b2, Bool.and_self]
    · simp only [toPL, PyData.weightAll, wgtL]; omega
end
/-- a small thing has a repr -/
theorem repr_ok {d : D} (h : shortD d = true) (h1 : dep d ≤ 60) (h2 : wgt d ≤ 300000) : ∃ t, reprD d = some (.str t) := by
  obtain ⟨a, b, c⟩ := short_ok d h
  have e := PyData.shown_le 41 (by decide) (toP d) b
  have e2 : (41 + 2) * (toP d).weight ≤ 43 * 300000 := Nat.mul_le_mul (by omega) (by omega)
  exact ⟨_, if_pos ⟨h1, a, by omega⟩⟩
/-- .. of bounded length -/
theorem repr_len {d : D} (h : shortD d = true) (h1 : dep d ≤ 60) (h2 : wgt d ≤ 300000) : ∃ t, reprD d = some (.str t) ∧ t.length ≤ 43 * wgt d + 41 := by
  obtain ⟨a, b, c⟩ := short_ok d h
  have e := PyData.shown_le 41 (by decide) (toP d) b
  have e2 : (41 + 2) * (toP d).weight ≤ 43 * wgt d := Nat.mul_le_mul (by omega) c
  exact ⟨_, if_pos ⟨h1, a, by omega⟩, by omega⟩
end DL
end

section
set_option Elab.async false
set_option linter.all false
/-! W4: words that differ; depth, length of words and rows. -/
namespace DL
open PySem PySem.Spec PyProof.Rows L2
@[simp] theorem ne_came_round : (Str.ofString "came" = Str.ofString "round") = False := eq_false (by decide)
@[simp] theorem ne_came_last : (Str.ofString "came" = Str.ofString "last") = False := eq_false (by decide)
@[simp] theorem ne_came_first : (Str.ofString "came" = Str.ofString "first") = False := eq_false (by decide)
@[simp] theorem ne_came_since : (Str.ofString "came" = Str.ofString "since") = False := eq_false (by decide)
@[simp] theorem ne_came_here : (Str.ofString "came" = Str.ofString "here") = False := eq_false (by decide)
@[simp] theorem ne_came_free : (Str.ofString "came" = Str.ofString "free") = False := eq_false (by decide)
@[simp] theorem ne_came_who : (Str.ofString "came" = Str.ofString "who") = False := eq_false (by decide)
@[simp] theorem ne_came_note : (Str.ofString "came" = Str.ofString "note") = False := eq_false (by decide)
@[simp] theorem ne_came_mine : (Str.ofString "came" = Str.ofString "mine") = False := eq_false (by decide)
@[simp] theorem ne_came_not : (Str.ofString "came" = Str.ofString "not") = False := eq_false (by decide)
@[simp] theorem ne_came_both : (Str.ofString "came" = Str.ofString "both") = False := eq_false (by decide)
@[simp] theorem ne_came_either : (Str.ofString "came" = Str.ofString "either") = False := eq_false (by decide)
@[simp] theorem ne_came_in : (Str.ofString "came" = Str.ofString "in") = False := eq_false (by decide)
@[simp] theorem ne_came_out : (Str.ofString "came" = Str.ofString "out") = False := eq_false (by decide)
@[simp] theorem ne_round_came : (Str.ofString "round" = Str.ofString "came") = False := eq_false (by decide)
@[simp] theorem ne_round_last : (Str.ofString "round" = Str.ofString "last") = False := eq_false (by decide)
@[simp] theorem ne_round_first : (Str.ofString "round" = Str.ofString "first") = False := eq_false (by decide)
@[simp] theorem ne_round_since : (Str.ofString "round" = Str.ofString "since") = False := eq_false (by decide)
@[simp] theorem ne_round_here : (Str.ofString "round" = Str.ofString "here") = False := eq_false (by decide)
@[simp] theorem ne_round_free : (Str.ofString "round" = Str.ofString "free") = False := eq_false (by decide)
@[simp] theorem ne_round_who : (Str.ofString "round" = Str.ofString "who") = False := eq_false (by decide)
@[simp] theorem ne_round_note : (Str.ofString "round" = Str.ofString "note") = False := eq_false (by decide)
@[simp] theorem ne_round_mine : (Str.ofString "round" = Str.ofString "mine") = False := eq_false (by decide)
@[simp] theorem ne_round_not : (Str.ofString "round" = Str.ofString "not") = False := eq_false (by decide)
@[simp] theorem ne_round_both : (Str.ofString "round" = Str.ofString "both") = False := eq_false (by decide)
@[simp] theorem ne_round_either : (Str.ofString "round" = Str.ofString "either") = False := eq_false (by decide)
@[simp] theorem ne_round_in : (Str.ofString "round" = Str.ofString "in") = False := eq_false (by decide)
@[simp] theorem ne_round_out : (Str.ofString "round" = Str.ofString "out") = False := eq_false (by decide)
@[simp] theorem ne_last_came : (Str.ofString "last" = Str.ofString "came") = False := eq_false (by decide)
@[simp] theorem ne_last_round : (Str.ofString "last" = Str.ofString "round") = False := eq_false (by decide)
@[simp] theorem ne_last_first : (Str.ofString "last" = Str.ofString "first") = False := eq_false (by decide)
@[simp] theorem ne_last_since : (Str.ofString "last" = Str.ofString "since") = False := eq_false (by decide)
@[simp] theorem ne_last_here : (Str.ofString "last" = Str.ofString "here") = False := eq_false (by decide)
@[simp] theorem ne_last_free : (Str.ofString "last" = Str.ofString "free") = False := eq_false (by decide)
@[simp] theorem ne_last_who : (Str.ofString "last" = Str.ofString "who") = False := eq_false (by decide)
@[simp] theorem ne_last_note : (Str.ofString "last" = Str.ofString "note") = False := eq_false (by decide)
@[simp] theorem ne_last_mine : (Str.ofString "last" = Str.ofString "mine") = False := eq_false (by decide)
@[simp] theorem ne_last_not : (Str.ofString "last" = Str.ofString "not") = False := eq_false (by decide)
@[simp] theorem ne_last_both : (Str.ofString "last" = Str.ofString "both") = False := eq_false (by decide)
@[simp] theorem ne_last_either : (Str.ofString "last" = Str.ofString "either") = False := eq_false (by decide)
@[simp] theorem ne_last_in : (Str.ofString "last" = Str.ofString "in") = False := eq_false (by decide)
@[simp] theorem ne_last_out : (Str.ofString "last" = Str.ofString "out") = False := eq_false (by decide)
@[simp] theorem ne_first_came : (Str.ofString "first" = Str.ofString "came") = False := eq_false (by decide)
@[simp] theorem ne_first_round : (Str.ofString "first" = Str.ofString "round") = False := eq_false (by decide)
@[simp] theorem ne_first_last : (Str.ofString "first" = Str.ofString "last") = False := eq_false (by decide)
@[simp] theorem ne_first_since : (Str.ofString "first" = Str.ofString "since") = False := eq_false (by decide)
@[simp] theorem ne_first_here : (Str.ofString "first" = Str.ofString "here") = False := eq_false (by decide)
@[simp] theorem ne_first_free : (Str.ofString "first" = Str.ofString "free") = False := eq_false (by decide)
@[simp] theorem ne_first_who : (Str.ofString "first" = Str.ofString "who") = False := eq_false (by decide)
@[simp] theorem ne_first_note : (Str.ofString "first" = Str.ofString "note") = False := eq_false (by decide)
@[simp] theorem ne_first_mine : (Str.ofString "first" = Str.ofString "mine") = False := eq_false (by decide)
@[simp] theorem ne_first_not : (Str.ofString "first" = Str.ofString "not") = False := eq_false (by decide)
@[simp] theorem ne_first_both : (Str.ofString "first" = Str.ofString "both") = False := eq_false (by decide)
@[simp] theorem ne_first_either : (Str.ofString "first" = Str.ofString "either") = False := eq_false (by decide)
@[simp] theorem ne_first_in : (Str.ofString "first" = Str.ofString "in") = False := eq_false (by decide)
@[simp] theorem ne_first_out : (Str.ofString "first" = Str.ofString "out") = False := eq_false (by decide)
@[simp] theorem ne_since_came : (Str.ofString "since" = Str.ofString "came") = False := eq_false (by decide)
@[simp] theorem ne_since_round : (Str.ofString "since" = Str.ofString "round") = False := eq_false (by decide)
@[simp] theorem ne_since_last : (Str.ofString "since" = Str.ofString "last") = False := eq_false (by decide)
@[simp] theorem ne_since_first : (Str.ofString "since" = Str.ofString "first") = False := eq_false (by decide)
@[simp] theorem ne_since_here : (Str.ofString "since" = Str.ofString "here") = False := eq_false (by decide)
@[simp] theorem ne_since_free : (Str.ofString "since" = Str.ofString "free") = False := eq_false (by decide)
@[simp] theorem ne_since_who : (Str.ofString "since" = Str.ofString "who") = False := eq_false (by decide)
@[simp] theorem ne_since_note : (Str.ofString "since" = Str.ofString "note") = False := eq_false (by decide)
@[simp] theorem ne_since_mine : (Str.ofString "since" = Str.ofString "mine") = False := eq_false (by decide)
@[simp] theorem ne_since_not : (Str.ofString "since" = Str.ofString "not") = False := eq_false (by decide)
@[simp] theorem ne_since_both : (Str.ofString "since" = Str.ofString "both") = False := eq_false (by decide)
@[simp] theorem ne_since_either : (Str.ofString "since" = Str.ofString "either") = False := eq_false (by decide)
@[simp] theorem ne_since_in : (Str.ofString "since" = Str.ofString "in") = False := eq_false (by decide)
@[simp] theorem ne_since_out : (Str.ofString "since" = Str.ofString "out") = False := eq_false (by decide)
@[simp] theorem ne_here_came : (Str.ofString "here" = Str.ofString "came") = False := eq_false (by decide)
@[simp] theorem ne_here_round : (Str.ofString "here" = Str.ofString "round") = False := eq_false (by decide)
@[simp] theorem ne_here_last : (Str.ofString "here" = Str.ofString "last") = False := eq_false (by decide)
@[simp] theorem ne_here_first : (Str.ofString "here" = Str.ofString "first") = False := eq_false (by decide)
@[simp] theorem ne_here_since : (Str.ofString "here" = Str.ofString "since") = False := eq_false (by decide)
@[simp] theorem ne_here_free : (Str.ofString "here" = Str.ofString "free") = False := eq_false (by decide)
@[simp] theorem ne_here_who : (Str.ofString "here" = Str.ofString "who") = False := eq_false (by decide)
@[simp] theorem ne_here_note : (Str.ofString "here" = Str.ofString "note") = False := eq_false (by decide)
@[simp] theorem ne_here_mine : (Str.ofString "here" = Str.ofString "mine") = False := eq_false (by decide)
@[simp] theorem ne_here_not : (Str.ofString "here" = Str.ofString "not") = False := eq_false (by decide)
@[simp] theorem ne_here_both : (Str.ofString "here" = Str.ofString "both") = False := eq_false (by decide)
@[simp] theorem ne_here_either : (Str.ofString "here" = Str.ofString "either") = False := eq_false (by decide)
@[simp] theorem ne_here_in : (Str.ofString "here" = Str.ofString "in") = False := eq_false (by decide)
@[simp] theorem ne_here_out : (Str.ofString "here" = Str.ofString "out") = False := eq_false (by decide)
@[simp] theorem ne_free_came : (Str.ofString "free" = Str.ofString "came") = False := eq_false (by decide)
@[simp] theorem ne_free_round : (Str.ofString "free" = Str.ofString "round") = False := eq_false (by decide)
@[simp] theorem ne_free_last : (Str.ofString "free" = Str.ofString "last") = False := eq_false (by decide)
@[simp] theorem ne_free_first : (Str.ofString "free" = Str.ofString "first") = False := eq_false (by decide)
@[simp] theorem ne_free_since : (Str.ofString "free" = Str.ofString "since") = False := eq_false (by decide)
@[simp] theorem ne_free_here : (Str.ofString "free" = Str.ofString "here") = False := eq_false (by decide)
@[simp] theorem ne_free_who : (Str.ofString "free" = Str.ofString "who") = False := eq_false (by decide)
@[simp] theorem ne_free_note : (Str.ofString "free" = Str.ofString "note") = False := eq_false (by decide)
@[simp] theorem ne_free_mine : (Str.ofString "free" = Str.ofString "mine") = False := eq_false (by decide)
@[simp] theorem ne_free_not : (Str.ofString "free" = Str.ofString "not") = False := eq_false (by decide)
@[simp] theorem ne_free_both : (Str.ofString "free" = Str.ofString "both") = False := eq_false (by decide)
@[simp] theorem ne_free_either : (Str.ofString "free" = Str.ofString "either") = False := eq_false (by decide)
@[simp] theorem ne_free_in : (Str.ofString "free" = Str.ofString "in") = False := eq_false (by decide)
@[simp] theorem ne_free_out : (Str.ofString "free" = Str.ofString "out") = False := eq_false (by decide)
@[simp] theorem ne_who_came : (Str.ofString "who" = Str.ofString "came") = False := eq_false (by decide)
@[simp] theorem ne_who_round : (Str.ofString "who" = Str.ofString "round") = False := eq_false (by decide)
@[simp] theorem ne_who_last : (Str.ofString "who" = Str.ofString "last") = False := eq_false (by decide)
@[simp] theorem ne_who_first : (Str.ofString "who" = Str.ofString "first") = False := eq_false (by decide)
@[simp] theorem ne_who_since : (Str.ofString "who" = Str.ofString "since") = False := eq_false (by decide)
@[simp] theorem ne_who_here : (Str.ofString "who" = Str.ofString "here") = False := eq_false (by decide)
@[simp] theorem ne_who_free : (Str.ofString "who" = Str.ofString "free") = False := eq_false (by decide)
@[simp] theorem ne_who_note : (Str.ofString "who" = Str.ofString "note") = False := eq_false (by decide)
@[simp] theorem ne_who_mine : (Str.ofString "who" = Str.ofString "mine") = False := eq_false (by decide)
@[simp] theorem ne_who_not : (Str.ofString "who" = Str.ofString "not") = False := eq_false (by decide)
@[simp] theorem ne_who_both : (Str.ofString "who" = Str.ofString "both") = False := eq_false (by decide)
@[simp] theorem ne_who_either : (Str.ofString "who" = Str.ofString "either") = False := eq_false (by decide)
@[simp] theorem ne_who_in : (Str.ofString "who" = Str.ofString "in") = False := eq_false (by decide)
@[simp] theorem ne_who_out : (Str.ofString "who" = Str.ofString "out") = False := eq_false (by decide)
@[simp] theorem ne_note_came : (Str.ofString "note" = Str.ofString "came") = False := eq_false (by decide)
@[simp] theorem ne_note_round : (Str.ofString "note" = Str.ofString "round") = False := eq_false (by decide)
@[simp] theorem ne_note_last : (Str.ofString "note" = Str.ofString "last") = False := eq_false (by decide)
@[simp] theorem ne_note_first : (Str.ofString "note" = Str.ofString "first") = False := eq_false (by decide)
@[simp] theorem ne_note_since : (Str.ofString "note" = Str.ofString "since") = False := eq_false (by decide)
@[simp] theorem ne_note_here : (Str.ofString "note" = Str.ofString "here") = False := eq_false (by decide)
@[simp] theorem ne_note_free : (Str.ofString "note" = Str.ofString "free") = False := eq_false (by decide)
@[simp] theorem ne_note_who : (Str.ofString "note" = Str.ofString "who") = False := eq_false (by decide)
@[simp] theorem ne_note_mine : (Str.ofString "note" = Str.ofString "mine") = False := eq_false (by decide)
@[simp] theorem ne_note_not : (Str.ofString "note" = Str.ofString "not") = False := eq_false (by decide)
@[simp] theorem ne_note_both : (Str.ofString "note" = Str.ofString "both") = False := eq_false (by decide)
@[simp] theorem ne_note_either : (Str.ofString "note" = Str.ofString "either") = False := eq_false (by decide)
@[simp] theorem ne_note_in : (Str.ofString "note" = Str.ofString "in") = False := eq_false (by decide)
@[simp] theorem ne_note_out : (Str.ofString "note" = Str.ofString "out") = False := eq_false (by decide)
@[simp] theorem ne_mine_came : (Str.ofString "mine" = Str.ofString "came") = False := eq_false (by decide)
@[simp] theorem ne_mine_round : (Str.ofString "mine" = Str.ofString "round") = False := eq_false (by decide)
@[simp] theorem ne_mine_last : (Str.ofString "mine" = Str.ofString "last") = False := eq_false (by decide)
@[simp] theorem ne_mine_first : (Str.ofString "mine" = Str.ofString "first") = False := eq_false (by decide)
@[simp] theorem ne_mine_since : (Str.ofString "mine" = Str.ofString "since") = False := eq_false (by decide)
@[simp] theorem ne_mine_here : (Str.ofString "mine" = Str.ofString "here") = False := eq_false (by decide)
@[simp] theorem ne_mine_free : (Str.ofString "mine" = Str.ofString "free") = False := eq_false (by decide)
@[simp] theorem ne_mine_who : (Str.ofString "mine" = Str.ofString "who") = False := eq_false (by decide)
@[simp] theorem ne_mine_note : (Str.ofString "mine" = Str.ofString "note") = False := eq_false (by decide)
@[simp] theorem ne_mine_not : (Str.ofString "mine" = Str.ofString "not") = False := eq_false (by decide)
@[simp] theorem ne_mine_both : (Str.ofString "mine" = Str.ofString "both") = False := eq_false (by decide)
@[simp] theorem ne_mine_either : (Str.ofString "mine" = Str.ofString "either") = False := eq_false (by decide)
@[simp] theorem ne_mine_in : (Str.ofString "mine" = Str.ofString "in") = False := eq_false (by decide)
@[simp] theorem ne_mine_out : (Str.ofString "mine" = Str.ofString "out") = False := eq_false (by decide)
@[simp] theorem ne_not_came : (Str.ofString "not" = Str.ofString "came") = False := eq_false (by decide)
@[simp] theorem ne_not_round : (Str.ofString "not" = Str.ofString "round") = False := eq_false (by decide)
@[simp] theorem ne_not_last : (Str.ofString "not" = Str.ofString "last") = False := eq_false (by decide)
@[simp] theorem ne_not_first : (Str.ofString "not" = Str.ofString "first") = False := eq_false (by decide)
@[simp] theorem ne_not_since : (Str.ofString "not" = Str.ofString "since") = False := eq_false (by decide)
@[simp] theorem ne_not_here : (Str.ofString "not" = Str.ofString "here") = False := eq_false (by decide)
@[simp] theorem ne_not_free : (Str.ofString "not" = Str.ofString "free") = False := eq_false (by decide)
@[simp] theorem ne_not_who : (Str.ofString "not" = Str.ofString "who") = False := eq_false (by decide)
@[simp] theorem ne_not_note : (Str.ofString "not" = Str.ofString "note") = False := eq_false (by decide)
@[simp] theorem ne_not_mine : (Str.ofString "not" = Str.ofString "mine") = False := eq_false (by decide)
@[simp] theorem ne_not_both : (Str.ofString "not" = Str.ofString "both") = False := eq_false (by decide)
@[simp] theorem ne_not_either : (Str.ofString "not" = Str.ofString "either") = False := eq_false (by decide)
@[simp] theorem ne_not_in : (Str.ofString "not" = Str.ofString "in") = False := eq_false (by decide)
@[simp] theorem ne_not_out : (Str.ofString "not" = Str.ofString "out") = False := eq_false (by decide)
@[simp] theorem ne_both_came : (Str.ofString "both" = Str.ofString "came") = False := eq_false (by decide)
@[simp] theorem ne_both_round : (Str.ofString "both" = Str.ofString "round") = False := eq_false (by decide)
@[simp] theorem ne_both_last : (Str.ofString "both" = Str.ofString "last") = False := eq_false (by decide)
@[simp] theorem ne_both_first : (Str.ofString "both" = Str.ofString "first") = False := eq_false (by decide)
@[simp] theorem ne_both_since : (Str.ofString "both" = Str.ofString "since") = False := eq_false (by decide)
@[simp] theorem ne_both_here : (Str.ofString "both" = Str.ofString "here") = False := eq_false (by decide)
@[simp] theorem ne_both_free : (Str.ofString "both" = Str.ofString "free") = False := eq_false (by decide)
@[simp] theorem ne_both_who : (Str.ofString "both" = Str.ofString "who") = False := eq_false (by decide)
@[simp] theorem ne_both_note : (Str.ofString "both" = Str.ofString "note") = False := eq_false (by decide)
@[simp] theorem ne_both_mine : (Str.ofString "both" = Str.ofString "mine") = False := eq_false (by decide)
@[simp] theorem ne_both_not : (Str.ofString "both" = Str.ofString "not") = False := eq_false (by decide)
@[simp] theorem ne_both_either : (Str.ofString "both" = Str.ofString "either") = False := eq_false (by decide)
@[simp] theorem ne_both_in : (Str.ofString "both" = Str.ofString "in") = False := eq_false (by decide)
@[simp] theorem ne_both_out : (Str.ofString "both" = Str.ofString "out") = False := eq_false (by decide)
@[simp] theorem ne_either_came : (Str.ofString "either" = Str.ofString "came") = False := eq_false (by decide)
@[simp] theorem ne_either_round : (Str.ofString "either" = Str.ofString "round") = False := eq_false (by decide)
@[simp] theorem ne_either_last : (Str.ofString "either" = Str.ofString "last") = False := eq_false (by decide)
@[simp] theorem ne_either_first : (Str.ofString "either" = Str.ofString "first") = False := eq_false (by decide)
@[simp] theorem ne_either_since : (Str.ofString "either" = Str.ofString "since") = False := eq_false (by decide)
@[simp] theorem ne_either_here : (Str.ofString "either" = Str.ofString "here") = False := eq_false (by decide)
@[simp] theorem ne_either_free : (Str.ofString "either" = Str.ofString "free") = False := eq_false (by decide)
@[simp] theorem ne_either_who : (Str.ofString "either" = Str.ofString "who") = False := eq_false (by decide)
@[simp] theorem ne_either_note : (Str.ofString "either" = Str.ofString "note") = False := eq_false (by decide)
@[simp] theorem ne_either_mine : (Str.ofString "either" = Str.ofString "mine") = False := eq_false (by decide)
@[simp] theorem ne_either_not : (Str.ofString "either" = Str.ofString "not") = False := eq_false (by decide)
@[simp] theorem ne_either_both : (Str.ofString "either" = Str.ofString "both") = False := eq_false (by decide)
@[simp] theorem ne_either_in : (Str.ofString "either" = Str.ofString "in") = False := eq_false (by decide)
@[simp] theorem ne_either_out : (Str.ofString "either" = Str.ofString "out") = False := eq_false (by decide)
@[simp] theorem ne_in_came : (Str.ofString "in" = Str.ofString "came") = False := eq_false (by decide)
@[simp] theorem ne_in_round : (Str.ofString "in" = Str.ofString "round") = False := eq_false (by decide)
@[simp] theorem ne_in_last : (Str.ofString "in" = Str.ofString "last") = False := eq_false (by decide)
@[simp] theorem ne_in_first : (Str.ofString "in" = Str.ofString "first") = False := eq_false (by decide)
@[simp] theorem ne_in_since : (Str.ofString "in" = Str.ofString "since") = False := eq_false (by decide)
@[simp] theorem ne_in_here : (Str.ofString "in" = Str.ofString "here") = False := eq_false (by decide)
@[simp] theorem ne_in_free : (Str.ofString "in" = Str.ofString "free") = False := eq_false (by decide)
@[simp] theorem ne_in_who : (Str.ofString "in" = Str.ofString "who") = False := eq_false (by decide)
@[simp] theorem ne_in_note : (Str.ofString "in" = Str.ofString "note") = False := eq_false (by decide)
@[simp] theorem ne_in_mine : (Str.ofString "in" = Str.ofString "mine") = False := eq_false (by decide)
@[simp] theorem ne_in_not : (Str.ofString "in" = Str.ofString "not") = False := eq_false (by decide)
@[simp] theorem ne_in_both : (Str.ofString "in" = Str.ofString "both") = False := eq_false (by decide)
@[simp] theorem ne_in_either : (Str.ofString "in" = Str.ofString "either") = False := eq_false (by decide)
@[simp] theorem ne_in_out : (Str.ofString "in" = Str.ofString "out") = False := eq_false (by decide)
@[simp] theorem ne_out_came : (Str.ofString "out" = Str.ofString "came") = False := eq_false (by decide)
@[simp] theorem ne_out_round : (Str.ofString "out" = Str.ofString "round") = False := eq_false (by decide)
@[simp] theorem ne_out_last : (Str.ofString "out" = Str.ofString "last") = False := eq_false (by decide)
@[simp] theorem ne_out_first : (Str.ofString "out" = Str.ofString "first") = False := eq_false (by decide)
@[simp] theorem ne_out_since : (Str.ofString "out" = Str.ofString "since") = False := eq_false (by decide)
@[simp] theorem ne_out_here : (Str.ofString "out" = Str.ofString "here") = False := eq_false (by decide)
@[simp] theorem ne_out_free : (Str.ofString "out" = Str.ofString "free") = False := eq_false (by decide)
@[simp] theorem ne_out_who : (Str.ofString "out" = Str.ofString "who") = False := eq_false (by decide)
@[simp] theorem ne_out_note : (Str.ofString "out" = Str.ofString "note") = False := eq_false (by decide)
@[simp] theorem ne_out_mine : (Str.ofString "out" = Str.ofString "mine") = False := eq_false (by decide)
@[simp] theorem ne_out_not : (Str.ofString "out" = Str.ofString "not") = False := eq_false (by decide)
@[simp] theorem ne_out_both : (Str.ofString "out" = Str.ofString "both") = False := eq_false (by decide)
@[simp] theorem ne_out_either : (Str.ofString "out" = Str.ofString "either") = False := eq_false (by decide)
@[simp] theorem ne_out_in : (Str.ofString "out" = Str.ofString "in") = False := eq_false (by decide)
@[simp] theorem ne_In_came : (Str.ofString "In" = Str.ofString "came") = False := eq_false (by decide)
@[simp] theorem ne_In_round : (Str.ofString "In" = Str.ofString "round") = False := eq_false (by decide)
@[simp] theorem ne_In_last : (Str.ofString "In" = Str.ofString "last") = False := eq_false (by decide)
@[simp] theorem ne_In_first : (Str.ofString "In" = Str.ofString "first") = False := eq_false (by decide)
@[simp] theorem ne_In_since : (Str.ofString "In" = Str.ofString "since") = False := eq_false (by decide)
@[simp] theorem ne_In_here : (Str.ofString "In" = Str.ofString "here") = False := eq_false (by decide)
@[simp] theorem ne_In_free : (Str.ofString "In" = Str.ofString "free") = False := eq_false (by decide)
@[simp] theorem ne_In_who : (Str.ofString "In" = Str.ofString "who") = False := eq_false (by decide)
@[simp] theorem ne_In_note : (Str.ofString "In" = Str.ofString "note") = False := eq_false (by decide)
@[simp] theorem ne_In_mine : (Str.ofString "In" = Str.ofString "mine") = False := eq_false (by decide)
@[simp] theorem ne_In_not : (Str.ofString "In" = Str.ofString "not") = False := eq_false (by decide)
@[simp] theorem ne_In_both : (Str.ofString "In" = Str.ofString "both") = False := eq_false (by decide)
@[simp] theorem ne_In_either : (Str.ofString "In" = Str.ofString "either") = False := eq_false (by decide)
@[simp] theorem ne_In_in : (Str.ofString "In" = Str.ofString "in") = False := eq_false (by decide)
@[simp] theorem ne_In_out : (Str.ofString "In" = Str.ofString "out") = False := eq_false (by decide)
@[simp] theorem ne_Came_came : (Str.ofString "Came" = Str.ofString "came") = False := eq_false (by decide)
@[simp] theorem ne_Came_round : (Str.ofString "Came" = Str.ofString "round") = False := eq_false (by decide)
@[simp] theorem ne_Came_last : (Str.ofString "Came" = Str.ofString "last") = False := eq_false (by decide)
@[simp] theorem ne_Came_first : (Str.ofString "Came" = Str.ofString "first") = False := eq_false (by decide)
@[simp] theorem ne_Came_since : (Str.ofString "Came" = Str.ofString "since") = False := eq_false (by decide)
@[simp] theorem ne_Came_here : (Str.ofString "Came" = Str.ofString "here") = False := eq_false (by decide)
@[simp] theorem ne_Came_free : (Str.ofString "Came" = Str.ofString "free") = False := eq_false (by decide)
@[simp] theorem ne_Came_who : (Str.ofString "Came" = Str.ofString "who") = False := eq_false (by decide)
@[simp] theorem ne_Came_note : (Str.ofString "Came" = Str.ofString "note") = False := eq_false (by decide)
@[simp] theorem ne_Came_mine : (Str.ofString "Came" = Str.ofString "mine") = False := eq_false (by decide)
@[simp] theorem ne_Came_not : (Str.ofString "Came" = Str.ofString "not") = False := eq_false (by decide)
@[simp] theorem ne_Came_both : (Str.ofString "Came" = Str.ofString "both") = False := eq_false (by decide)
@[simp] theorem ne_Came_either : (Str.ofString "Came" = Str.ofString "either") = False := eq_false (by decide)
@[simp] theorem ne_Came_in : (Str.ofString "Came" = Str.ofString "in") = False := eq_false (by decide)
@[simp] theorem ne_Came_out : (Str.ofString "Came" = Str.ofString "out") = False := eq_false (by decide)
@[simp] theorem ne_Free_came : (Str.ofString "Free" = Str.ofString "came") = False := eq_false (by decide)
@[simp] theorem ne_Free_round : (Str.ofString "Free" = Str.ofString "round") = False := eq_false (by decide)
@[simp] theorem ne_Free_last : (Str.ofString "Free" = Str.ofString "last") = False := eq_false (by decide)
@[simp] theorem ne_Free_first : (Str.ofString "Free" = Str.ofString "first") = False := eq_false (by decide)
@[simp] theorem ne_Free_since : (Str.ofString "Free" = Str.ofString "since") = False := eq_false (by decide)
@[simp] theorem ne_Free_here : (Str.ofString "Free" = Str.ofString "here") = False := eq_false (by decide)
@[simp] theorem ne_Free_free : (Str.ofString "Free" = Str.ofString "free") = False := eq_false (by decide)
@[simp] theorem ne_Free_who : (Str.ofString "Free" = Str.ofString "who") = False := eq_false (by decide)
@[simp] theorem ne_Free_note : (Str.ofString "Free" = Str.ofString "note") = False := eq_false (by decide)
@[simp] theorem ne_Free_mine : (Str.ofString "Free" = Str.ofString "mine") = False := eq_false (by decide)
@[simp] theorem ne_Free_not : (Str.ofString "Free" = Str.ofString "not") = False := eq_false (by decide)
@[simp] theorem ne_Free_both : (Str.ofString "Free" = Str.ofString "both") = False := eq_false (by decide)
@[simp] theorem ne_Free_either : (Str.ofString "Free" = Str.ofString "either") = False := eq_false (by decide)
@[simp] theorem ne_Free_in : (Str.ofString "Free" = Str.ofString "in") = False := eq_false (by decide)
@[simp] theorem ne_Free_out : (Str.ofString "Free" = Str.ofString "out") = False := eq_false (by decide)
@[simp] theorem dep_s_came : dep (.str (Str.ofString "came")) = 0 := by decide +kernel
@[simp] theorem short_s_came : shortD (.str (Str.ofString "came")) = true := by decide +kernel
@[simp] theorem wgt_s_came : wgt (.str (Str.ofString "came")) = 4 := by decide +kernel
@[simp] theorem dep_s_round : dep (.str (Str.ofString "round")) = 0 := by decide +kernel
@[simp] theorem short_s_round : shortD (.str (Str.ofString "round")) = true := by decide +kernel
@[simp] theorem wgt_s_round : wgt (.str (Str.ofString "round")) = 5 := by decide +kernel
@[simp] theorem dep_s_last : dep (.str (Str.ofString "last")) = 0 := by decide +kernel
@[simp] theorem short_s_last : shortD (.str (Str.ofString "last")) = true := by decide +kernel
@[simp] theorem wgt_s_last : wgt (.str (Str.ofString "last")) = 4 := by decide +kernel
@[simp] theorem dep_s_first : dep (.str (Str.ofString "first")) = 0 := by decide +kernel
@[simp] theorem short_s_first : shortD (.str (Str.ofString "first")) = true := by decide +kernel
@[simp] theorem wgt_s_first : wgt (.str (Str.ofString "first")) = 5 := by decide +kernel
@[simp] theorem dep_s_since : dep (.str (Str.ofString "since")) = 0 := by decide +kernel
@[simp] theorem short_s_since : shortD (.str (Str.ofString "since")) = true := by decide +kernel
@[simp] theorem wgt_s_since : wgt (.str (Str.ofString "since")) = 5 := by decide +kernel
@[simp] theorem dep_s_here : dep (.str (Str.ofString "here")) = 0 := by decide +kernel
@[simp] theorem short_s_here : shortD (.str (Str.ofString "here")) = true := by decide +kernel
@[simp] theorem wgt_s_here : wgt (.str (Str.ofString "here")) = 4 := by decide +kernel
@[simp] theorem dep_s_free : dep (.str (Str.ofString "free")) = 0 := by decide +kernel
@[simp] theorem short_s_free : shortD (.str (Str.ofString "free")) = true := by decide +kernel
@[simp] theorem wgt_s_free : wgt (.str (Str.ofString "free")) = 4 := by decide +kernel
@[simp] theorem dep_s_who : dep (.str (Str.ofString "who")) = 0 := by decide +kernel
@[simp] theorem short_s_who : shortD (.str (Str.ofString "who")) = true := by decide +kernel
@[simp] theorem wgt_s_who : wgt (.str (Str.ofString "who")) = 3 := by decide +kernel
@[simp] theorem dep_s_note : dep (.str (Str.ofString "note")) = 0 := by decide +kernel
@[simp] theorem short_s_note : shortD (.str (Str.ofString "note")) = true := by decide +kernel
@[simp] theorem wgt_s_note : wgt (.str (Str.ofString "note")) = 4 := by decide +kernel
@[simp] theorem dep_s_mine : dep (.str (Str.ofString "mine")) = 0 := by decide +kernel
@[simp] theorem short_s_mine : shortD (.str (Str.ofString "mine")) = true := by decide +kernel
@[simp] theorem wgt_s_mine : wgt (.str (Str.ofString "mine")) = 4 := by decide +kernel
@[simp] theorem dep_s_not : dep (.str (Str.ofString "not")) = 0 := by decide +kernel
@[simp] theorem short_s_not : shortD (.str (Str.ofString "not")) = true := by decide +kernel
@[simp] theorem wgt_s_not : wgt (.str (Str.ofString "not")) = 3 := by decide +kernel
@[simp] theorem dep_s_both : dep (.str (Str.ofString "both")) = 0 := by decide +kernel
@[simp] theorem short_s_both : shortD (.str (Str.ofString "both")) = true := by decide +kernel
@[simp] theorem wgt_s_both : wgt (.str (Str.ofString "both")) = 4 := by decide +kernel
@[simp] theorem dep_s_either : dep (.str (Str.ofString "either")) = 0 := by decide +kernel
@[simp] theorem short_s_either : shortD (.str (Str.ofString "either")) = true := by decide +kernel
@[simp] theorem wgt_s_either : wgt (.str (Str.ofString "either")) = 6 := by decide +kernel
@[simp] theorem dep_s_in : dep (.str (Str.ofString "in")) = 0 := by decide +kernel
@[simp] theorem short_s_in : shortD (.str (Str.ofString "in")) = true := by decide +kernel
@[simp] theorem wgt_s_in : wgt (.str (Str.ofString "in")) = 2 := by decide +kernel
@[simp] theorem dep_s_out : dep (.str (Str.ofString "out")) = 0 := by decide +kernel
@[simp] theorem short_s_out : shortD (.str (Str.ofString "out")) = true := by decide +kernel
@[simp] theorem wgt_s_out : wgt (.str (Str.ofString "out")) = 3 := by decide +kernel
@[simp] theorem dep_s_told : dep (.str (Str.ofString "told")) = 0 := by decide +kernel
@[simp] theorem short_s_told : shortD (.str (Str.ofString "told")) = true := by decide +kernel
@[simp] theorem wgt_s_told : wgt (.str (Str.ofString "told")) = 4 := by decide +kernel
@[simp] theorem dep_s_number : dep (.str (Str.ofString "number")) = 0 := by decide +kernel
@[simp] theorem short_s_number : shortD (.str (Str.ofString "number")) = true := by decide +kernel
@[simp] theorem wgt_s_number : wgt (.str (Str.ofString "number")) = 6 := by decide +kernel
@[simp] theorem dep_s_odd : dep (.str (Str.ofString "odd")) = 0 := by decide +kernel
@[simp] theorem short_s_odd : shortD (.str (Str.ofString "odd")) = true := by decide +kernel
@[simp] theorem wgt_s_odd : wgt (.str (Str.ofString "odd")) = 3 := by decide +kernel
@[simp] theorem dep_s_value : dep (.str (Str.ofString "value")) = 0 := by decide +kernel
@[simp] theorem short_s_value : shortD (.str (Str.ofString "value")) = true := by decide +kernel
@[simp] theorem wgt_s_value : wgt (.str (Str.ofString "value")) = 5 := by decide +kernel
@[simp] theorem dep_s_touch : dep (.str (Str.ofString "touch")) = 0 := by decide +kernel
@[simp] theorem short_s_touch : shortD (.str (Str.ofString "touch")) = true := by decide +kernel
@[simp] theorem wgt_s_touch : wgt (.str (Str.ofString "touch")) = 5 := by decide +kernel
@[simp] theorem dep_s_In : dep (.str (Str.ofString "In")) = 0 := by decide +kernel
@[simp] theorem short_s_In : shortD (.str (Str.ofString "In")) = true := by decide +kernel
@[simp] theorem wgt_s_In : wgt (.str (Str.ofString "In")) = 2 := by decide +kernel
@[simp] theorem dep_s_Came : dep (.str (Str.ofString "Came")) = 0 := by decide +kernel
@[simp] theorem short_s_Came : shortD (.str (Str.ofString "Came")) = true := by decide +kernel
@[simp] theorem wgt_s_Came : wgt (.str (Str.ofString "Came")) = 4 := by decide +kernel
@[simp] theorem dep_s_Free : dep (.str (Str.ofString "Free")) = 0 := by decide +kernel
@[simp] theorem short_s_Free : shortD (.str (Str.ofString "Free")) = true := by decide +kernel
@[simp] theorem wgt_s_Free : wgt (.str (Str.ofString "Free")) = 4 := by decide +kernel
@[simp] theorem dep_s_empty : dep (.str (Str.ofString "")) = 0 := by decide +kernel
@[simp] theorem short_s_empty : shortD (.str (Str.ofString "")) = true := by decide +kernel
@[simp] theorem wgt_s_empty : wgt (.str (Str.ofString "")) = 0 := by decide +kernel
@[simp] theorem dep_s_d0 : dep (.str (Str.ofString "0")) = 0 := by decide +kernel
@[simp] theorem short_s_d0 : shortD (.str (Str.ofString "0")) = true := by decide +kernel
@[simp] theorem wgt_s_d0 : wgt (.str (Str.ofString "0")) = 1 := by decide +kernel
@[simp] theorem dep_s_d1 : dep (.str (Str.ofString "1")) = 0 := by decide +kernel
@[simp] theorem short_s_d1 : shortD (.str (Str.ofString "1")) = true := by decide +kernel
@[simp] theorem wgt_s_d1 : wgt (.str (Str.ofString "1")) = 1 := by decide +kernel
@[simp] theorem dep_s_d2 : dep (.str (Str.ofString "2")) = 0 := by decide +kernel
@[simp] theorem short_s_d2 : shortD (.str (Str.ofString "2")) = true := by decide +kernel
@[simp] theorem wgt_s_d2 : wgt (.str (Str.ofString "2")) = 1 := by decide +kernel
@[simp] theorem dep_s_number_ : dep (.str (Str.ofString "number ")) = 0 := by decide +kernel
@[simp] theorem short_s_number_ : shortD (.str (Str.ofString "number ")) = true := by decide +kernel
@[simp] theorem wgt_s_number_ : wgt (.str (Str.ofString "number ")) = 7 := by decide +kernel
@[simp] theorem dep_s_rule : dep (.str (Str.ofString "rule")) = 0 := by decide +kernel
@[simp] theorem short_s_rule : shortD (.str (Str.ofString "rule")) = true := by decide +kernel
@[simp] theorem wgt_s_rule : wgt (.str (Str.ofString "rule")) = 4 := by decide +kernel
@[simp] theorem dep_t (xs : List D) : dep (.tup xs) = depL xs + 1 := rfl
@[simp] theorem dep_l (xs : List D) : dep (.lst xs) = depL xs + 1 := rfl
@[simp] theorem dep_i (i : Int) : dep (.int i) = 0 := rfl
@[simp] theorem dep_b (i : Bool) : dep (.bl i) = 0 := rfl
@[simp] theorem dep_n : dep .non = 0 := rfl
@[simp] theorem depL_n : depL [] = 0 := rfl
@[simp] theorem depL_c (x : D) (xs : List D) : depL (x :: xs) = max (dep x) (depL xs) := rfl
@[simp] theorem short_t (xs : List D) : shortD (.tup xs) = shortL xs := rfl
@[simp] theorem short_l (xs : List D) : shortD (.lst xs) = shortL xs := rfl
@[simp] theorem short_n : shortD .non = true := rfl
@[simp] theorem short_b (b : Bool) : shortD (.bl b) = true := rfl
@[simp] theorem shortL_n : shortL [] = true := rfl
@[simp] theorem shortL_c (x : D) (xs : List D) : shortL (x :: xs) = (shortD x && shortL xs) := rfl
@[simp] theorem wgt_t (xs : List D) : wgt (.tup xs) = wgtL xs := rfl
@[simp] theorem wgt_l (xs : List D) : wgt (.lst xs) = wgtL xs := rfl
@[simp] theorem wgt_n : wgt .non = 0 := rfl
@[simp] theorem wgt_b (b : Bool) : wgt (.bl b) = 0 := rfl
@[simp] theorem wgt_i (b : Int) : wgt (.int b) = 134 := rfl
@[simp] theorem wgtL_n : wgtL [] = 0 := rfl
@[simp] theorem wgtL_c (x : D) (xs : List D) : wgtL (x :: xs) = wgt x + 1 + wgtL xs := rfl
@[simp] theorem plain_t (xs : List D) : plainD (.tup xs) = plainL xs := rfl
@[simp] theorem plain_l (xs : List D) : plainD (.lst xs) = plainL xs := rfl
@[simp] theorem plain_i (i : Int) : plainD (.int i) = true := rfl
@[simp] theorem plain_b (i : Bool) : plainD (.bl i) = true := rfl
@[simp] theorem plain_n : plainD .non = true := rfl
@[simp] theorem plain_s (x : Str) : plainD (.str x) = true := rfl
@[simp] theorem plainL_n : plainL [] = true := rfl
@[simp] theorem plainL_c (x : D) (xs : List D) : plainL (x :: xs) = (plainD x && plainL xs) := rfl
theorem short_i {i : Int} (h0 : -1000000 ≤ i) (h1 : i ≤ 1000000) : shortD (.int i) = true := by
  simp only [shortD, decide_eq_true_eq]
  have h9 : i.natAbs < 1000001 := by omega
  exact Nat.lt_trans h9 (by decide)
@[simp] theorem short_1039 : shortD (.int 1000000000000000000000000000000000000000) = true := by decide +kernel
end DL
end

section
set_option Elab.async false
set_option linter.all false
set_option maxRecDepth 100000
/-! W5: comprehensions that only look. -/
namespace DL
open PySem PySem.Spec PyProof.Rows L2
theorem compL_map {vs : List Nat} {t : D → Env → Option Env} {fe : Env → R D} {f : D → D} {E0 : Env} : ∀ (ds : List D), (∀ d ∈ ds, ∃ E1, t d E0 = some E1 ∧ fe E1 = .ok (f d) E1 ∧ wipeE E1 vs = E0) → compL vs t bTrue fe ds E0 = .ok (ds.map f) E0
  | [], _ => rfl
  | d :: ds, h => by
    obtain ⟨E1, h1, h2, h3⟩ := h d (List.mem_cons_self ..)
    unfold compL
    rw [h1, opt_some, bnd_ok, bTrue_ap, bnd_ok, if_pos rfl, h2, bnd_ok, h3, compL_map ds fun x hx => h x (List.mem_cons_of_mem _ hx), bnd_ok]
    rfl
theorem compL_filter {vs : List Nat} {t : D → Env → Option Env} {tt : Env → R Bool} {fe : Env → R D} {p : D → Bool} {f : D → D} {E0 : Env} : ∀ (ds : List D), (∀ d ∈ ds, ∃ E1, t d E0 = some E1 ∧ tt E1 = .ok (p d) E1 ∧ (p d = true → fe E1 = .ok (f d) E1) ∧ wipeE E1 vs = E0) → compL vs t tt fe ds E0 = .ok ((ds.filter p).map f) E0
  | [], _ => rfl
  | d :: ds, h => by
    obtain ⟨E1, h1, h2, h3, h4⟩ := h d (List.mem_cons_self ..)
    have ih := compL_filter (vs := vs) (t := t) (tt := tt) (fe := fe) (p := p) (f := f) (E0 := E0) ds fun x hx => h x (List.mem_cons_of_mem _ hx)
    unfold compL
    rw [h1, opt_some, bnd_ok, h2, bnd_ok]
    cases q : p d with
    | true =>
      rw [if_pos rfl, h3 q, bnd_ok, h4, ih, bnd_ok, List.filter_cons_of_pos q]
      rfl
    | false =>
      rw [if_neg Bool.false_ne_true, h4, ih, List.filter_cons_of_neg (by rw [q]; exact Bool.false_ne_true)]
theorem mComp_map {vs : List Nat} {fi : Env → R (List D)} {t : D → Env → Option Env} {fe : Env → R D} (f : D → D) {E0 : Env} {ds : List D} (hi : fi E0 = .ok ds E0) (hn : vs.all (noM E0) = true) (hl : ds.length < 16777216) (hw : wipeE E0 vs = E0) (hb : backE E0 E0 vs = E0)
    (h : ∀ d ∈ ds, ∃ E1, t d E0 = some E1 ∧ fe E1 = .ok (f d) E1 ∧ wipeE E1 vs = E0) : mComp vs fi t bTrue fe E0 = .ok (ds.map f) E0 := by
  unfold mComp
  rw [hi, bnd_ok, if_pos ⟨hn, hl⟩, hw, compL_map ds h]
  show R.ok _ (backE E0 E0 vs) = _
  rw [hb]
theorem mComp_filter {vs : List Nat} {fi : Env → R (List D)} {t : D → Env → Option Env} {tt : Env → R Bool} {fe : Env → R D} (p : D → Bool) (f : D → D) {E0 : Env} {ds : List D} (hi : fi E0 = .ok ds E0) (hn : vs.all (noM E0) = true) (hl : ds.length < 16777216) (hw : wipeE E0 vs = E0) (hb : backE E0 E0 vs = E0)
    (h : ∀ d ∈ ds, ∃ E1, t d E0 = some E1 ∧ tt E1 = .ok (p d) E1 ∧ (p d = true → fe E1 = .ok (f d) E1) ∧ wipeE E1 vs = E0) : mComp vs fi t tt fe E0 = .ok ((ds.filter p).map f) E0 := by
  unfold mComp
  rw [hi, bnd_ok, if_pos ⟨hn, hl⟩, hw, compL_filter ds h]
  show R.ok _ (backE E0 E0 vs) = _
  rw [hb]
theorem boolsOf_map (p : D → Bool) : ∀ ds : List D, boolsOf (ds.map fun d => .bl (p d)) = some (ds.map p)
  | [] => rfl
  | d :: ds => by
    show (boolsOf (ds.map fun d => .bl (p d))).map (p d :: ·) = _
    rw [boolsOf_map p ds]
    rfl
@[simp] theorem all_map (p : D → Bool) (ds : List D) : allD (.lst (ds.map fun d => .bl (p d))) = some (.bl (ds.all p)) := by
  show (boolsOf (ds.map fun d => .bl (p d))).map (fun bs => D.bl (bs.all id)) = _
  rw [boolsOf_map]
  simp [List.all_map, Function.comp_def]
@[simp] theorem any_map (p : D → Bool) (ds : List D) : anyD (.lst (ds.map fun d => .bl (p d))) = some (.bl (ds.any p)) := by
  show (boolsOf (ds.map fun d => .bl (p d))).map (fun bs => D.bl (bs.any id)) = _
  rw [boolsOf_map]
  simp [List.any_map, Function.comp_def]
theorem dep_tl {h : D} {r : List D} (o : dep (.tup (h :: r)) ≤ 60) : dep h ≤ 59 ∧ ∀ x ∈ r, dep x ≤ 59 := by
  simp only [dep_t, depL_c] at o
  have := fun x hx => dep_mem (x := x) (xs := r) hx
  exact ⟨by omega, fun x hx => by have := this x hx; omega⟩
theorem dep_in {xs : List D} {x : D} (o : dep (.tup xs) ≤ 60) (hx : x ∈ xs) : dep x ≤ 59 := by
  have := dep_mem hx
  simp only [dep_t] at o
  omega
mutual
/-- rows of at most n parts within -/
def lens (n : Nat) : D → Bool
  | .tup xs | .lst xs => decide (xs.length ≤ n) && lensL n xs
  | _ => true
def lensL (n : Nat) : List D → Bool
  | [] => true
  | x :: xs => lens n x && lensL n xs
end
theorem lens_in {n : Nat} {xs : List D} {x : D} (h : lensL n xs = true) (hx : x ∈ xs) : lens n x = true := by
  induction xs with
  | nil => cases hx
  | cons a r ih =>
    simp only [lensL, Bool.and_eq_true] at h
    rcases List.mem_cons.mp hx with q | q
    · rw [q]; exact h.1
    · exact ih h.2 q
theorem lens_tup {n : Nat} {xs : List D} (h : lens n (.tup xs) = true) : xs.length ≤ n ∧ ∀ x ∈ xs, lens n x = true := by
  simp only [lens, Bool.and_eq_true, decide_eq_true_eq] at h
  exact ⟨h.1, fun x hx => lens_in h.2 hx⟩
end DL
end

section
set_option Elab.async false
set_option linter.all false
set_option maxRecDepth 100000
/-! V1: takes, pots, cells folded, is_between. -/
namespace DL
open PySem PySem.Spec PyProof.Rows L2
theorem take_eq (K : Nat) (hK : K ≤ 1000000) (ds : List D) (n : Int) (h : potOk K ds) (hn : 0 < n) (hn2 : n < 2 ^ 64) : ∃ i ds', F__law_take [.m ds, .v (.int n)] = .ok (.v (.int i)) [ds'] ∧ 0 ≤ i ∧ i < n ∧ potOk (K + 1) ds' := by
  obtain ⟨c, x, k, e, hc, hx, hx2, hk, hk2⟩ := h
  subst e
  by_cases z : 0 < c
  · refine ⟨c % n, potL (c / n) x k, ?_, Int.emod_nonneg _ (by omega), Int.emod_lt_of_pos _ hn, _, _, _, rfl, Int.ediv_nonneg hc (by omega), hx, hx2, hk, by omega⟩
    simp [F__law_take, startE, f__law_take, potL, z, mod_ii _ _ hn, fdiv_ii _ _ hn hn2]
  · have m1 : ∀ i : Int, 0 ≤ i % 2305843009213693921 ∧ i % 2305843009213693921 < 2 ^ 61 := fun i => mod_lt61 i _ (by decide) (by decide)
    have m3 : 0 ≤ x % 65537 ∧ x % 65537 < 65537 := ⟨Int.emod_nonneg _ (by decide), Int.emod_lt_of_pos _ (by decide)⟩
    have b3 : powD (.int (x + 104729 * (k + 1))) (.int 3) = some (.int ((x + 104729 * (k + 1)) ^ 3)) := pow_ii _ 3 70 (by omega) (by omega) (by decide) (by decide) (by decide)
    have b5 : powD (.int ((x + 104729 * (k + 1)) ^ 3 % 2305843009213693921 + x % 65537 + 31 * (k + 1))) (.int 5) = some (.int (((x + 104729 * (k + 1)) ^ 3 % 2305843009213693921 + x % 65537 + 31 * (k + 1)) ^ 5)) := by
      have := m1 ((x + 104729 * (k + 1)) ^ 3)
      exact pow_ii _ 5 70 (by omega) (by omega) (by decide) (by decide) (by decide)
    refine ⟨(((x + 104729 * (k + 1)) ^ 3 % 2305843009213693921 + x % 65537 + 31 * (k + 1)) ^ 5 % 2305843009213693907 / 1024) % n, potL c x (k + 1), ?_, Int.emod_nonneg _ (by omega), Int.emod_lt_of_pos _ hn, _, _, _, rfl, hc, hx, hx2, by omega, by omega⟩
    · simp [F__law_take, startE, f__law_take, potL, z, mod_ii _ _ hn, mod_ii _ 2305843009213693921, mod_ii _ 65537, mod_ii _ 2305843009213693907, mul_ii, b3, b5, fdiv_ii _ 1024]
/-- a take -/
theorem wR_take {K : Nat} {ds : List D} {n : Int} {s : Nat} {e : Env} {Q : D → Env → Prop} (h : potOk K ds) (hK : K ≤ 1000000) (hn : 0 < n) (hn2 : n < 2 ^ 64) (q : ∀ i ds', 0 ≤ i → i < n → potOk (K + 1) ds' → Q (.int i) (e.set s (some (.m ds')))) : wR (kF [some s, none] kD e (F__law_take [.m ds, .v (.int n)])) Q := by
  obtain ⟨i, ds', h1, h2, h3, h4⟩ := take_eq K hK ds n h hn hn2
  rw [h1]
  exact q i ds' h2 h3 h4
theorem pot_eq (ns : List Int) (j : Nat) (hj : j < 1000) : ∃ ds, F__law_pot [.v (.lst (intL ns)), .v (.int (j : Int))] = .ok (.m ds) [] ∧ potOk 0 ds := by
  have m1 : ∀ i : Int, 0 ≤ i % 2147483629 ∧ i % 2147483629 < 2147483629 := fun i => ⟨Int.emod_nonneg _ (by decide), Int.emod_lt_of_pos _ (by decide)⟩
  have p1 : powD (.int 10) (.int 60) = some (.int (10 ^ 60)) := pow_ii 10 60 4 (by decide) (by decide) (by decide) (by decide) (by decide)
  have p2 : powD (.int (10 ^ 60)) (.int 14) = some (.int ((10 ^ 60) ^ 14)) := pow_ii (10 ^ 60) 14 200 (by decide) (by decide) (by decide) (by decide) (by decide)
  have p3 : powD (.int 10) (.int 18) = some (.int (10 ^ 18)) := pow_ii 10 18 4 (by decide) (by decide) (by decide) (by decide) (by decide)
  have p5 : ∀ a : Int, powD (.int (a % 2147483629 + 7919 * (j : Int) + 1)) (.int 5) = some (.int ((a % 2147483629 + 7919 * (j : Int) + 1) ^ 5)) := fun a => by
    have := m1 a
    exact pow_ii _ 5 70 (by omega) (by omega) (by decide) (by decide) (by decide)
  have fin1 : ∀ a : Int, 0 ≤ a → potOk 0 (potL (a * (if 10 ^ 18 ≤ a then 1 else 0)) ((a % 2147483629 + 7919 * (j : Int) + 1) ^ 5 % 2305843009213693951) 0) := fun a ha => by
    have := mod_lt61 ((a % 2147483629 + 7919 * (j : Int) + 1) ^ 5) 2305843009213693951 (by decide) (by decide)
    refine ⟨_, _, _, rfl, ?_, this.1, this.2, by omega, by omega⟩
    split <;> omega
  by_cases z : j < ns.length
  · have z2 : (j : Int) < ((ns.length : Nat) : Int) := by exact_mod_cast z
    have ha := atI_int ns j z
    have hp : (0 : Int) < (10 ^ 60) ^ 14 := by decide
    generalize ns.getD j 0 = v at *
    have mm := fun i => mod_ii i ((10 ^ 60) ^ 14) hp
    have q0 : 0 ≤ (if v < 0 then - v else v) % ((10 : Int) ^ 60) ^ 14 := Int.emod_nonneg _ (by omega)
    generalize hM : ((10 : Int) ^ 60) ^ 14 = M at *
    have ma := mm (if v < 0 then - v else v)
    generalize (if v < 0 then - v else v) % M = a at *
    refine ⟨_, ?_, fin1 a q0⟩
    have pa := p5 a
    have m7 := fun i => mul_ii 7919 i (by decide)
    simp [F__law_pot, startE, f__law_pot, lenD, z2, absD, ha, -Int.reducePow, p1, p2, p3, ma, pa, mod_ii, m7, intD, potL, mul_b2]
  · have z2 : ¬ (j : Int) < ((ns.length : Nat) : Int) := by omega
    have p50 := p5 0
    simp at p50
    refine ⟨_, ?_, fin1 0 (by omega)⟩
    simp [F__law_pot, startE, f__law_pot, lenD, z2, mod_ii, mul_ii, p50, absD, intD, potL, p3]
end DL
end

section
set_option Elab.async false
set_option linter.all false
set_option maxRecDepth 100000
/-! VF: further cells folded into the first ones. -/
namespace DL
open PySem PySem.Spec PyProof.Rows L2
theorem set_int (ms : List Int) (j : Nat) (v : Int) : (intL ms).set j (.int v) = intL (ms.set j v) := by simp [intL]
abbrev foldBody : Env → RS := sSetM 2 (dBin modD (dVar 3) (dVar 1)) (dBin addD (dBin mulD (dIxM 2 (dBin modD (dVar 3) (dVar 1))) (dC (.int 31))) (dBin ixD (dVar 0) (dVar 3)))
theorem fold_step (m : Nat) (h0 : 0 < m) (ns ms : List Int) (i : Nat) (hi : i < ns.length) (hm : ms.length = m) : ∃ ms', ms'.length = m ∧ foldBody [some (.v (.lst (intL ns))), some (.v (.int (m : Int))), some (.m (intL ms)), some (.v (.int (i : Int)))] = .nx [some (.v (.lst (intL ns))), some (.v (.int (m : Int))), some (.m (intL ms')), some (.v (.int (i : Int)))] := by
  have h1 := atI_int ns i hi
  have hj : i % m < ms.length := by rw [hm]; exact Nat.mod_lt _ h0
  have h2 := atI_int ms (i % m) hj
  have h3 : modD (.int (i : Int)) (.int (m : Int)) = some (.int ((i % m : Nat) : Int)) := by rw [mod_ii _ _ (by omega)]; rfl
  have h4 : ∀ a, mulD (.int a) (.int 31) = some (.int (a * 31)) := fun a => if_pos (by
    have q31 : small64 31 = true := by decide
    simp only [q31, Bool.or_true, Bool.true_or])
  have h5 : ixN m ((i % m : Nat) : Int) = some (i % m) := by
    unfold ixN; rw [if_pos (by omega), if_pos (by rw [hm] at hj; omega)]; congr 1
  generalize hk : i % m = k at *
  refine ⟨ms.set k (ms.getD k 0 * 31 + ns.getD i 0), by rw [List.length_set]; exact hm, ?_⟩
  unfold foldBody
  simp [h1, h2, h3, h4, h5, hm, set_int]
theorem fold_loop (m : Nat) (h0 : 0 < m) (ns : List Int) : ∀ (n : Nat) (lo : Nat) (ms : List Int) (o : Option Slot), lo + n ≤ ns.length → ms.length = m → ∃ ms' o', ms'.length = m ∧ forL (gtN 3) foldBody (rangeL (lo : Int) n) [some (.v (.lst (intL ns))), some (.v (.int (m : Int))), some (.m (intL ms)), o] = .nx [some (.v (.lst (intL ns))), some (.v (.int (m : Int))), some (.m (intL ms')), o']
  | 0, lo, ms, o, h, hm => ⟨ms, o, hm, by simp [rangeL, forL]⟩
  | n + 1, lo, ms, o, h, hm => by
    obtain ⟨ms1, hm1, h1⟩ := fold_step m h0 ns ms lo (by omega) hm
    obtain ⟨ms2, o2, hm2, h2⟩ := fold_loop m h0 ns n (lo + 1) ms1 (some (.v (.int (lo : Int)))) (by omega) hm1
    refine ⟨ms2, o2, hm2, ?_⟩
    rw [rangeL_succ]
    unfold forL
    rw [show gtN 3 (.int (lo : Int)) [some (.v (.lst (intL ns))), some (.v (.int (m : Int))), some (.m (intL ms)), o] = some [some (.v (.lst (intL ns))), some (.v (.int (m : Int))), some (.m (intL ms)), some (.v (.int (lo : Int)))] from rfl, sO_some, h1]
    exact h2
theorem c4_ok (i j : Int) (h1 : wide62 i = true) (h2 : wide62 j = true) (e : Env) : c4_iRange2 i j e = .ok (rangeL i (j - i).toNat) e := by
  have h : (wide62 i && wide62 j) = true := by rw [h1, h2]; rfl
  exact if_pos h
theorem range2_ok {fa fb : Env → R D} {i j : Int} {e : Env} (h1 : fa e = .ok (.int i) e) (h2 : fb e = .ok (.int j) e) (w1 : wide62 i = true) (w2 : wide62 j = true) : iRange2 fa fb e = .ok (rangeL i (j - i).toNat) e := by
  rw [iRange2_ap, h1, bnd_ok, c1_iRange2_ap, h2, bnd_ok, c2_iRange2_ap, asI_int, opt_some, bnd_ok, c3_iRange2_ap, asI_int, opt_some, bnd_ok]
  exact c4_ok i j w1 w2 e
theorem folded_l (ns : List Int) (h : ns.length ≤ 63) (r : Env) : (dCal (on2 min2D) (dCons (dC (.int 63)) (dCons (dCal (on1 lenD) (dCons (dVar 0) dNil)) dNil))) (some (.v (.lst (intL ns))) :: r) = .ok (.int (ns.length : Int)) (some (.v (.lst (intL ns))) :: r) := by
  have hl : lenD (.lst (intL ns)) = some (.int (ns.length : Int)) := by simp [lenD]
  have hm := min_63 _ h
  generalize min2D = mm at *
  simp [hl, hm]
theorem folded_eq (m : Nat) (h0 : 0 < m) (h63 : m ≤ 63) (ns : List Int) (h : ns.length ≤ 63) : ∃ ms : List Int, ms.length ≤ m ∧ F__law_folded [.v (.lst (intL ns)), .v (.int (m : Int))] = .ok (.v (.lst (intL ms))) [] := by
  have fa : ∀ o p, iRange2 (dVar 1) (dCal (on2 min2D) (dCons (dC (.int 63)) (dCons (dCal (on1 lenD) (dCons (dVar 0) dNil)) dNil))) [some (.v (.lst (intL ns))), some (.v (.int (m : Int))), o, p] = .ok (rangeL (m : Int) ((ns.length : Int) - m).toNat) [some (.v (.lst (intL ns))), some (.v (.int (m : Int))), o, p] :=
    fun o p => range2_ok rfl (folded_l ns h _) (wide_n _ h63) (wide_n _ h)
  have fb : sAsgM 2 (mList (dSl (dVar 0) pNo (pSome (dVar 1)))) [some (.v (.lst (intL ns))), some (.v (.int (m : Int))), none, none] = .nx [some (.v (.lst (intL ns))), some (.v (.int (m : Int))), some (.m (intL (ns.take m))), none] := by
    have hc : slD (.lst (intL ns)) none (some (m : Int)) = some (.lst (intL (ns.take m))) := by
      simp [slD, cutD, HT.sIx, intL]
      rw [if_neg (by omega)]; omega
    simp [hc]
  have hd : F__law_folded [.v (.lst (intL ns)), .v (.int (m : Int))] = fin [] (sq (forL (gtN 3) foldBody (rangeL (m : Int) ((ns.length : Int) - m).toNat) [some (.v (.lst (intL ns))), some (.v (.int (m : Int))), some (.m (intL (ns.take m))), none]) (sRet (dFrz 2))) := by
    have e : startE 4 [.v (.lst (intL ns)), .v (.int (m : Int))] = [some (.v (.lst (intL ns))), some (.v (.int (m : Int))), none, none] := rfl
    unfold F__law_folded f__law_folded
    rw [e, sSeq_ap, fb, sq_nx, sSeq_ap, sFor_ap, fa, sB_ok]
  rw [hd]
  by_cases z : ns.length ≤ m
  · refine ⟨ns.take m, by rw [List.length_take]; omega, ?_⟩
    have hn : ((ns.length : Int) - m).toNat = 0 := by omega
    rw [hn]
    simp [rangeL, forL]
  · obtain ⟨ms, o, hms, hf⟩ := fold_loop m h0 ns (ns.length - m) m (ns.take m) none (by omega) (by rw [List.length_take]; omega)
    have hn : ((ns.length : Int) - m).toNat = ns.length - m := by omega
    refine ⟨ms, by omega, ?_⟩
    rw [hn, hf]
    simp
/-- the loop over the cells: at least one, and how many -/
theorem cells_n (ms : List Int) (hms : ms.length ≤ 63) : ∃ v, lenD (.lst (intL ms)) = some (.int (ms.length : Int)) ∧ max2D (.int 1) (.int (ms.length : Int)) = some (.int v) ∧ wide62 v = true ∧ v.toNat < 100 := by
  have hl : lenD (.lst (intL ms)) = some (.int (ms.length : Int)) := by simp [lenD]
  refine ⟨if (1 : Int) < (ms.length : Int) then (ms.length : Int) else 1, hl, by simp [max2D], ?_, by split <;> omega⟩
  split
  · exact wide_n _ (by omega)
  · decide
end DL
end

section
set_option Elab.async false
set_option linter.all false
set_option maxRecDepth 100000
/-! V2: a drawn note. -/
namespace DL
open PySem PySem.Spec PyProof.Rows L2
/-- a note of w walkers -/
def whoI (w : Int) (a : D) : Prop := a = .non ∨ ∃ i, a = .int i ∧ 0 ≤ i ∧ i < w
inductive NoteD (w : Int) : D → Prop
  | last : NoteD w (.tup [.str "last"])
  | first : NoteD w (.tup [.str "first"])
  | here {a} (h : whoI w a) : NoteD w (.tup [.str "here", a])
  | came {a b} (h : whoI w a) (h1 : 1 ≤ b) (h4 : b ≤ 4) : NoteD w (.tup [.str "came", a, .int b])
  | round {a b} (h : whoI w a) (h1 : 2 ≤ b) (h4 : b ≤ 4) : NoteD w (.tup [.str "round", a, .int b])
  | since {i j : Int} (h : 0 ≤ i ∧ i < w ∧ 0 ≤ j ∧ j < w ∧ i ≠ j) : NoteD w (.tup [.str "since", .int i, .int j])
theorem yes_ii (i : Int) (l : List Int) : yesD (.int i) (.tup (l.map D.int)) = some (.bl (decide (i ∈ l))) := by
  have : flatD (.int i) = true := rfl
  have h2 : ∀ l : List Int, (l.map D.int).all flatD = true := fun l => by
    rw [List.all_eq_true]; intro x hx
    obtain ⟨j, _, rfl⟩ := List.mem_map.mp hx
    rfl
  have h3 : ∀ l : List Int, (l.map D.int).any (fun x => eqv x (.int i)) = decide (i ∈ l) := fun l => by
    induction l with
    | nil => rfl
    | cons a r ih =>
      rw [List.map_cons, List.any_cons, ih]
      show (a == i || decide (i ∈ r)) = decide (i ∈ a :: r)
      by_cases q : a = i
      · subst q; simp
      · have q' : ¬ i = a := fun z => q z.symm
        simp [q, q']
  unfold yesD inD
  simp only [this, h2, h3, Bool.and_self, if_true, Option.map_some, and_self]
theorem note_sp {K : Nat} (hK : K ≤ 999000) {ds : List D} (h : potOk K ds) (w : Int) (w1 : 1 ≤ w) (w3 : w ≤ 3) : wF (F__law_note [.m ds, .v (.int w)]) (fun s o => ∃ d ds', s = .v d ∧ o = [ds'] ∧ NoteD w d ∧ potOk (K + 6) ds') := by
  have y12 := fun i => yes_ii i [1, 2]
  have y34 := fun i => yes_ii i [3, 4]
  simp only [List.map_cons, List.map_nil] at y12 y34
  unfold F__law_note f__law_note
  simp [startE]
  refine wR_take h (by omega) (by omega) (by omega) fun i1 s1 a1 b1 p1 => ?_
  simp
  refine wR_take p1 (by omega) (by omega) (by omega) fun i2 s2 a2 b2 p2 => ?_
  simp
  refine wR_take p2 (by omega) (by omega) (by omega) fun i3 s3 a3 b3 p3 => ?_
  simp
  refine wR_at (by omega) (by simp; omega) fun who hm => ?_
  have hw : whoI w who := by
    simp only [List.mem_cons, List.mem_nil_iff, or_false] at hm
    rcases hm with rfl | rfl | rfl
    · exact .inl rfl
    · exact .inr ⟨_, rfl, by omega, by omega⟩
    · exact .inr ⟨_, rfl, by omega, by omega⟩
  simp
  refine wR_take p3 (by omega) (by omega) (by omega) fun i4 s4 a4 b4 p4 => ?_
  have md := fun i => mod_ii i w (by omega)
  rcases (by omega : (6 < i4 ∧ 1 < w) ∨ (¬ 6 < i4 ∨ (6 < i4 ∧ ¬ 1 < w))) with ⟨c1, c2⟩ | c
  · simp [c1, c2]
    refine wR_take p4 (by omega) (by omega) (by omega) fun i5 s5 a5 b5 p5 => ?_
    simp
    refine wR_take p5 (by omega) (by omega) (by omega) fun i6 s6 a6 b6 p6 => ?_
    simp [md]
    refine ⟨.since ?_, p6.mono (by omega)⟩
    have e1 := Int.emod_nonneg (i5 + 1 + i6) (show w ≠ 0 by omega)
    have e2 := Int.emod_lt_of_pos (i5 + 1 + i6) (show 0 < w by omega)
    refine ⟨a5, b5, e1, e2, ?_⟩
    rcases (by omega : i5 + 1 + i6 < w ∨ w ≤ i5 + 1 + i6) with q | q
    · rw [Int.emod_eq_of_lt (by omega) q]; omega
    · rw [show i5 + 1 + i6 = (i5 + 1 + i6 - w) + w by omega, Int.add_emod_right, Int.emod_eq_of_lt (by omega) (by omega)]; omega
  · have key : (if 6 < i4 then if 1 < w then False else True else True) = True := by
      rcases c with c | ⟨c, d⟩ <;> simp [*]
    rcases c with c | ⟨c, d⟩
    all_goals
      simp [*]
      split
      · refine wR_take p4 (by omega) (by omega) (by omega) fun i5 s5 a5 b5 p5 => ?_
        simp
        exact ⟨.round hw (by omega) (by omega), p5.mono (by omega)⟩
      · split
        · exact ⟨.here hw, p4.mono (by omega)⟩
        · split
          · refine wR_at (by omega) (by simp; omega) fun d hd => ?_
            simp
            refine ⟨?_, p4.mono (by omega)⟩
            simp only [List.mem_cons, List.mem_nil_iff, or_false] at hd
            rcases hd with rfl | rfl
            · exact .last
            · exact .first
          · refine wR_take p4 (by omega) (by omega) (by omega) fun i5 s5 a5 b5 p5 => ?_
            simp
            exact ⟨.came hw (by omega) (by omega), p5.mono (by omega)⟩
end DL
end

section
set_option Elab.async false
set_option linter.all false
set_option maxRecDepth 100000
/-! V3: what is a note. -/
namespace DL
open PySem PySem.Spec PyProof.Rows L2
theorem between_eq (d : D) (lo hi : Int) (h : dataD d = true) : F_is_between [.v d, .v (.int lo), .v (.int hi)] = .ok (.v (.bl (betw d lo hi))) [] := by
  simp [F_is_between, startE, f_is_between, isi_int d h, isi_bool d h]
  cases d <;> first | (cases h; done) | (simp [betw])
  rename_i i
  by_cases q : lo ≤ i <;> simp [q]
theorem who_eq (w : Int) (d : D) (h : dataD d = true) : F_is_who [.v (.int w), .v d] = .ok (.v (.bl (whoB w d))) [] := by
  have hb := between_eq d 0 (w - 1) h
  unfold whoB
  cases hn : isNon d <;> simp [F_is_who, startE, f_is_who, hn, hb]
theorem came_eq (w : Int) (a b : D) (ha : dataD a = true) (hb : dataD b = true) : F_fits_came [.v (.int w), .v a, .v b] = .ok (.v (.bl (whoB w a && betw b 1 4))) [] := by
  have h1 := who_eq w a ha
  have h2 := between_eq b 1 4 hb
  cases hn : whoB w a <;> simp [F_fits_came, startE, f_fits_came, h1, h2, hn]
theorem round_eq (w : Int) (a b : D) (ha : dataD a = true) (hb : dataD b = true) : F_fits_round [.v (.int w), .v a, .v b] = .ok (.v (.bl (whoB w a && betw b 2 4))) [] := by
  have h1 := who_eq w a ha
  have h2 := between_eq b 2 4 hb
  cases hn : whoB w a <;> simp [F_fits_round, startE, f_fits_round, h1, h2, hn]
theorem since_eq (w : Int) (a b : D) (ha : dataD a = true) (hb : dataD b = true) : F_fits_since [.v (.int w), .v a, .v b] = .ok (.v (.bl (betw a 0 (w - 1) && (betw b 0 (w - 1) && difB a b)))) [] := by
  have h1 := between_eq a 0 (w - 1) ha
  have h2 := between_eq b 0 (w - 1) hb
  cases hn : betw a 0 (w - 1)
  · simp [F_fits_since, startE, f_fits_since, h1, h2, hn]
  · cases hm : betw b 0 (w - 1)
    · simp [F_fits_since, startE, f_fits_since, h1, h2, hn, hm]
    · obtain ⟨i, rfl⟩ := betw_int hn
      obtain ⟨j, rfl⟩ := betw_int hm
      simp [F_fits_since, startE, f_fits_since, h1, h2, hn, hm, neS, neD, dep, eqv, difB]
def noteB (w : Int) : D → Bool
  | .tup (.str k :: rest) =>
    if k = "last" ∨ k = "first" then rest.isEmpty
    else match rest with
      | [a] => decide (k = "here") && whoB w a
      | [a, b] => if k = "came" then whoB w a && betw b 1 4 else if k = "round" then whoB w a && betw b 2 4 else
          if k = "since" then betw a 0 (w - 1) && (betw b 0 (w - 1) && difB a b) else false
      | _ => false
  | _ => false
theorem eq_emp (h : D) (r : List D) (o : dep (.tup (h :: r)) ≤ 60) : eqS (.tup (h :: r)) (.tup []) = some (.bl false) := by
  show eqD _ _ = _
  unfold eqD
  rw [if_pos ⟨o, by simp [dep, depL]⟩]
  simp [eqv, eqvL]
theorem dep_cons {h : D} {r : List D} (o : dep (.tup (h :: r)) ≤ 60) : dep h ≤ 60 ∧ depL r + 1 ≤ 60 := by
  simp [dep, depL] at o; omega
theorem yes_lf (k : Str) : yesD (.str k) (.tup [.str (Str.ofString "last"), .str (Str.ofString "first")]) = some (.bl (decide (k = Str.ofString "last" ∨ k = Str.ofString "first"))) := by
  simp [yesD, inD, flatD, eqv]
  have h : ∀ s : Str, (s == k) = decide (k = s) := fun s => by
    by_cases q : k = s
    · subst q; simp
    · simp [q, Ne.symm q]
  rw [h, h]
theorem is_note_of_eq (w : Int) (d : D) (o : okD d) (hl : ∀ xs, d = .tup xs → xs.length ≤ 1000) : F_is_note_of [.v (.int w), .v d] = .ok (.v (.bl (noteB w d))) [] := by
  have hd := okD_data d o
  have ht := isi_tup d hd
  by_cases q : ∃ xs, d = .tup xs
  · obtain ⟨xs, rfl⟩ := q
    have o2 : dep (.tup xs) ≤ 60 := by rcases o with o | o
                                       · exact o
                                       · cases o
    cases xs with
    | nil => simp [F_is_note_of, startE, f_is_note_of, ht, eqS, eqD, dep, depL, eqv, eqvL, noteB]
    | cons h r =>
      have he := eq_emp h r o2
      obtain ⟨oh, or⟩ := dep_cons o2
      have hs := isi_strB h (data60 oh)
      have hx : ixD (.tup (h :: r)) (.int 0) = some h := by simp [ixD, atI]
      by_cases q2 : ∃ k, h = .str k
      · obtain ⟨k, rfl⟩ := q2
        have er : eqS (.lst r) (.lst []) = some (.bl r.isEmpty) := by
          show eqD _ _ = _
          unfold eqD
          rw [if_pos ⟨by simp [dep]; omega, by simp [dep, depL]⟩]
          cases r <;> simp [eqv, eqvL]
        have hl2 : r.length + 1 ≤ 16777216 := by have := hl _ rfl; simp at this; omega
        have ht2 : isiD1 (.tup (.str k :: r)) "tuple" = some (.bl true) := ht
        have hs2 : isiD1 (.str k) "str" = some (.bl true) := hs
        simp [F_is_note_of, startE, f_is_note_of, ht2, he, hx, hs2, gtStar, gtCons, gtNil, hl2]
        rw [yes_lf]
        by_cases c1 : k = Str.ofString "last" ∨ k = Str.ofString "first"
        · simp [c1, er, noteB]
        · have c1a := (not_or.mp c1).1
          have c1b := (not_or.mp c1).2
          simp [c1a, c1b]
          by_cases c2 : k = Str.ofString "here"
          · subst c2
            rcases r with _ | ⟨a, _ | ⟨b, r⟩⟩
            · simp [lenD, noteB, c1a, c1b]
            · have ha : dataD a = true := data60 (by simp [depL] at or; omega)
              have hw := who_eq w a ha
              simp [lenD, noteB, c1a, c1b, ixD, atI, hw]
            · have hz : ¬ ((r.length : Int) + 1 + 1 = 1) := by omega
              have hn1 : ¬ (Str.ofString "here" = Str.ofString "came") := by decide
              have hn2 : ¬ (Str.ofString "here" = Str.ofString "round") := by decide
              have hn3 : ¬ (Str.ofString "here" = Str.ofString "since") := by decide
              have nb : noteB w (.tup (.str (Str.ofString "here") :: a :: b :: r)) = false := by
                cases r <;> simp [noteB, c1a, c1b, hn1, hn2, hn3]
              simp [lenD, hz, nb]
          · simp [c2]
            by_cases c3 : r.length = 2
            · obtain ⟨a, b, rfl⟩ : ∃ a b, r = [a, b] := by
                rcases r with _ | ⟨a, _ | ⟨b, _ | ⟨c, r⟩⟩⟩
                · simp at c3
                · simp at c3
                · exact ⟨a, b, rfl⟩
                · simp at c3
              have ha : dataD a = true := data60 (by simp [depL] at or; omega)
              have hb : dataD b = true := data60 (by simp [depL] at or; omega)
              have k1 := came_eq w a b ha hb
              have k2 := round_eq w a b ha hb
              have k3 := since_eq w a b ha hb
              have i0 : ixD (.lst [a, b]) (.int 0) = some a := by simp
              have i1 : ixD (.lst [a, b]) (.int 1) = some b := by simp
              by_cases d1 : k = Str.ofString "came"
              · subst d1
                have t1 : inT tab_PAIRS true (.str (Str.ofString "came")) = some (.bl false) := rfl
                have t2 : ixT tab_PAIRS (.str (Str.ofString "came")) = some (.fn fn_fits_came) := rfl
                simp [t1, t2, lenD, noteB, c1a, c1b, i0, i1, fnAt, held_PAIRS, fn_fits_came, fn_fits_round, fn_fits_since, k1]
              · by_cases d2 : k = Str.ofString "round"
                · subst d2
                  have t1 : inT tab_PAIRS true (.str (Str.ofString "round")) = some (.bl false) := rfl
                  have t2 : ixT tab_PAIRS (.str (Str.ofString "round")) = some (.fn fn_fits_round) := rfl
                  simp [t1, t2, lenD, noteB, c1a, c1b, d1, i0, i1, fnAt, held_PAIRS, fn_fits_came, fn_fits_round, fn_fits_since, k2]
                · by_cases d3 : k = Str.ofString "since"
                  · subst d3
                    have t1 : inT tab_PAIRS true (.str (Str.ofString "since")) = some (.bl false) := rfl
                    have t2 : ixT tab_PAIRS (.str (Str.ofString "since")) = some (.fn fn_fits_since) := rfl
                    simp [t1, t2, lenD, noteB, c1a, c1b, d1, d2, i0, i1, fnAt, held_PAIRS, fn_fits_came, fn_fits_round, fn_fits_since, k3]
                  · have t1 : inT tab_PAIRS true (.str k) = some (.bl true) := by
                      simp [inT, tab_PAIRS, List.lookup, beq_eq_false_iff_ne.mpr d1, beq_eq_false_iff_ne.mpr d2, beq_eq_false_iff_ne.mpr d3]
                    simp [t1, lenD, noteB, c1a, c1b, d1, d2, d3]
            · have c4 : ¬ ((r.length : Int) = 2) := by omega
              have nb : noteB w (.tup (.str k :: r)) = false := by
                rcases r with _ | ⟨a, _ | ⟨b, _ | ⟨c, r⟩⟩⟩
                · simp [noteB, c1a, c1b]
                · simp [noteB, c1a, c1b, c2]
                · simp at c3
                · simp [noteB, c1a, c1b]
              cases ht : (tab_PAIRS.lookup k).isSome <;> simp [inT, ht, lenD, c4, nb]
      · have hf : strB h = false := by
          cases h <;> first | rfl | (exact absurd ⟨_, rfl⟩ q2)
        rw [hf] at hs
        simp [F_is_note_of, startE, f_is_note_of, ht, he, hx, hs]
        cases h <;> first | rfl | (exact absurd ⟨_, rfl⟩ q2)
  · have hf : tupB d = false := by
      cases d <;> first | rfl | (exact absurd ⟨_, rfl⟩ q)
    rw [hf] at ht
    simp [F_is_note_of, startE, f_is_note_of, ht]
    cases d <;> first | rfl | (exact absurd ⟨_, rfl⟩ q)
theorem walkers_ok (x : D) (h : dataD x = true) (b : betw x 1 3 = true) : F_need_walkers [.v x] = .ok (.v .non) [] := by
  have hb := between_eq x 1 3 h
  simp [F_need_walkers, startE, f_need_walkers, hb, b]
theorem walkers_no (x : D) (h : dataD x = true) (b : betw x 1 3 = false) : F_need_walkers [.v x] = .exc ⟨cl_NoNumber, [("number", x)]⟩ [] := by
  have hb := between_eq x 1 3 h
  simp [F_need_walkers, startE, f_need_walkers, hb, b]
theorem betw_w {w : Int} (h1 : 1 ≤ w) (h3 : w ≤ 3) : betw (.int w) 1 3 = true := by simp [betw, h1, h3]
theorem note_cases {w : Int} {d : D} (n : noteB w d = true) : d = .tup [.str "last"] ∨ d = .tup [.str "first"] ∨ (∃ a, d = .tup [.str "here", a]) ∨ (∃ a b, d = .tup [.str "came", a, .int b] ∧ 1 ≤ b ∧ b ≤ 4) ∨ (∃ a b, d = .tup [.str "round", a, .int b] ∧ 2 ≤ b ∧ b ≤ 4) ∨ (∃ a b, d = .tup [.str "since", .int a, .int b]) := by
  unfold noteB at n
  split at n
  · rename_i k rest
    split at n
    · rename_i hk
      have : rest = [] := by simpa using n
      subst this
      rcases hk with rfl | rfl
      · exact .inl rfl
      · exact .inr (.inl rfl)
    · split at n
      · simp at n
        obtain ⟨rfl, _⟩ := n
        exact .inr (.inr (.inl ⟨_, rfl⟩))
      · rename_i a b
        split at n
        · rename_i hk; subst hk
          simp at n
          obtain ⟨i, rfl⟩ := betw_int n.2
          simp [betw] at n
          exact .inr (.inr (.inr (.inl ⟨_, _, rfl, n.2⟩)))
        · split at n
          · rename_i hk; subst hk
            simp at n
            obtain ⟨i, rfl⟩ := betw_int n.2
            simp [betw] at n
            exact .inr (.inr (.inr (.inr (.inl ⟨_, _, rfl, n.2⟩))))
          · split at n
            · rename_i hk; subst hk
              simp at n
              obtain ⟨i, rfl⟩ := betw_int n.1
              obtain ⟨j, rfl⟩ := betw_int n.2.1
              exact .inr (.inr (.inr (.inr (.inr ⟨_, _, rfl⟩))))
            · cases n
      · cases n
  · cases n
end DL
end

section
set_option Elab.async false
set_option linter.all false
set_option maxRecDepth 100000
/-! V4: notes that are, their most, how values go on. -/
namespace DL
open PySem PySem.Spec PyProof.Rows L2
inductive Nt where
  | came (a : Option Int) (b : Int) | round (a : Option Int) (b : Int) | last | first | since (i j : Int) | here (a : Option Int)
def whoD : Option Int → D
  | none => .non
  | some i => .int i
@[simp] theorem whoD_none : whoD none = .non := rfl
@[simp] theorem whoD_some (i : Int) : whoD (some i) = .int i := rfl
namespace Nt
def d : Nt → D
  | came a b => .tup [.str "came", whoD a, .int b]
  | round a b => .tup [.str "round", whoD a, .int b]
  | last => .tup [.str "last"]
  | first => .tup [.str "first"]
  | since i j => .tup [.str "since", .int i, .int j]
  | here a => .tup [.str "here", whoD a]
def whoOk (w : Int) (a : Option Int) : Prop := ∀ i, a = some i → 0 ≤ i ∧ i < w
def ok (w : Int) : Nt → Prop
  | came a b => whoOk w a ∧ 1 ≤ b ∧ b ≤ 4
  | round a b => whoOk w a ∧ 2 ≤ b ∧ b ≤ 4
  | since i j => 0 ≤ i ∧ i < w ∧ 0 ≤ j ∧ j < w ∧ i ≠ j
  | here a => whoOk w a
  | _ => True
def most (w : Int) : Nt → Int
  | came _ b => b
  | round _ b => b - 1
  | since _ _ => 1
  | here (some _) => 1
  | _ => w
def isOf (a : Option Int) (x : Int) : Bool := match a with
  | none => true
  | some i => i == x
@[simp] theorem isOf_none (x : Int) : isOf none x = true := rfl
@[simp] theorem isOf_some (i x : Int) : isOf (some i) x = (i == x) := rfl
/-- the value behind a touch; io: in -/
def after (w : Int) (n : Nt) (v : Int) (io : Bool) (x : Int) : Int := match n with
  | came a b => if io = true ∧ isOf a x = true then (if v + 1 < b then v + 1 else b) else v
  | round a b => if io = true ∧ isOf a x = true then (v + 1) % b else v
  | last => if io = true then 1 + x else v
  | first => if io = true ∧ v = 0 then 1 + x else v
  | since i j => if io = true then (if x = i then 1 else if x = j then 0 else v) else v
  | here a => if isOf a x = true then (if io = true then (if v + 1 < (here a).most w then v + 1 else (here a).most w) else (if 0 < v - 1 then v - 1 else 0)) else v
end Nt
theorem noteD_t {w : Int} {d : D} (h : NoteD w d) : ∃ n : Nt, d = n.d ∧ n.ok w := by
  have key : ∀ a, whoI w a → ∃ o, a = whoD o ∧ Nt.whoOk w o := fun a h => by
    rcases h with rfl | ⟨i, rfl, h⟩
    · exact ⟨none, rfl, fun i h => by cases h⟩
    · exact ⟨some i, rfl, fun j hj => by cases hj; exact h⟩
  cases h with
  | last => exact ⟨.last, rfl, trivial⟩
  | first => exact ⟨.first, rfl, trivial⟩
  | here h => obtain ⟨o, rfl, ho⟩ := key _ h; exact ⟨.here o, rfl, ho⟩
  | came h h1 h4 => obtain ⟨o, rfl, ho⟩ := key _ h; exact ⟨.came o _, rfl, ho, h1, h4⟩
  | round h h1 h4 => obtain ⟨o, rfl, ho⟩ := key _ h; exact ⟨.round o _, rfl, ho, h1, h4⟩
  | since h => exact ⟨.since _ _, rfl, h⟩
theorem str_eqb (a b : Str) : (a == b) = decide (a = b) := by
  by_cases q : a = b
  · subst q; simp
  · simp [q]
theorem yes_ss (k : Str) : ∀ l : List Str, yesD (.str k) (.tup (l.map D.str)) = some (.bl (decide (k ∈ l))) := fun l => by
  have h1 : flatD (.str k) = true := rfl
  have h2 : ∀ l : List Str, (l.map D.str).all flatD = true := fun l => by
    rw [List.all_eq_true]; intro x hx
    obtain ⟨j, _, rfl⟩ := List.mem_map.mp hx
    rfl
  have h3 : ∀ l : List Str, (l.map D.str).any (fun x => eqv x (.str k)) = decide (k ∈ l) := fun l => by
    induction l with
    | nil => rfl
    | cons a r ih =>
      rw [List.map_cons, List.any_cons, ih]
      show (a == k || decide (k ∈ r)) = decide (k ∈ a :: r)
      rw [str_eqb]
      by_cases q : a = k
      · subst q; simp
      · have q' : ¬ k = a := fun z => q z.symm
        simp [q, q']
  unfold yesD inD
  simp only [h1, h2, h3, Bool.and_self, if_true, Option.map_some, and_self]
@[simp] theorem yes_s2 (k a b : Str) : yesD (.str k) (.tup [.str a, .str b]) = some (.bl (decide (k = a ∨ k = b))) := by
  have h := yes_ss k [a, b]
  simpa using h
theorem most_in_eq (w : Int) (n : Nt) : F_most_in [.v (.int w), .v n.d] = .ok (.v (.int (n.most w))) [] := by
  cases n <;> try (rename_i a _; cases a)
  all_goals first | (rename_i a; cases a) | skip
  all_goals simp [F_most_in, startE, f_most_in, Nt.d, Nt.most, isNon]
theorem law_most_eq (w : Int) (n : Nt) : F__law_most [.v (.int w), .v n.d] = .ok (.v (.int (n.most w))) [] := by
  cases n <;> try (rename_i a _; cases a)
  all_goals first | (rename_i a; cases a) | skip
  all_goals simp [F__law_most, startE, f__law_most, Nt.d, Nt.most, isNon, intD]
theorem most_bd {w : Int} (w1 : 1 ≤ w) (w3 : w ≤ 3) {n : Nt} (h : n.ok w) : 1 ≤ n.most w ∧ n.most w ≤ 4 := by
  cases n <;> try (rename_i a _; cases a)
  all_goals first | (rename_i a; cases a) | skip
  all_goals simp only [Nt.ok, Nt.most] at *
  all_goals omega
end DL
end

section
set_option Elab.async false
set_option linter.all false
set_option maxRecDepth 100000
/-! R0: facts of notes that are. -/
namespace DL
open PySem PySem.Spec PyProof.Rows L2
theorem whoD_facts {w : Int} (w3 : w ≤ 1000) {a : Option Int} (h : Nt.whoOk w a) : whoB w (whoD a) = true ∧ dep (whoD a) = 0 ∧ shortD (whoD a) = true ∧ wgt (whoD a) ≤ 134 ∧ plainD (whoD a) = true := by
  cases a with
  | none => exact ⟨rfl, rfl, rfl, by simp [whoD, wgt], rfl⟩
  | some i =>
    obtain ⟨h0, h1⟩ := h i rfl
    refine ⟨?_, rfl, ?_, by simp [whoD, wgt], rfl⟩
    · have h2 : i ≤ w - 1 := by omega
      simp [whoB, whoD, isNon, betw, h0, h2]
    · simp only [whoD, shortD, decide_eq_true_eq]
      have h9 : i.natAbs < 1000 := by omega
      exact Nat.lt_trans h9 (by decide)
theorem nt_facts {w : Int} (w1 : 1 ≤ w) (w3 : w ≤ 1000) {n : Nt} (h : n.ok w) : noteB w n.d = true ∧ dep n.d ≤ 1 ∧ shortD n.d = true ∧ wgt n.d ≤ 300 ∧ plainD n.d = true ∧ ∃ xs, n.d = .tup xs ∧ xs.length ≤ 3 := by
  cases n with
  | last => exact ⟨by simp [noteB, Nt.d], by simp [Nt.d], by simp [Nt.d], by simp [Nt.d], rfl, _, rfl, by simp⟩
  | first => exact ⟨by simp [noteB, Nt.d], by simp [Nt.d], by simp [Nt.d], by simp [Nt.d], rfl, _, rfl, by simp⟩
  | here a =>
    obtain ⟨h1, h2, h3, h4, h5⟩ := whoD_facts w3 h
    exact ⟨by simp [noteB, Nt.d, h1], by simp [Nt.d, h2], by simp [Nt.d, h3], by simp [Nt.d]; omega, by simp [Nt.d, h5], _, rfl, by simp⟩
  | came a b =>
    obtain ⟨ha, hb1, hb2⟩ := h
    obtain ⟨h1, h2, h3, h4, h5⟩ := whoD_facts w3 ha
    have hb := short_i (i := b) (by omega) (by omega)
    exact ⟨by simp [noteB, Nt.d, h1, betw, hb1, hb2], by simp [Nt.d, h2], by simp [Nt.d, h3, hb], by simp [Nt.d]; omega, by simp [Nt.d, h5], _, rfl, by simp⟩
  | round a b =>
    obtain ⟨ha, hb1, hb2⟩ := h
    obtain ⟨h1, h2, h3, h4, h5⟩ := whoD_facts w3 ha
    have hb := short_i (i := b) (by omega) (by omega)
    exact ⟨by simp [noteB, Nt.d, h1, betw, hb1, hb2], by simp [Nt.d, h2], by simp [Nt.d, h3, hb], by simp [Nt.d]; omega, by simp [Nt.d, h5], _, rfl, by simp⟩
  | since i j =>
    obtain ⟨i0, i1, j0, j1, hij⟩ := h
    have hi := short_i (i := i) (by omega) (by omega)
    have hj := short_i (i := j) (by omega) (by omega)
    have e1 : i ≤ w - 1 := by omega
    have e2 : j ≤ w - 1 := by omega
    exact ⟨by simp [noteB, Nt.d, betw, i0, e1, j0, e2, difB, hij], by simp [Nt.d], by simp [Nt.d, hi, hj], by simp [Nt.d], by simp [Nt.d], _, rfl, by simp⟩
end DL
end

section
set_option Elab.async false
set_option linter.all false
set_option maxRecDepth 100000
/-! R1: what is a rule: the program's words but for those that hold rules. -/
namespace DL
open PySem PySem.Spec PyProof.Rows L2
def pairLt : D → Bool
  | .tup [.int a, .int b] => decide (a < b)
  | _ => false
def wkB (w : Int) : D → Bool
  | .tup xs => !xs.isEmpty && ((xs.all fun d => betw d 0 (w - 1)) && (zipL xs (xs.drop 1)).all pairLt)
  | _ => false
def nsD (ns : List Nt) : D := .tup (ns.map Nt.d)
def atN (ns : List Nt) (i : Int) : Nt := ns.getD i.toNat .last
theorem ix_notes {ns : List Nt} {i : Int} (h0 : 0 ≤ i) (h1 : i < (ns.length : Int)) : ixD (nsD ns) (.int i) = some (atN ns i).d := by
  have h2 : i.toNat < ns.length := by omega
  have h3 : ixN (ns.map Nt.d).length i = some i.toNat := by
    unfold ixN; rw [List.length_map, if_pos h0, if_pos h1]
  simp only [nsD, ixD, atI, h3, Option.bind_some, atN]
  simp [List.getElem?_eq_getElem h2]
def markB : Nt → Bool
  | .last | .first => true
  | _ => false
def spanB (w : Int) (ns : List Nt) (k l h : D) : Bool := match k, l with
  | .int i, .int a => decide (0 ≤ i) && (decide (i ≤ (ns.length : Int) - 1) && (betw l 0 ((atN ns i).most w) && betw h a ((atN ns i).most w)))
  | _, _ => false
def mineB (ns : List Nt) (k : D) : Bool := match k with
  | .int i => decide (0 ≤ i) && (decide (i ≤ (ns.length : Int) - 1) && markB (atN ns i))
  | _ => false
theorem isE_eqS {xs : List D} (h : depL xs + 1 ≤ 60) : eqS (.tup xs) (.tup []) = some (.bl xs.isEmpty) := by
  show eqD _ _ = _
  unfold eqD
  rw [if_pos ⟨by simpa using h, by simp⟩]
  cases xs <;> rfl
theorem isE_eqL {xs : List D} (h : depL xs + 1 ≤ 60) : eqS (.lst xs) (.lst []) = some (.bl xs.isEmpty) := by
  show eqD _ _ = _
  unfold eqD
  rw [if_pos ⟨by simpa using h, by simp⟩]
  cases xs <;> rfl
theorem zip_in : ∀ {xs ys : List D} {d : D}, d ∈ zipL xs ys → ∃ a b, d = .tup [a, b] ∧ a ∈ xs ∧ b ∈ ys
  | [], ys, d, h => by unfold zipL at h; cases h
  | x :: xs, [], d, h => by unfold zipL at h; cases h
  | x :: xs, y :: ys, d, h => by
    unfold zipL at h
    rcases List.mem_cons.mp h with q | q
    · exact ⟨x, y, q, List.mem_cons_self .., List.mem_cons_self ..⟩
    · obtain ⟨a, b, e, h1, h2⟩ := zip_in q
      exact ⟨a, b, e, List.mem_cons_of_mem _ h1, List.mem_cons_of_mem _ h2⟩
theorem cut1 (xs : List D) : cutD xs (some 1) none = xs.drop 1 := by
  unfold cutD HT.sIx
  simp only [show ¬ ((1 : Int) < 0) by decide, if_false]
  cases xs with
  | nil => rfl
  | cons a r => simp
theorem walkers_eq (w : Int) (d : D) (o : dep d ≤ 60) (hl : ∀ xs, d = .tup xs → xs.length ≤ 1000) : F_are_walkers [.v (.int w), .v d] = .ok (.v (.bl (wkB w d))) [] := by
  have ht := isi_tup d (data60 o)
  by_cases q : ∃ xs, d = .tup xs
  · obtain ⟨xs, rfl⟩ := q
    have hl := hl xs rfl
    have he := isE_eqS (xs := xs) (by simpa using o)
    have c1 : mComp [2] (iItems1 (dVar 1)) (gtN 2) bTrue (dCall F_is_between [none, none, none] (dCons (dVar 2) (dCons (dC (.int 0)) (dCons (dBin subD (dVar 0) (dC (.int 1))) dNil)))) [some (.v (.int w)), some (.v (.tup xs)), none, none] = .ok (xs.map fun d => .bl (betw d 0 (w - 1))) [some (.v (.int w)), some (.v (.tup xs)), none, none] := by
      refine mComp_map _ rfl rfl (by omega) rfl rfl fun d hd => ⟨_, rfl, ?_, rfl⟩
      have k := between_eq d 0 (w - 1) (data60 (by have := dep_in o hd; omega))
      simp [k]
    cases xs with
    | nil => simp [F_are_walkers, startE, f_are_walkers, ht, tupB, he, wkB]
    | cons x r =>
      have he : eqS (.tup (x :: r)) (.tup []) = some (.bl false) := he
      have ha : allD (.lst (.bl (betw x 0 (w - 1)) :: r.map fun d => .bl (betw d 0 (w - 1)))) = some (.bl (betw x 0 (w - 1) && r.all fun d => betw d 0 (w - 1))) := all_map (fun d => betw d 0 (w - 1)) (x :: r)
      cases e2 : ((x :: r).all fun d => betw d 0 (w - 1))
      · simp only [List.all_cons] at e2
        simp [F_are_walkers, startE, f_are_walkers, ht, tupB, he, c1, ha, wkB, e2]
      · have c2 : mComp [2, 3] (iZip2 (dVar 1) (dSl (dVar 1) (pSome (dC (.int 1))) pNo)) (gtSeq 2 (gtCons (gtN 2) (gtCons (gtN 3) gtNil))) bTrue (dBin ltD (dVar 2) (dVar 3)) [some (.v (.int w)), some (.v (.tup (x :: r))), none, none] = .ok ((zipL (x :: r) r).map fun d => .bl (pairLt d)) [some (.v (.int w)), some (.v (.tup (x :: r))), none, none] := by
          have hz : iZip2 (dVar 1) (dSl (dVar 1) (pSome (dC (.int 1))) pNo) [some (.v (.int w)), some (.v (.tup (x :: r))), none, none] = .ok (zipL (x :: r) r) [some (.v (.int w)), some (.v (.tup (x :: r))), none, none] := by
            simp [slD, itemsD, cut1]
          refine mComp_map _ hz rfl (by rw [zipL_length]; simp at hl ⊢; omega) rfl rfl fun d hd => ?_
          obtain ⟨a, b, rfl, ha, hb⟩ := zip_in hd
          obtain ⟨i, rfl⟩ := betw_int (List.all_eq_true.mp e2 a ha)
          obtain ⟨j, rfl⟩ := betw_int (List.all_eq_true.mp e2 b (List.mem_cons_of_mem _ hb))
          exact ⟨_, rfl, by simp [pairLt], rfl⟩
        simp only [List.all_cons] at e2
        simp [F_are_walkers, startE, f_are_walkers, ht, tupB, he, c1, ha, wkB, e2, c2]
  · have h1 : tupB d = false := by cases d <;> first | rfl | (exact absurd ⟨_, rfl⟩ q)
    have n : wkB w d = false := by cases d <;> first | rfl | (exact absurd ⟨_, rfl⟩ q)
    simp [F_are_walkers, startE, f_are_walkers, ht, h1, n]
theorem span_eq (w : Int) (ns : List Nt) (hn : ns.length ≤ 1000) (k l h : D) (hk : dataD k = true) (hl : dataD l = true) (hh : dataD h = true) : F_is_span [.v (.int w), .v (nsD ns), .v k, .v l, .v h] = .ok (.v (.bl (spanB w ns k l h))) [] := by
  have k1 := between_eq k 0 ((ns.length : Int) - 1) hk
  have hlen : lenD (nsD ns) = some (.int (ns.length : Int)) := by simp [nsD, lenD]
  by_cases q : betw k 0 ((ns.length : Int) - 1) = true
  · obtain ⟨i, rfl, i0, i1⟩ := betw_i q
    have hx := ix_notes (ns := ns) (i := i) i0 (by omega)
    have m := most_in_eq w (atN ns i)
    have k2 := between_eq l 0 ((atN ns i).most w) hl
    by_cases q2 : betw l 0 ((atN ns i).most w) = true
    · obtain ⟨a, rfl, a0, a1⟩ := betw_i q2
      have k3 := between_eq h a ((atN ns i).most w) hh
      simp [F_is_span, startE, f_is_span, hlen, k1, q, hx, m, k2, q2, k3, spanB, i0, i1]
    · have q2 : betw l 0 ((atN ns i).most w) = false := by simpa using q2
      have n : spanB w ns (.int i) l h = false := by
        cases l <;> first | rfl | simp [spanB, q2]
      simp [F_is_span, startE, f_is_span, hlen, k1, q, hx, m, k2, q2, n]
  · have q : betw k 0 ((ns.length : Int) - 1) = false := by simpa using q
    have n : spanB w ns k l h = false := by
      cases k <;> first | rfl | skip
      cases l <;> first | rfl | skip
      rename_i i a
      simp only [betw, Bool.and_eq_false_iff, decide_eq_false_iff_not] at q
      rcases q with q | q <;> simp [spanB, q]
    simp [F_is_span, startE, f_is_span, hlen, k1, q, n]
theorem free_eq (w n : D) (ps : List D) (o : depL ps + 1 ≤ 60) (k : D) : F_fits_free [.v w, .v n, .v (.lst ps), .v k] = .ok (.v (.bl ps.isEmpty)) [] := by
  have he := isE_eqL o
  simp [F_fits_free, startE, f_fits_free, he]
def oneP (f : D → Bool) : List D → Bool
  | [a] => f a
  | _ => false
def twoP (f : D → Bool) : List D → Bool
  | [a, b] => f a && f b
  | _ => false
def threeP (f : D → D → D → Bool) : List D → Bool
  | [a, b, c] => f a b c
  | _ => false
theorem who_rule_eq (w : Int) (n : D) (ps : List D) (o : depL ps + 1 ≤ 60) (hl : ∀ p ∈ ps, ∀ xs, p = .tup xs → xs.length ≤ 1000) (k : D) : F_fits_who [.v (.int w), .v n, .v (.lst ps), .v k] = .ok (.v (.bl (oneP (wkB w) ps))) [] := by
  rcases ps with _ | ⟨p, _ | ⟨p2, r⟩⟩
  · simp [oneP, F_fits_who, startE, f_fits_who, lenD]
  · simp only [depL_c, depL_n] at o
    have k1 := walkers_eq w p (by omega) (hl p (List.mem_cons_self ..))
    simp [oneP, F_fits_who, startE, f_fits_who, lenD, k1]
  · have : ¬ ((r.length : Int) + 1 + 1 = 1) := by omega
    simp [oneP, F_fits_who, startE, f_fits_who, lenD, this]
theorem note_rule_eq (w : Int) (ns : List Nt) (hn : ns.length ≤ 1000) (ps : List D) (o : depL ps + 1 ≤ 60) (k : D) : F_fits_note [.v (.int w), .v (nsD ns), .v (.lst ps), .v k] = .ok (.v (.bl (threeP (spanB w ns) ps))) [] := by
  rcases ps with _ | ⟨a, _ | ⟨b, _ | ⟨c, _ | ⟨d, r⟩⟩⟩⟩
  · simp [threeP, F_fits_note, startE, f_fits_note, lenD]
  · simp [threeP, F_fits_note, startE, f_fits_note, lenD]
  · simp [threeP, F_fits_note, startE, f_fits_note, lenD]
  · simp only [depL_c, depL_n] at o
    have k1 := span_eq w ns hn a b c (data60 (by omega)) (data60 (by omega)) (data60 (by omega))
    simp [threeP, F_fits_note, startE, f_fits_note, lenD, k1]
  · have : ¬ ((r.length : Int) + 1 + 1 + 1 + 1 = 3) := by omega
    simp [threeP, F_fits_note, startE, f_fits_note, lenD, this]
theorem mine_rule_eq (w : D) (ns : List Nt) (hn : ns.length ≤ 1000) (ps : List D) (o : depL ps + 1 ≤ 60) (k : D) : F_fits_mine [.v w, .v (nsD ns), .v (.lst ps), .v k] = .ok (.v (.bl (oneP (mineB ns) ps))) [] := by
  have hlen : lenD (nsD ns) = some (.int (ns.length : Int)) := by simp [nsD, lenD]
  rcases ps with _ | ⟨a, _ | ⟨p2, r⟩⟩
  · simp [oneP, F_fits_mine, startE, f_fits_mine, lenD]
  · simp only [depL_c, depL_n] at o
    have k1 := between_eq a 0 ((ns.length : Int) - 1) (data60 (by omega))
    have hl1 : lenD (.lst [a]) = some (.int 1) := rfl
    by_cases q : betw a 0 ((ns.length : Int) - 1) = true
    · obtain ⟨i, rfl, i0, i1⟩ := betw_i q
      have hx := ix_notes (ns := ns) (i := i) i0 (by omega)
      have hm : ∃ t r, (atN ns i).d = .tup (.str t :: r) ∧ markB (atN ns i) = decide (t = "last" ∨ t = "first") := by
        cases atN ns i <;> exact ⟨_, _, rfl, by simp [markB]⟩
      obtain ⟨t, r, e1, e2⟩ := hm
      simp [oneP, F_fits_mine, startE, f_fits_mine, hl1, hlen, k1, q, hx, e1, mineB, i0, i1, e2]
    · have q : betw a 0 ((ns.length : Int) - 1) = false := by simpa using q
      have n : mineB ns a = false := by
        cases a <;> first | rfl | skip
        rename_i i
        simp only [betw, Bool.and_eq_false_iff, decide_eq_false_iff_not] at q
        rcases q with q | q <;> simp [mineB, q]
      simp [oneP, F_fits_mine, startE, f_fits_mine, hl1, hlen, k1, q, n]
  · have : ¬ ((r.length : Int) + 1 + 1 = 1) := by omega
    simp [oneP, F_fits_mine, startE, f_fits_mine, lenD, this]
end DL
end

section
set_option Elab.async false
set_option linter.all false
set_option maxRecDepth 100000
/-! R2: what is a rule. -/
namespace DL
open PySem PySem.Spec PyProof.Rows L2
def ruleB (w : Int) (ns : List Nt) : Nat → D → Bool
  | 0, _ => false
  | k + 1, .tup (.str t :: ps) =>
    if t = "free" then ps.isEmpty
    else if t = "who" then oneP (wkB w) ps
    else if t = "note" then threeP (spanB w ns) ps
    else if t = "mine" then oneP (mineB ns) ps
    else if t = "not" then oneP (fun a => ruleB w ns k a) ps
    else if t = "both" ∨ t = "either" then twoP (fun a => ruleB w ns k a) ps
    else false
  | _, _ => false
theorem rule_one (w : Int) (ns : List Nt) (m : Nat) (k : Nat) (ps : List D) (hl : ps.length ≤ 1000) (ih : ∀ a ∈ ps, F_is_rule_of m [.v (.int w), .v (nsD ns), .v a, .v (.int (k : Int))] = .ok (.v (.bl (ruleB w ns k a))) []) : F_fits_one (m + 1) [.v (.int w), .v (nsD ns), .v (.lst ps), .v (.int ((k : Int) + 1))] = .ok (.v (.bl (oneP (fun a => ruleB w ns k a) ps))) [] := by
  rcases ps with _ | ⟨a, _ | ⟨b, r⟩⟩
  · simp [oneP, F_fits_one, startE, f_fits_one, lenD]
  · have i1 := ih a (List.mem_cons_self ..)
    simp [oneP, F_fits_one, startE, f_fits_one, lenD, i1, Int.add_sub_cancel]
  · have : ¬ ((r.length : Int) + 1 + 1 = 1) := by omega
    simp [oneP, F_fits_one, startE, f_fits_one, lenD, this]
theorem rule_two (w : Int) (ns : List Nt) (m : Nat) (k : Nat) (ps : List D) (hl : ps.length ≤ 1000) (ih : ∀ a ∈ ps, F_is_rule_of m [.v (.int w), .v (nsD ns), .v a, .v (.int (k : Int))] = .ok (.v (.bl (ruleB w ns k a))) []) : F_fits_two (m + 1) [.v (.int w), .v (nsD ns), .v (.lst ps), .v (.int ((k : Int) + 1))] = .ok (.v (.bl (twoP (fun a => ruleB w ns k a) ps))) [] := by
  rcases ps with _ | ⟨a, _ | ⟨b, _ | ⟨c, r⟩⟩⟩
  · simp [twoP, F_fits_two, startE, f_fits_two, lenD]
  · simp [twoP, F_fits_two, startE, f_fits_two, lenD]
  · have c1 : mComp [4] (iItems1 (dVar 2)) (gtN 4) bTrue (dCall (F_is_rule_of m) [none, none, none, none] (dCons (dVar 0) (dCons (dVar 1) (dCons (dVar 4) (dCons (dBin subD (dVar 3) (dC (.int 1))) dNil))))) [some (.v (.int w)), some (.v (nsD ns)), some (.v (.lst [a, b])), some (.v (.int ((k : Int) + 1))), none] = .ok ([a, b].map fun d => .bl (ruleB w ns k d)) [some (.v (.int w)), some (.v (nsD ns)), some (.v (.lst [a, b])), some (.v (.int ((k : Int) + 1))), none] := by
      refine mComp_map _ rfl rfl (by simp) rfl rfl fun d hd => ⟨_, rfl, ?_, rfl⟩
      have i1 := ih d hd
      simp [i1, Int.add_sub_cancel]
    have ha : allD (.lst [.bl (ruleB w ns k a), .bl (ruleB w ns k b)]) = some (.bl (ruleB w ns k a && ruleB w ns k b)) := by
      have := all_map (fun d => ruleB w ns k d) [a, b]
      simpa using this
    simp [twoP, F_fits_two, startE, f_fits_two, lenD, c1, ha]
  · have : ¬ ((r.length : Int) + 1 + 1 + 1 = 2) := by omega
    simp [twoP, F_fits_two, startE, f_fits_two, lenD, this]
theorem rule_eq (w : Int) (ns : List Nt) (hn : ns.length ≤ 1000) : ∀ (k m : Nat) (d : D), 2 * k ≤ m → dep d ≤ 60 → lens 1000 d = true → F_is_rule_of (m + 1) [.v (.int w), .v (nsD ns), .v d, .v (.int (k : Int))] = .ok (.v (.bl (ruleB w ns k d))) [] := by
  intro k
  induction k with
  | zero =>
    intro m d hm o hl
    have e0 : ((0 : Nat) : Int) = 0 := rfl
    simp [F_is_rule_of, startE, f_is_rule_of, ruleB]
  | succ k ih =>
    intro m d hm o hl
    have k0 : ¬ ((k : Int) + 1 = 0) := by omega
    rw [show ((k + 1 : Nat) : Int) = (k : Int) + 1 by omega]
    have ht := isi_tup d (data60 o)
    by_cases q : ∃ t ps, d = .tup (.str t :: ps)
    · obtain ⟨t, ps, rfl⟩ := q
      obtain ⟨hl1, hl2⟩ := lens_tup hl
      have hlp : ps.length + 1 ≤ 1000 := by simpa using hl1
      have hl3 : ps.length + 1 ≤ 16777216 := by omega
      obtain ⟨od, op⟩ := dep_tl o
      have dps : depL ps + 1 ≤ 60 := by simp only [dep_t, depL_c] at o; omega
      have he : eqS (.tup (.str t :: ps)) (.tup []) = some (.bl false) := isE_eqS (by simpa using o)
      have ht2 : isiD1 (.tup (.str t :: ps)) "tuple" = some (.bl true) := ht
      have hs2 : isiD1 (.str t) "str" = some (.bl true) := isi_strB _ rfl
      have hps : ∀ p ∈ ps, ∀ xs, p = .tup xs → xs.length ≤ 1000 := fun p hp xs e => by
        have := hl2 p (List.mem_cons_of_mem _ hp)
        subst e
        exact (lens_tup this).1
      match m, hm with
      | m' + 2, hm =>
        have ih2 : ∀ a ∈ ps, F_is_rule_of (m' + 1) [.v (.int w), .v (nsD ns), .v a, .v (.int (k : Int))] = .ok (.v (.bl (ruleB w ns k a))) [] := fun a ha => ih m' a (by omega) (by have := op a ha; omega) (hl2 a (List.mem_cons_of_mem _ ha))
        have g1 := rule_one w ns (m' + 1) k ps (by omega) ih2
        have g2 := rule_two w ns (m' + 1) k ps (by omega) ih2
        have g3 := free_eq (.int w) (nsD ns) ps dps (.int ((k : Int) + 1))
        have g4 := who_rule_eq w (nsD ns) ps dps hps (.int ((k : Int) + 1))
        have g5 := note_rule_eq w ns hn ps dps (.int ((k : Int) + 1))
        have g6 := mine_rule_eq (.int w) ns hn ps dps (.int ((k : Int) + 1))
        unfold F_is_rule_of
        generalize F_fits_one (m' + 2) = R1 at *
        generalize F_fits_two (m' + 2) = R2 at *
        generalize F_is_rule_of (m' + 2) = R3 at *
        by_cases c1 : t = Str.ofString "free"
        · subst c1
          have t1 : inT tab_FITS true (.str (Str.ofString "free")) = some (.bl false) := rfl
          have t2 : ixT tab_FITS (.str (Str.ofString "free")) = some (.fn fn_fits_free) := rfl
          simp [startE, f_is_rule_of, k0, ht2, he, hs2, gtStar, gtNil, gtCons, hl3, t1, t2, fnAt, held_FITS, fn_fits_free, g3, ruleB]
        by_cases c2 : t = Str.ofString "who"
        · subst c2
          have t1 : inT tab_FITS true (.str (Str.ofString "who")) = some (.bl false) := rfl
          have t2 : ixT tab_FITS (.str (Str.ofString "who")) = some (.fn fn_fits_who) := rfl
          simp [startE, f_is_rule_of, k0, ht2, he, hs2, gtStar, gtNil, gtCons, hl3, t1, t2, fnAt, held_FITS, fn_fits_free, fn_fits_who, g4, ruleB]
        by_cases c3 : t = Str.ofString "note"
        · subst c3
          have t1 : inT tab_FITS true (.str (Str.ofString "note")) = some (.bl false) := rfl
          have t2 : ixT tab_FITS (.str (Str.ofString "note")) = some (.fn fn_fits_note) := rfl
          simp [startE, f_is_rule_of, k0, ht2, he, hs2, gtStar, gtNil, gtCons, hl3, t1, t2, fnAt, held_FITS, fn_fits_free, fn_fits_who, fn_fits_note, g5, ruleB]
        by_cases c4 : t = Str.ofString "mine"
        · subst c4
          have t1 : inT tab_FITS true (.str (Str.ofString "mine")) = some (.bl false) := rfl
          have t2 : ixT tab_FITS (.str (Str.ofString "mine")) = some (.fn fn_fits_mine) := rfl
          simp [startE, f_is_rule_of, k0, ht2, he, hs2, gtStar, gtNil, gtCons, hl3, t1, t2, fnAt, held_FITS, fn_fits_free, fn_fits_who, fn_fits_note, fn_fits_mine, g6, ruleB]
        by_cases c5 : t = Str.ofString "not"
        · subst c5
          have t1 : inT tab_FITS true (.str (Str.ofString "not")) = some (.bl false) := rfl
          have t2 : ixT tab_FITS (.str (Str.ofString "not")) = some (.fn fn_fits_one) := rfl
          simp [startE, f_is_rule_of, k0, ht2, he, hs2, gtStar, gtNil, gtCons, hl3, t1, t2, fnAt, held_FITS, fn_fits_free, fn_fits_who, fn_fits_note, fn_fits_mine, fn_fits_one, g1, ruleB]
        by_cases c6 : t = Str.ofString "both"
        · subst c6
          have t1 : inT tab_FITS true (.str (Str.ofString "both")) = some (.bl false) := rfl
          have t2 : ixT tab_FITS (.str (Str.ofString "both")) = some (.fn fn_fits_two) := rfl
          simp [startE, f_is_rule_of, k0, ht2, he, hs2, gtStar, gtNil, gtCons, hl3, t1, t2, fnAt, held_FITS, fn_fits_free, fn_fits_who, fn_fits_note, fn_fits_mine, fn_fits_one, fn_fits_two, g2, ruleB]
        by_cases c7 : t = Str.ofString "either"
        · subst c7
          have t1 : inT tab_FITS true (.str (Str.ofString "either")) = some (.bl false) := rfl
          have t2 : ixT tab_FITS (.str (Str.ofString "either")) = some (.fn fn_fits_two) := rfl
          simp [startE, f_is_rule_of, k0, ht2, he, hs2, gtStar, gtNil, gtCons, hl3, t1, t2, fnAt, held_FITS, fn_fits_free, fn_fits_who, fn_fits_note, fn_fits_mine, fn_fits_one, fn_fits_two, g2, ruleB]
        have t1 : inT tab_FITS true (.str t) = some (.bl true) := by
          simp [inT, tab_FITS, List.lookup, beq_eq_false_iff_ne.mpr c1, beq_eq_false_iff_ne.mpr c2, beq_eq_false_iff_ne.mpr c3, beq_eq_false_iff_ne.mpr c4, beq_eq_false_iff_ne.mpr c5, beq_eq_false_iff_ne.mpr c6, beq_eq_false_iff_ne.mpr c7]
        simp [startE, f_is_rule_of, k0, ht2, he, hs2, gtStar, gtNil, gtCons, hl3, t1, ruleB, c1, c2, c3, c4, c5, c6, c7]
    · have nb : ruleB w ns (k + 1) d = false := by
        cases d <;> first | rfl | skip
        rename_i xs
        cases xs with
        | nil => rfl
        | cons h r => cases h <;> first | rfl | (exact absurd ⟨_, _, rfl⟩ q)
      unfold F_is_rule_of
      by_cases q2 : ∃ xs, d = .tup xs
      · obtain ⟨xs, rfl⟩ := q2
        cases xs with
        | nil =>
          have he : eqS (.tup []) (.tup []) = some (.bl true) := isE_eqS (by simp)
          simp [startE, f_is_rule_of, k0, ht, tupB, he, nb]
        | cons h r =>
          have he : eqS (.tup (h :: r)) (.tup []) = some (.bl false) := isE_eqS (by simpa using o)
          have hs : isiD1 h "str" = some (.bl false) := by
            have e1 := isi_strB h (data60 (by have := (dep_tl o).1; omega))
            have e2 : strB h = false := by cases h <;> first | rfl | (exact absurd ⟨_, _, rfl⟩ q)
            rw [e1, e2]
          simp [startE, f_is_rule_of, k0, ht, tupB, he, hs, nb]
      · have h1 : tupB d = false := by cases d <;> first | rfl | (exact absurd ⟨_, rfl⟩ q2)
        simp [startE, f_is_rule_of, k0, ht, h1, nb]
end DL
end

section
set_option Elab.async false
set_option linter.all false
set_option maxRecDepth 100000
/-! R3: what is a rule, as the law has it. -/
namespace DL
open PySem PySem.Spec PyProof.Rows L2
theorem ints_all {w : Int} : ∀ {xs : List D}, (xs.all fun d => betw d 0 w) = true → ∃ is : List Int, xs = is.map D.int
  | [], _ => ⟨[], rfl⟩
  | x :: xs, h => by
    simp only [List.all_cons, Bool.and_eq_true] at h
    obtain ⟨i, rfl⟩ := betw_int h.1
    obtain ⟨is, rfl⟩ := ints_all h.2
    exact ⟨i :: is, rfl⟩
theorem zip_lt : ∀ is : List Int, (zipL (is.map D.int) ((is.map D.int).drop 1)).all pairLt = true ↔ is.Pairwise (· < ·)
  | [] => by simp [zipL]
  | [a] => by simp [zipL]
  | a :: b :: r => by
    have ih := zip_lt (b :: r)
    have e : zipL ((a :: b :: r).map D.int) (((a :: b :: r).map D.int).drop 1) = .tup [.int a, .int b] :: zipL ((b :: r).map D.int) (((b :: r).map D.int).drop 1) := rfl
    rw [e, List.all_cons, Bool.and_eq_true, ih, List.pairwise_cons (a := a) (l := b :: r), show pairLt (.tup [.int a, .int b]) = decide (a < b) from rfl, decide_eq_true_eq]
    constructor
    · rintro ⟨h1, h2⟩
      refine ⟨fun c hc => ?_, h2⟩
      rcases List.mem_cons.mp hc with q | q
      · rw [q]; exact h1
      · exact Int.lt_trans h1 ((List.pairwise_cons.mp h2).1 c q)
    · rintro ⟨h1, h2⟩
      exact ⟨h1 b (List.mem_cons_self ..), h2⟩
theorem sort_once_lt (xs : List Int) : (sortI (onceI xs)).Pairwise (· < ·) := by
  have h1 := sortI_pw (onceI xs)
  have h2 : (sortI (onceI xs)).Nodup := (sortI_perm (onceI xs)).nodup_iff.mpr (once_nodup xs)
  exact (h1.and h2).imp fun ⟨a, b⟩ => by omega
theorem eqvL_int : ∀ a b : List Int, eqvL (a.map D.int) (b.map D.int) = decide (a = b)
  | [], [] => rfl
  | [], _ :: _ => rfl
  | _ :: _, [] => rfl
  | x :: a, y :: b => by
    have ih := eqvL_int a b
    show (eqv (.int x) (.int y) && eqvL (a.map D.int) (b.map D.int)) = _
    rw [ih]
    have : eqv (.int x) (.int y) = decide (x = y) := by
      show (x == y) = _
      by_cases q : x = y
      · subst q; simp
      · simp [q]
    rw [this]
    by_cases q : x = y <;> by_cases q2 : a = b <;> simp [q, q2]
theorem depL_int : ∀ is : List Int, depL (is.map D.int) = 0
  | [] => rfl
  | i :: is => by
    show max (dep (.int i)) (depL (is.map D.int)) = 0
    rw [depL_int is]; rfl
theorem rising_eq (is : List Int) : eqS (.lst (is.map D.int)) (.lst ((sortI (onceI is)).map D.int)) = some (.bl ((zipL (is.map D.int) ((is.map D.int).drop 1)).all pairLt)) := by
  show eqD _ _ = _
  unfold eqD
  rw [if_pos ⟨by simp [depL_int], by simp [depL_int]⟩]
  show some (D.bl (eqvL _ _)) = _
  rw [eqvL_int]
  congr 2
  rw [Bool.eq_iff_iff, zip_lt, decide_eq_true_eq]
  constructor
  · intro h; rw [h]; exact sort_once_lt is
  · exact fun h => once_uniq h fun k => Iff.rfl
theorem intsOf_map : ∀ is : List Int, intsOf (is.map D.int) = some is
  | [] => rfl
  | i :: is => by
    show (intsOf (is.map D.int)).map (i :: ·) = _
    rw [intsOf_map is]; rfl
theorem sortSet_tup (is : List Int) (h : is.length ≤ 60) : sortSetD (.tup (is.map D.int)) = some (.lst ((sortI (onceI is)).map D.int)) := by
  simp only [sortSetD, itemsD, Option.bind_some, intsOf_map, if_pos h]
theorem sortSet_lst (is : List Int) (h : is.length ≤ 60) : sortSetD (.lst (is.map D.int)) = some (.lst ((sortI (onceI is)).map D.int)) := by
  simp only [sortSetD, itemsD, Option.bind_some, intsOf_map, if_pos h]
mutual
theorem lens_mono {n m : Nat} (h : n ≤ m) : ∀ d : D, lens n d = true → lens m d = true
  | .tup xs, z => by
    simp only [lens, Bool.and_eq_true, decide_eq_true_eq] at z ⊢
    exact ⟨by omega, lensL_mono h xs z.2⟩
  | .lst xs, z => by
    simp only [lens, Bool.and_eq_true, decide_eq_true_eq] at z ⊢
    exact ⟨by omega, lensL_mono h xs z.2⟩
  | .non, _ | .bl _, _ | .int _, _ | .str _, _ | .dct _ _, _ | .fn _, _ | .cl _, _ | .ty _, _ | .th _ _, _ | .xc _ _ _, _ => by simp only [lens]
theorem lensL_mono {n m : Nat} (h : n ≤ m) : ∀ xs : List D, lensL n xs = true → lensL m xs = true
  | [], _ => rfl
  | x :: xs, z => by
    simp only [lensL, Bool.and_eq_true] at z ⊢
    exact ⟨lens_mono h x z.1, lensL_mono h xs z.2⟩
end
def sizeK : List Key := [.inr "free", .inr "who", .inr "note", .inr "mine", .inr "not", .inr "both", .inr "either"]
def sizeV : List D := [.int 1, .int 2, .int 4, .int 2, .int 2, .int 3, .int 3]
end DL
end

section
set_option Elab.async false
set_option linter.all false
set_option maxRecDepth 100000
/-! R4: the law's own words of what is a rule. -/
namespace DL
open PySem PySem.Spec PyProof.Rows L2
@[simp] theorem yes_s3 (k a b c : Str) : yesD (.str k) (.tup [.str a, .str b, .str c]) = some (.bl (decide (k = a ∨ k = b ∨ k = c))) := by
  have h := yes_ss k [a, b, c]
  simpa using h
theorem size_no (t : Str) : noD (.str t) (.dct [.inr "free", .inr "who", .inr "note", .inr "mine", .inr "not", .inr "both", .inr "either"] [.int 1, .int 2, .int 4, .int 2, .int 2, .int 3, .int 3]) = some (.bl (!(decide (t = "free" ∨ t = "who" ∨ t = "note" ∨ t = "mine" ∨ t = "not" ∨ t = "both" ∨ t = "either")))) := by
  simp only [noD, inD, keyD, Option.map_some]
  congr 3
  by_cases c1 : t = Str.ofString "free"
  · subst c1; rfl
  by_cases c2 : t = Str.ofString "who"
  · subst c2; rfl
  by_cases c3 : t = Str.ofString "note"
  · subst c3; rfl
  by_cases c4 : t = Str.ofString "mine"
  · subst c4; rfl
  by_cases c5 : t = Str.ofString "not"
  · subst c5; rfl
  by_cases c6 : t = Str.ofString "both"
  · subst c6; rfl
  by_cases c7 : t = Str.ofString "either"
  · subst c7; rfl
  simp [lookK, c1, c2, c3, c4, c5, c6, c7, Ne.symm c1, Ne.symm c2, Ne.symm c3, Ne.symm c4, Ne.symm c5, Ne.symm c6, Ne.symm c7]
theorem cut_1 (a : D) (r : List D) : cutD (a :: r) (some 1) none = r := cut1 (a :: r)
end DL
end

section
set_option Elab.async false
set_option linter.all false
set_option maxRecDepth 100000
/-! R6: notes of a room, is_rule, the notes a rule asks. -/
namespace DL
open PySem PySem.Spec PyProof.Rows L2
theorem compL2_flat {vs vs1 : List Nat} {t t1 : D → Env → Option Env} {fi1 : Env → R (List D)} {fe : Env → R D} {f : D → List D} {E0 : Env} : ∀ (ds : List D), (∀ d ∈ ds, ∃ E1, t d E0 = some E1 ∧ fi1 E1 = .ok (f d) E1 ∧ compL vs1 t1 bTrue fe (f d) (wipeE E1 vs1) = .ok (f d) (wipeE E1 vs1) ∧ wipeE (wipeE E1 vs1) vs = E0) → compL2 vs vs1 t bTrue fi1 t1 bTrue fe ds E0 = .ok (ds.flatMap f) E0
  | [], _ => rfl
  | d :: ds, h => by
    obtain ⟨E1, h1, h2, h3, h4⟩ := h d (List.mem_cons_self ..)
    unfold compL2
    rw [h1, opt_some, bnd_ok, bTrue_ap, bnd_ok, if_pos rfl, h2, bnd_ok, h3, bnd_ok, h4, compL2_flat ds fun x hx => h x (List.mem_cons_of_mem _ hx), bnd_ok]
    rfl
theorem mComp2_flat {vs vs1 : List Nat} {fi : Env → R (List D)} {t t1 : D → Env → Option Env} {fi1 : Env → R (List D)} {fe : Env → R D} (f : D → List D) {E0 : Env} {ds : List D} (hi : fi E0 = .ok ds E0) (hn : vs.all (noM E0) = true) (hl : (ds.flatMap f).length < 16777216) (hw : wipeE E0 vs = E0) (hb : backE E0 E0 vs = E0)
    (h : ∀ d ∈ ds, ∃ E1, t d E0 = some E1 ∧ fi1 E1 = .ok (f d) E1 ∧ compL vs1 t1 bTrue fe (f d) (wipeE E1 vs1) = .ok (f d) (wipeE E1 vs1) ∧ wipeE (wipeE E1 vs1) vs = E0) : mComp2 vs vs1 fi t bTrue fi1 t1 bTrue fe E0 = .ok (ds.flatMap f) E0 := by
  unfold mComp2
  rw [hi, bnd_ok, if_pos hn, hw, compL2_flat ds h]
  show (if (ds.flatMap f).length < 16777216 then R.ok _ (backE E0 E0 vs) else _) = _
  rw [if_pos hl, hb]
/-- the numbers of the notes in a rule, as they stand -/
def askI : Nat → D → List Int
  | 0, _ => []
  | k + 1, .tup (.str t :: ps) =>
    if t = "note" ∨ t = "mine" then (match ps with | .int i :: _ => [i] | _ => [])
    else if t = "free" ∨ t = "who" then []
    else ps.flatMap fun a => askI k a
  | _, _ => []
theorem rule_shape {w : Int} {ns : List Nt} {k : Nat} {d : D} (h : ruleB w ns k d = true) : ∃ k', k = k' + 1 ∧ ∃ t ps, d = .tup (.str t :: ps) ∧ ((t = "free" ∧ ps = []) ∨ (t = "who" ∧ ∃ a, ps = [a]) ∨ (t = "note" ∧ ∃ i b c, ps = [.int i, b, c]) ∨ (t = "mine" ∧ ∃ i, ps = [.int i]) ∨ (t = "not" ∧ ∃ a, ps = [a] ∧ ruleB w ns k' a = true) ∨ ((t = "both" ∨ t = "either") ∧ ∃ a b, ps = [a, b] ∧ ruleB w ns k' a = true ∧ ruleB w ns k' b = true)) := by
  have one : ∀ {f : D → Bool} {ps : List D}, oneP f ps = true → ∃ a, ps = [a] ∧ f a = true := fun {f ps} h => by
    rcases ps with _ | ⟨a, _ | ⟨b, r⟩⟩
    · cases h
    · exact ⟨a, rfl, h⟩
    · cases h
  cases k with
  | zero => cases d <;> cases h
  | succ k' =>
    refine ⟨k', rfl, ?_⟩
    by_cases q : ∃ t ps, d = .tup (.str t :: ps)
    · obtain ⟨t, ps, rfl⟩ := q
      refine ⟨t, ps, rfl, ?_⟩
      simp only [ruleB] at h
      split at h
      · exact .inl ⟨by assumption, by simpa using h⟩
      split at h
      · obtain ⟨a, rfl, _⟩ := one h
        exact .inr (.inl ⟨by assumption, a, rfl⟩)
      split at h
      · refine .inr (.inr (.inl ⟨by assumption, ?_⟩))
        rcases ps with _ | ⟨a, _ | ⟨b, _ | ⟨c, _ | ⟨d, r⟩⟩⟩⟩
        · cases h
        · cases h
        · cases h
        · cases a <;> first | (cases h; done) | exact ⟨_, _, _, rfl⟩
        · cases h
      split at h
      · obtain ⟨a, rfl, h2⟩ := one h
        refine .inr (.inr (.inr (.inl ⟨by assumption, ?_⟩)))
        cases a <;> first | (cases h2; done) | exact ⟨_, rfl⟩
      split at h
      · obtain ⟨a, rfl, h2⟩ := one h
        exact .inr (.inr (.inr (.inr (.inl ⟨by assumption, a, rfl, h2⟩))))
      split at h
      · refine .inr (.inr (.inr (.inr (.inr ⟨by assumption, ?_⟩))))
        rcases ps with _ | ⟨a, _ | ⟨b, _ | ⟨c, r⟩⟩⟩
        · cases h
        · cases h
        · simp only [twoP, Bool.and_eq_true] at h
          exact ⟨a, b, rfl, h⟩
        · cases h
      · cases h
    · exfalso
      cases d <;> first | (cases h; done) | skip
      rename_i xs
      cases xs with
      | nil => cases h
      | cons x r => cases x <;> first | (cases h; done) | (exact q ⟨_, _, rfl⟩)
theorem ask_len {w : Int} {ns : List Nt} : ∀ {k : Nat} {d : D}, ruleB w ns k d = true → (askI k d).length ≤ 2 ^ k := by
  intro k
  induction k with
  | zero => intro d h; obtain ⟨k', e, _⟩ := rule_shape h; cases e
  | succ k ih =>
    intro d h
    obtain ⟨k', e, t, ps, rfl, h⟩ := rule_shape h
    cases e
    have p2 : 1 ≤ 2 ^ k := Nat.one_le_two_pow
    have p3 : 2 ^ (k + 1) = 2 ^ k + 2 ^ k := by rw [Nat.pow_succ]; omega
    rcases h with ⟨rfl, rfl⟩ | ⟨rfl, a, rfl⟩ | ⟨rfl, i, b, c, rfl⟩ | ⟨rfl, i, rfl⟩ | ⟨rfl, a, rfl, ha⟩ | ⟨rfl | rfl, a, b, rfl, ha, hb⟩
    · simp [askI]
    · simp [askI]
    · simp [askI]; omega
    · simp [askI]; omega
    · have := ih ha
      simp [askI]; omega
    · have := ih ha; have := ih hb
      simp [askI]; omega
    · have := ih ha; have := ih hb
      simp [askI]; omega
theorem asked_eq {w : Int} {ns : List Nt} : ∀ (k m : Nat) (d : D), k ≤ 16 → k ≤ m → dep d ≤ 60 → lens 1000 d = true → ruleB w ns k d = true → F_notes_asked m [.v d] = .ok (.m ((askI k d).map D.int)) [] := by
  intro k
  induction k with
  | zero => intro m d _ _ _ _ h; obtain ⟨k', e, _⟩ := rule_shape h; cases e
  | succ k ih =>
    intro m d k16 hm o hl h
    have hl2 := ask_len h
    have hp : 2 ^ (k + 1) ≤ 2 ^ 16 := Nat.pow_le_pow_right (by omega) k16
    obtain ⟨k', e, t, ps, rfl, h⟩ := rule_shape h
    cases e
    obtain ⟨m, rfl⟩ : ∃ m', m = m' + 1 := ⟨m - 1, by omega⟩
    obtain ⟨hz1, hz2⟩ := lens_tup hl
    have hlp : ps.length + 1 ≤ 16777216 := by simp at hz1; omega
    obtain ⟨od, op⟩ := dep_tl o
    have key : (∀ a ∈ ps, ruleB w ns k a = true) → (t = "not" ∨ t = "both" ∨ t = "either") → F_notes_asked (m + 1) [.v (.tup (.str t :: ps))] = .ok (.m ((askI (k + 1) (.tup (.str t :: ps))).map D.int)) [] := fun hr ht => by
      have n1 : ¬ (t = "note" ∨ t = "mine") := by rcases ht with rfl | rfl | rfl <;> simp
      have n2 : ¬ (t = "free" ∨ t = "who") := by rcases ht with rfl | rfl | rfl <;> simp
      have ea : askI (k + 1) (.tup (.str t :: ps)) = ps.flatMap fun a => askI k a := by
        simp only [askI]
        rw [if_neg n1, if_neg n2]
      have ee : (ps.flatMap fun a => (askI k a).map D.int) = (ps.flatMap fun a => askI k a).map D.int := by
        rw [List.map_flatMap]
      rw [ea] at hl2 ⊢
      have c2 : mComp2 [3, 4] [4] (iItems1 (dVar 2)) (gtN 3) bTrue (iItems1 (dCall (F_notes_asked m) [none] (dCons (dVar 3) dNil))) (gtN 4) bTrue (dVar 4) [some (.v (.tup (.str t :: ps))), some (.v (.str t)), some (.v (.lst ps)), none, none] = .ok (ps.flatMap fun a => (askI k a).map D.int) [some (.v (.tup (.str t :: ps))), some (.v (.str t)), some (.v (.lst ps)), none, none] := by
        refine mComp2_flat (fun a => (askI k a).map D.int) (by simp [itemsD]) rfl (by rw [ee, List.length_map]; omega) rfl rfl fun d hd => ⟨_, rfl, ?_, ?_, rfl⟩
        · have i1 := ih m d (by omega) (by omega) (by have := op d hd; omega) (hz2 d (List.mem_cons_of_mem _ hd)) (hr d hd)
          simp [i1, itemsD]
        · have := compL_map (vs := [4]) (t := gtN 4) (fe := dVar 4) (f := id) (E0 := wipeE ([some (.v (.tup (.str t :: ps))), some (.v (.str t)), some (.v (.lst ps)), some (.v d), none]) [4]) ((askI k d).map D.int) fun d' hd' => ⟨_, rfl, rfl, rfl⟩
          rw [List.map_id] at this
          exact this
      rw [ee] at c2
      have y1 : yesD (.str t) (.tup [.str (Str.ofString "note"), .str (Str.ofString "mine")]) = some (.bl false) := by rw [yes_s2]; exact congrArg (fun b => some (D.bl b)) (decide_eq_false n1)
      have y2 : yesD (.str t) (.tup [.str (Str.ofString "free"), .str (Str.ofString "who")]) = some (.bl false) := by rw [yes_s2]; exact congrArg (fun b => some (D.bl b)) (decide_eq_false n2)
      generalize (ps.flatMap fun a => askI k a).map D.int = L at *
      unfold F_notes_asked
      simp [startE, f_notes_asked, gtStar, gtCons, gtNil, hlp, -yes_s2, y1, y2, c2]
    rcases h with ⟨rfl, rfl⟩ | ⟨rfl, a, rfl⟩ | ⟨rfl, i, b, c, rfl⟩ | ⟨rfl, i, rfl⟩ | ⟨rfl, a, rfl, ha⟩ | ⟨ht, a, b, rfl, ha, hb⟩
    · simp [F_notes_asked, startE, f_notes_asked, gtStar, gtCons, gtNil, askI]
    · simp [F_notes_asked, startE, f_notes_asked, gtStar, gtCons, gtNil, askI]
    · simp [F_notes_asked, startE, f_notes_asked, gtStar, gtCons, gtNil, askI]
    · simp [F_notes_asked, startE, f_notes_asked, gtStar, gtCons, gtNil, askI]
    · exact key (by simpa using ha) (.inl rfl)
    · exact key (by simpa using ⟨ha, hb⟩) (.inr ht)
end DL
end

section
set_option Elab.async false
set_option linter.all false
set_option maxRecDepth 100000
/-! R7a: notes of a room. -/
namespace DL
open PySem PySem.Spec PyProof.Rows L2
/-! notes of a room -/
def areB (w : Int) : D → Bool
  | .tup xs => decide (xs.length ≤ 4) && xs.all fun d => noteB w d
  | _ => false
theorem are_notes_eq (w : Int) (d : D) (o : okD d) (hl : lens 1000 d = true) : F_are_notes [.v (.int w), .v d] = .ok (.v (.bl (areB w d))) [] := by
  have ht := isi_tup d (okD_data d o)
  by_cases q : ∃ xs, d = .tup xs
  · obtain ⟨xs, rfl⟩ := q
    have o2 : dep (.tup xs) ≤ 60 := by rcases o with o | o
                                       · exact o
                                       · cases o
    obtain ⟨hl1, hl2⟩ := lens_tup hl
    have ht2 : isiD1 (.tup xs) "tuple" = some (.bl true) := ht
    have hlt : lenD (.tup xs) = some (.int (xs.length : Int)) := by simp [lenD]
    by_cases c : xs.length ≤ 4
    · have c4 : (xs.length : Int) ≤ 4 := by omega
      have c1 : mComp [2] (iItems1 (dVar 1)) (gtN 2) bTrue (dCall F_is_note_of [none, none] (dCons (dVar 0) (dCons (dVar 2) dNil))) [some (.v (.int w)), some (.v (.tup xs)), none] = .ok (xs.map fun d => .bl (noteB w d)) [some (.v (.int w)), some (.v (.tup xs)), none] := by
        refine mComp_map _ (by simp [itemsD]) rfl (by omega) rfl rfl fun d hd => ⟨_, rfl, ?_, rfl⟩
        have k := is_note_of_eq w d (.inl (by have := dep_in o2 hd; omega)) (fun ys e => by
          have := hl2 d hd
          subst e
          exact (lens_tup this).1)
        simp [k]
      have ha := all_map (fun d => noteB w d) xs
      simp [F_are_notes, startE, f_are_notes, ht2, hlt, c, c4, c1, ha, areB]
    · have c4 : ¬ (xs.length : Int) ≤ 4 := by omega
      simp [F_are_notes, startE, f_are_notes, ht2, hlt, c, c4, areB]
  · have h1 : tupB d = false := by cases d <;> first | rfl | (exact absurd ⟨_, rfl⟩ q)
    have n : areB w d = false := by cases d <;> first | rfl | (exact absurd ⟨_, rfl⟩ q)
    simp [F_are_notes, startE, f_are_notes, ht, h1, n]
def nsOk (w : Int) (ns : List Nt) : Prop := ns.length ≤ 4 ∧ ∀ n ∈ ns, n.ok w
theorem depL_leA {xs : List D} {m : Nat} (h : ∀ x ∈ xs, dep x ≤ m) : depL xs ≤ m := by
  induction xs with
  | nil => simp
  | cons a r ih =>
    have h1 := h a (List.mem_cons_self ..)
    have h2 := ih fun x hx => h x (List.mem_cons_of_mem _ hx)
    simp only [depL_c]; omega
theorem lensL_all {xs : List D} {m : Nat} (h : ∀ x ∈ xs, lens m x = true) : lensL m xs = true := by
  induction xs with
  | nil => rfl
  | cons a r ih =>
    have h1 := h a (List.mem_cons_self ..)
    have h2 := ih fun x hx => h x (List.mem_cons_of_mem _ hx)
    simp only [lensL, h1, h2, Bool.and_self]
theorem nt_lens (n : Nt) : lens 3 n.d = true := by
  have hw : ∀ a, lens 3 (whoD a) = true := fun a => by cases a <;> rfl
  cases n <;> simp [Nt.d, lens, lensL, hw]
theorem ns_facts {w : Int} (w1 : 1 ≤ w) (w3 : w ≤ 3) {ns : List Nt} (h : nsOk w ns) : areB w (nsD ns) = true ∧ dep (nsD ns) ≤ 2 ∧ lens 4 (nsD ns) = true := by
  obtain ⟨h1, h2⟩ := h
  refine ⟨?_, ?_, ?_⟩
  · simp only [areB, nsD, List.length_map, Bool.and_eq_true, decide_eq_true_eq, List.all_eq_true]
    refine ⟨h1, fun d hd => ?_⟩
    obtain ⟨n, hn, rfl⟩ := List.mem_map.mp hd
    exact (nt_facts w1 (by omega) (h2 n hn)).1
  · have : depL (ns.map Nt.d) ≤ 1 := depL_leA fun d hd => by
      obtain ⟨n, hn, rfl⟩ := List.mem_map.mp hd
      exact (nt_facts w1 (by omega) (h2 n hn)).2.1
    simp only [nsD, dep_t]; omega
  · simp only [nsD, lens, List.length_map, Bool.and_eq_true, decide_eq_true_eq]
    exact ⟨h1, lensL_all fun d hd => by
      obtain ⟨n, hn, rfl⟩ := List.mem_map.mp hd
      exact lens_mono (by omega) _ (nt_lens n)⟩
end DL
end

section
set_option Elab.async false
set_option linter.all false
set_option maxRecDepth 100000
/-! R8a: need_notes. -/
namespace DL
open PySem PySem.Spec PyProof.Rows L2
section
variable {w : Int} (w1 : 1 ≤ w) (w3 : w ≤ 3)
theorem need_notes_num (x : D) (h : dataD x = true) (q : betw x 1 3 = false) (n : D) : F_need_notes [.v x, .v n] = .exc ⟨cl_NoNumber, [("number", x)]⟩ [] := by
  have k := walkers_no x h q
  simp [F_need_notes, startE, f_need_notes, k]
include w1 w3
theorem need_notes_no (n : D) (o : okD n) (hl : lens 1000 n = true) (q : areB w n = false) : F_need_notes [.v (.int w), .v n] = .exc ⟨cl_NoNote, []⟩ [] := by
  have k := walkers_ok (.int w) rfl (betw_w w1 w3)
  have k2 := are_notes_eq w n o hl
  simp [F_need_notes, startE, f_need_notes, k, k2, q]
theorem need_notes_ok {ns : List Nt} (h : nsOk w ns) : F_need_notes [.v (.int w), .v (nsD ns)] = .ok (.v .non) [] := by
  obtain ⟨f1, f2, f3⟩ := ns_facts w1 w3 h
  have k := walkers_ok (.int w) rfl (betw_w w1 w3)
  have k2 := are_notes_eq w (nsD ns) (.inl (by omega)) (lens_mono (by omega) _ f3)
  simp [F_need_notes, startE, f_need_notes, k, k2, f1]
end
end DL
end

section
set_option Elab.async false
set_option linter.all false
set_option maxRecDepth 100000
/-! R9: drawn rules. -/
namespace DL
open PySem PySem.Spec PyProof.Rows L2
def tame (n : Nat) (d : D) : Prop := dep d ≤ n ∧ lens 8 d = true
theorem tame.mono {n m : Nat} {d : D} (h : tame n d) (k : n ≤ m) : tame m d := ⟨by have := h.1; omega, h.2⟩
theorem enum_in {l : List D} {n : Nat} {d : D} (h : d ∈ enumL n l) : ∃ (i : Nat) (x : D), d = .tup [.int (i : Int), x] ∧ x ∈ l := by
  induction l generalizing n with
  | nil => cases h
  | cons a r ih =>
    unfold enumL at h
    rcases List.mem_cons.mp h with q | q
    · exact ⟨n, a, q, List.mem_cons_self ..⟩
    · obtain ⟨i, x, e, hx⟩ := ih q
      exact ⟨i, x, e, List.mem_cons_of_mem _ hx⟩
theorem enum_len (l : List D) (n : Nat) : (enumL n l).length = l.length := by
  induction l generalizing n with
  | nil => rfl
  | cons a r ih => unfold enumL; simp [ih]
def fstD : D → D
  | .tup [a, _] => a
  | _ => .non
def markD : D → Bool
  | .tup [_, .tup (.str t :: _)] => decide (t = "last" ∨ t = "first")
  | _ => false
abbrev marksC : Env → R (List D) := mComp [8, 10] (iEnum1 (dVar 2)) (gtSeq 2 (gtCons (gtN 8) (gtCons (gtN 10) gtNil))) (dTest (dBin yesD (dBin ixD (dVar 10) (dC (.int 0))) (dTup (dCons (dC (.str "last")) (dCons (dC (.str "first")) dNil))))) (dVar 8)
theorem nt_head (n : Nt) : ∃ t r, n.d = .tup (.str t :: r) := by cases n <;> exact ⟨_, _, rfl⟩
theorem marks_eq {s : Option Slot} {w : Int} {ns : List Nt} {k way : D} (hn : ns.length ≤ 4) : marksC [s, some (.v (.int w)), some (.v (nsD ns)), some (.v k), some (.v way), none, none, none, none, none, none, none] = .ok (((enumL 0 (ns.map Nt.d)).filter markD).map fstD) [s, some (.v (.int w)), some (.v (nsD ns)), some (.v k), some (.v way), none, none, none, none, none, none, none] := by
  refine mComp_filter markD fstD (by simp [nsD, itemsD]) rfl (by rw [enum_len, List.length_map]; omega) rfl rfl fun d hd => ?_
  obtain ⟨i, x, rfl, hx⟩ := enum_in hd
  obtain ⟨n, hn, rfl⟩ := List.mem_map.mp hx
  obtain ⟨t, r, e⟩ := nt_head n
  exact ⟨_, rfl, by simp [e, markD], fun _ => by simp [fstD], rfl⟩
end DL
end

section
set_option Elab.async false
set_option linter.all false
set_option maxRecDepth 100000
/-! R10: a drawn rule is a rule. -/
namespace DL
open PySem PySem.Spec PyProof.Rows L2
theorem marks_f (w : Int) (ns : List Nt) (d : D) (h : d ∈ ((enumL 0 (ns.map Nt.d)).filter markD).map fstD) : ∃ i : Int, d = .int i ∧ mineB ns (.int i) = true := by
  obtain ⟨e, he, rfl⟩ := List.mem_map.mp h
  obtain ⟨he1, he2⟩ := List.mem_filter.mp he
  obtain ⟨i, hi⟩ := List.mem_iff_getElem?.mp he1
  obtain ⟨x, hx, rfl⟩ := enumL_get _ _ _ _ hi
  rw [List.getElem?_map] at hx
  cases hn : ns[i]? with
  | none => rw [hn] at hx; cases hx
  | some n =>
    rw [hn] at hx
    cases hx
    obtain ⟨hi2, hi3⟩ := List.getElem?_eq_some_iff.mp hn
    refine ⟨((0 + i : Nat) : Int), rfl, ?_⟩
    have ea : atN ns ((0 + i : Nat) : Int) = n := by
      simp only [atN]
      rw [show (((0 + i : Nat) : Int)).toNat = i by omega]
      rw [List.getD_eq_getElem?_getD, hn]; rfl
    simp only [mineB, ea, Bool.and_eq_true, decide_eq_true_eq]
    refine ⟨by omega, by omega, ?_⟩
    cases n <;> first | rfl | (simp [markD, Nt.d] at he2)
theorem neqL {xs : List D} (h : depL xs + 1 ≤ 60) : neS (.lst xs) (.lst []) = some (.bl (!xs.isEmpty)) := by
  show neD _ _ = _
  unfold neD
  rw [if_pos ⟨by simpa using h, by simp⟩]
  cases xs <;> rfl
theorem neqT {xs : List D} (h : depL xs + 1 ≤ 60) : neS (.tup xs) (.tup []) = some (.bl (!xs.isEmpty)) := by
  show neD _ _ = _
  unfold neD
  rw [if_pos ⟨by simpa using h, by simp⟩]
  cases xs <;> rfl
def cR (k : Nat) : Nat := 10 * 3 ^ k
theorem lens_ints : ∀ is : List Int, lensL 8 (is.map D.int) = true
  | [] => rfl
  | i :: is => by
    show (lens 8 (.int i) && lensL 8 (is.map D.int)) = true
    rw [lens_ints is]; rfl
def RuleP (w : Int) (ns : List Nt) (k : Nat) (d : D) : Prop := ruleB w ns k d = true ∧ tame (k + 1) d
def ruleS2 : Env → RS := (sAsg (dM (mComp [8, 10] (iEnum1 (dVar 2)) (gtSeq 2 (gtCons (gtN 8) (gtCons (gtN 10) gtNil))) (dTest (dBin yesD (dBin ixD (dVar 10) (dC (.int 0))) (dTup (dCons (dC (.str "last")) (dCons (dC (.str "first")) dNil))))) (dVar 8))) (gtN 5))
def ruleS3 : Env → RS := (sIf (bAnd (dTest (dBin gtD (dVar 4) (dC (.int 9)))) (dTest (dBin neS (dVar 5) (dM (mLst dNil))))) (sRet (dTup (dCons (dC (.str "mine")) (dCons (dBin ixD (dVar 5) (dCall F__law_take [some 0, none] (dMk 0 (dCons (dCal (on1 lenD) (dCons (dVar 5) dNil)) dNil)))) dNil)))) sNx)
def ruleS4 : Env → RS := (sIf (bAnd (dTest (dBin ltD (dVar 4) (dC (.int 8)))) (dTest (dBin neS (dVar 2) (dTup dNil)))) (sSeq (sAsg (dCall F__law_take [some 0, none] (dMk 0 (dCons (dCal (on1 lenD) (dCons (dVar 2) dNil)) dNil))) (gtN 8)) (sSeq (sAsg (dCall F__law_take [some 0, none] (dMk 0 (dCons (dBin addD (dCall F__law_most [none, none] (dCons (dVar 1) (dCons (dBin ixD (dVar 2) (dVar 8)) dNil))) (dC (.int 1))) dNil))) (gtN 9)) (sRet (dTup (dCons (dC (.str "note")) (dCons (dVar 8) (dCons (dVar 9) (dCons (dBin addD (dVar 9) (dCall F__law_take [some 0, none] (dMk 0 (dCons (dBin subD (dBin addD (dCall F__law_most [none, none] (dCons (dVar 1) (dCons (dBin ixD (dVar 2) (dVar 8)) dNil))) (dC (.int 1))) (dVar 9)) dNil)))) dNil)))))))) sNx)
def ruleS5 : Env → RS := (sAsg (dCal (on1 tupD) (dCons (dM (mComp [11] (iRange1 (dVar 1)) (gtN 11) (dTest (dBin eqS (dCall F__law_take [some 0, none] (dMk 0 (dCons (dC (.int 2)) dNil))) (dC (.int 0)))) (dVar 11))) dNil)) (gtN 6))
def ruleS6 : Env → RS := (sRet (dIf (bOr (dTest (dBin eqS (dVar 6) (dTup dNil))) (dTest (dBin gtD (dVar 4) (dC (.int 9))))) (dTup (dCons (dC (.str "free")) dNil)) (dTup (dCons (dC (.str "who")) (dCons (dVar 6) dNil)))))
abbrev E12 (s : List D) (w : Int) (ns : List Nt) (k way : Int) (o5 o6 o7 o8 o9 : Option Slot) : Env := [some (.m s), some (.v (.int w)), some (.v (nsD ns)), some (.v (.int k)), some (.v (.int way)), o5, o6, o7, o8, o9, none, none]
theorem rule_form (R : List Slot → RF) : f__law_rule R = sSeq (sAsg (dCall F__law_take [some 0, none] (dMk 0 (dCons (dC (.int 12)) dNil))) (gtN 4)) (sSeq (sIf (bAnd (dTest (dBin gtD (dVar 3) (dC (.int 1)))) (dTest (dBin ltD (dVar 4) (dC (.int 3))))) (sSeq (sAsg (dCall R [some 0, none, none, none] (dMk 0 (dCons (dVar 1) (dCons (dVar 2) (dCons (dBin subD (dVar 3) (dC (.int 1))) dNil))))) (gtN 7)) (sSeq (sIf (dTest (dBin eqS (dVar 4) (dC (.int 0)))) (sRet (dTup (dCons (dC (.str "not")) (dCons (dVar 7) dNil)))) sNx) (sRet (dTup (dCons (dBin ixD (dM (mLst (dCons (dC (.str "both")) (dCons (dC (.str "either")) dNil)))) (dBin subD (dVar 4) (dC (.int 1)))) (dCons (dVar 7) (dCons (dCall R [some 0, none, none, none] (dMk 0 (dCons (dVar 1) (dCons (dVar 2) (dCons (dBin subD (dVar 3) (dC (.int 1))) dNil))))) dNil))))))) sNx) (sSeq ruleS2 (sSeq ruleS3 (sSeq ruleS4 (sSeq ruleS5 ruleS6))))) := rfl
section
variable {w : Int} (w1 : 1 ≤ w) (w3 : w ≤ 3) {ns : List Nt} (hns : nsOk w ns) {K : Nat} {s : List D} (hs : potOk K s) (hK : K ≤ 998000) {k : Nat} {kk way : Int} {o5 o6 o7 o8 o9 : Option Slot} {P : Po}
include hs hK
theorem ruS3 {M : List D} (ml : M.length ≤ 4) (mf : ∀ d ∈ M, ∃ i : Int, d = .int i ∧ mineB ns (.int i) = true) (rt : ∀ d s' , RuleP w ns (k + 1) d → potOk (K + 1) s' → P.rt (.v d) (E12 s' w ns kk way (some (.v (.lst M))) o6 o7 o8 o9)) (nx : P.nx (E12 s w ns kk way (some (.v (.lst M))) o6 o7 o8 o9)) : wS (ruleS3 (E12 s w ns kk way (some (.v (.lst M))) o6 o7 o8 o9)) P := by
  have md : depL M ≤ 0 := depL_leA fun d hd => by
    obtain ⟨i, rfl, _⟩ := mf d hd
    simp
  have ne1 := neqL (xs := M) (by omega)
  have hlm : lenD (.lst M) = some (.int (M.length : Int)) := by simp [lenD]
  unfold ruleS3
  by_cases c1 : 9 < way
  · cases M with
    | nil => simp [c1, ne1]; exact nx
    | cons a r =>
      have hr : r.length ≤ 3 := by simpa using ml
      simp [c1, ne1, hlm]
      refine wR_take hs (by omega) (by omega) (by omega) fun i s' h0 h1 p => ?_
      simp
      refine wR_at h0 (by simpa using h1) fun d hd => ?_
      simp
      obtain ⟨j, rfl, hj⟩ := mf d hd
      exact rt _ _ ⟨by simp [ruleB, oneP, hj], by simp, by simp [lens, lensL]⟩ p
  · simp [c1]; exact nx
include w1 w3 hns
theorem ruS4 (rt : ∀ d s' o8 o9, RuleP w ns (k + 1) d → potOk (K + 3) s' → P.rt (.v d) (E12 s' w ns kk way o5 o6 o7 o8 o9)) (nx : P.nx (E12 s w ns kk way o5 o6 o7 o8 o9)) : wS (ruleS4 (E12 s w ns kk way o5 o6 o7 o8 o9)) P := by
  obtain ⟨f1, f2, f3⟩ := ns_facts w1 w3 hns
  have ne2 : neS (nsD ns) (.tup []) = some (.bl (!ns.isEmpty)) := by
    have := neqT (xs := ns.map Nt.d) (by simp only [nsD, dep_t] at f2; omega)
    simpa [nsD] using this
  have hlen : lenD (nsD ns) = some (.int (ns.length : Int)) := by simp [nsD, lenD]
  have lenN := hns.1
  unfold ruleS4
  by_cases c1 : way < 8
  · cases hn : ns with
    | nil => subst hn; simp [c1, ne2]; exact nx
    | cons a r =>
      have hpos : 0 < ns.length := by rw [hn]; simp
      have hie : ns.isEmpty = false := by rw [hn]; rfl
      rw [← hn]
      simp [c1, ne2, hie, hlen]
      refine wR_take hs (by omega) (by omega) (by omega) fun i s' h0 h1 p => ?_
      have hx := ix_notes (ns := ns) (i := i) h0 h1
      have hm := law_most_eq w (atN ns i)
      have hin : atN ns i ∈ ns := by
        unfold atN
        have : i.toNat < ns.length := by omega
        rw [List.getD_eq_getElem?_getD, List.getElem?_eq_getElem this]
        exact List.getElem_mem this
      obtain ⟨m1, m4⟩ := most_bd w1 w3 (hns.2 _ hin)
      simp [hx, hm]
      refine wR_take p (by omega) (by omega) (by omega) fun lo s2 l0 l1 p2 => ?_
      simp [hx, hm]
      refine wR_take p2 (by omega) (by omega) (by omega) fun hi s3 g0 g1 p3 => ?_
      simp
      refine rt _ _ _ _ ⟨?_, by simp, by simp [lens, lensL]⟩ p3
      have z1 : i ≤ (ns.length : Int) - 1 := by omega
      have z2 : lo ≤ (atN ns i).most w := by omega
      have z3 : lo ≤ lo + hi := by omega
      have z4 : lo + hi ≤ (atN ns i).most w := by omega
      simp [ruleB, threeP, spanB, betw, h0, z1, l0, z2, z3, z4]
  · simp [c1]; exact nx
theorem ruS56 (rt : ∀ d s' o6, RuleP w ns (k + 1) d → potOk (K + 5) s' → P.rt (.v d) (E12 s' w ns kk way o5 o6 o7 o8 o9)) : wS ((sSeq ruleS5 ruleS6) (E12 s w ns kk way o5 o6 o7 o8 o9)) P := by
  have hww : wide62 w = true := wide_i (by omega) (by omega)
  unfold ruleS5 ruleS6
  simp [hww]
  have hw0 : (rangeL 0 w.toNat).length = w.toNat := rangeL_length ..
  refine comp_go (I := fun (i : Nat) (acc : List D) (e : Env) => ∃ s' : List D, (∃ is : List Int, acc = is.map D.int ∧ is.Pairwise (· < ·) ∧ is.length ≤ i ∧ ∀ x ∈ is, 0 ≤ x ∧ x < (i : Int)) ∧ e = E12 s' w ns kk way o5 o6 o7 o8 o9 ∧ potOk (K + i) s') rfl (by omega) ⟨s, ⟨[], rfl, List.Pairwise.nil, Nat.zero_le _, fun x hx => by cases hx⟩, rfl, hs⟩ ?_ ?_
  · intro i d acc e hd hI
    obtain ⟨s', ⟨is, rfl, hp, hln, hb⟩, rfl, hq⟩ := hI
    obtain ⟨hi, rfl⟩ := rangeL_get hd
    have hi3 : i < 3 := by omega
    refine ⟨_, rfl, ?_⟩
    simp
    refine wR_take hq (by omega) (by omega) (by omega) fun j s2 j0 j1 p2 => ?_
    by_cases c : j = 0
    · simp [c]
      refine ⟨⟨is ++ [(i : Int)], by simp, ?_, by simp; omega, ?_⟩, s2, rfl, p2⟩
      · rw [List.pairwise_append]
        refine ⟨hp, by simp, fun a ha b hb2 => ?_⟩
        rw [List.mem_singleton] at hb2
        rw [hb2]; exact (hb a ha).2
      · intro x hx
        rcases List.mem_append.mp hx with q | q
        · have := hb x q; omega
        · rw [List.mem_singleton] at q; omega
    · simp [c]
      exact ⟨⟨is, rfl, hp, by omega, fun x hx => by have := hb x hx; omega⟩, s2, rfl, p2⟩
  · intro r e hI
    obtain ⟨s', ⟨is, rfl, hp, hln, hb⟩, rfl, hq⟩ := hI
    rw [hw0] at hb hq hln
    have hl : is.length ≤ 3 := by omega
    have he := isE_eqS (xs := is.map D.int) (by rw [depL_int]; omega)
    have wt : is ≠ [] → wkB w (.tup (is.map D.int)) = true := fun hne => by
      have z := (zip_lt is).mpr hp
      have hb2 : ((is.map D.int).all fun d => betw d 0 (w - 1)) = true := by
        rw [List.all_eq_true]
        intro d hd
        obtain ⟨x, hx, rfl⟩ := List.mem_map.mp hd
        have := hb x hx
        simp only [betw, Bool.and_eq_true, decide_eq_true_eq]
        omega
      have h3 : (is.map D.int).isEmpty = false := by cases is with
        | nil => exact absurd rfl hne
        | cons a r => rfl
      simp only [wkB, z, hb2, h3]; rfl
    have hfree : RuleP w ns (k + 1) (.tup [.str "free"]) := ⟨by simp [ruleB], by simp, by simp [lens, lensL]⟩
    have hwho : is ≠ [] → RuleP w ns (k + 1) (.tup [.str "who", .tup (is.map D.int)]) := fun hne =>
      ⟨by simp [ruleB, oneP, wt hne], by simp [depL_int], by simp [lens, lensL, lens_ints]; omega⟩
    have hq5 := hq.mono (show K + w.toNat ≤ K + 5 by omega)
    cases hi : is with
    | nil =>
      subst hi
      simp [tupD, he, backE]
      exact rt _ _ _ hfree hq5
    | cons a r =>
      have hne : is ≠ [] := by rw [hi]; simp
      have hie : (is.map D.int).isEmpty = false := by rw [hi]; rfl
      rw [← hi]
      rw [hie] at he
      generalize is.map D.int = L at *
      by_cases c : 9 < way
      · simp [tupD, he, backE, c]
        exact rt _ _ _ hfree hq5
      · simp [tupD, he, backE, c]
        exact rt _ _ _ (hwho hne) hq5
end
theorem rule_sp {w : Int} (w1 : 1 ≤ w) (w3 : w ≤ 3) {ns : List Nt} (hns : nsOk w ns) : ∀ (k m K : Nat) (ds : List D), 1 ≤ k → k ≤ m → K + cR k ≤ 990000 → potOk K ds →
    wF (F__law_rule m [.m ds, .v (.int w), .v (nsD ns), .v (.int (k : Int))]) (fun s o => ∃ d ds', s = .v d ∧ o = [ds'] ∧ RuleP w ns k d ∧ potOk (K + cR k) ds') := by
  intro k
  induction k with
  | zero => intro m K ds h; omega
  | succ k ih =>
    intro m K ds _ hm hK h
    obtain ⟨m, rfl⟩ : ∃ m', m = m' + 1 := ⟨m - 1, by omega⟩
    have hc : cR (k + 1) = 3 * cR k := by unfold cR; rw [Nat.pow_succ]; omega
    have hc0 : 10 ≤ cR k := by unfold cR; have : 1 ≤ 3 ^ k := Nat.one_le_pow _ _ (by omega); omega
    have lenN := hns.1
    have hlen : lenD (nsD ns) = some (.int (ns.length : Int)) := by simp [nsD, lenD]
    obtain ⟨f1, f2, f3⟩ := ns_facts w1 w3 hns
    have ne2 : neS (nsD ns) (.tup []) = some (.bl (!ns.isEmpty)) := by
      have := neqT (xs := ns.map Nt.d) (by simp only [nsD, dep_t] at f2; omega)
      simpa [nsD] using this
    have hww : wide62 w = true := wide_i (by omega) (by omega)
    unfold F__law_rule
    rw [wF_fin, rule_form]
    rw [show ((k + 1 : Nat) : Int) = (k : Int) + 1 by omega]
    have deep : (k : Int) + 1 - 1 = (k : Int) := by omega
    simp [startE]
    refine wR_take h (by omega) (by omega) (by omega) fun i1 s1 a1 b1 p1 => ?_
    have mk := fun (sl : Option Slot) => marks_eq (s := sl) (w := w) (ns := ns) (k := .int ((k : Int) + 1)) (way := .int i1) lenN
    have mf := marks_f w ns
    have ml : (((enumL 0 (ns.map Nt.d)).filter markD).map fstD).length ≤ 4 := by
      rw [List.length_map]
      refine Nat.le_trans (List.length_filter_le ..) ?_
      rw [enum_len, List.length_map]; exact lenN
    generalize ((enumL 0 (ns.map Nt.d)).filter markD).map fstD = M at *
    have md : depL M ≤ 0 := depL_leA fun d hd => by
      obtain ⟨i, rfl, _⟩ := mf d hd
      simp
    have ne1 := neqL (xs := M) (by omega)
    have hlm : lenD (.lst M) = some (.int (M.length : Int)) := by simp [lenD]
    simp
    rcases (by omega : (1 < (k : Int) + 1 ∧ i1 < 3) ∨ ¬ (1 < (k : Int) + 1 ∧ i1 < 3)) with ⟨c1, c2⟩ | c
    · simp [c1, c2, deep]
      refine wR_call (ih m (K + 1) s1 (by omega) (by omega) (by omega) p1) fun s o ⟨d, ds', e1, e2, ⟨hr, t1, t2⟩, p2⟩ => ?_
      subst e1 e2
      simp
      by_cases c3 : i1 = 0
      · simp [c3]
        refine ⟨⟨by simp [ruleB, oneP, hr], by simp; omega, by simp [lens, lensL, t2]⟩, p2.mono (by omega)⟩
      · simp [c3]
        have hw : ∃ t : Str, (t = "both" ∨ t = "either") ∧ ixD (.lst [.str "both", .str "either"]) (.int (i1 - 1)) = some (.str t) := by
          rcases (by omega : i1 = 1 ∨ i1 = 2) with rfl | rfl
          · exact ⟨"both", .inl rfl, rfl⟩
          · exact ⟨"either", .inr rfl, rfl⟩
        obtain ⟨t, ht, hx⟩ := hw
        simp [hx]
        refine wR_call (ih m (K + 1 + cR k) ds' (by omega) (by omega) (by omega) p2) fun s o ⟨d2, ds2, e1, e2, ⟨hr2, u1, u2⟩, p3⟩ => ?_
        subst e1 e2
        simp
        refine ⟨⟨?_, by rcases ht with rfl | rfl <;> simp <;> omega, by simp [lens, lensL, t2, u2]⟩, p3.mono (by omega)⟩
        rcases ht with rfl | rfl <;> simp [ruleB, twoP, hr, hr2]
    · have rest : ∀ P : Po, (∀ d s' o5 o6 o7 o8 o9, RuleP w ns (k + 1) d → potOk (K + 1 + 5) s' → P.rt (.v d) (E12 s' w ns ((k : Int) + 1) i1 o5 o6 o7 o8 o9)) → wS ((sSeq ruleS2 (sSeq ruleS3 (sSeq ruleS4 (sSeq ruleS5 ruleS6)))) (E12 s1 w ns ((k : Int) + 1) i1 none none none none none)) P := fun P rt => by
        rw [sSeq_ap, wS_sq]
        have e2 : ruleS2 (E12 s1 w ns ((k : Int) + 1) i1 none none none none none) = .nx (E12 s1 w ns ((k : Int) + 1) i1 (some (.v (.lst M))) none none none none) := by
          have mk1 := mk (some (.m s1))
          rw [show ruleS2 = sAsg (dM marksC) (gtN 5) from rfl]
          generalize marksC = C at mk1 ⊢
          simp [mk1]
        rw [e2, wS_nx, kSq_nx, kNx_ap, sSeq_ap, wS_sq]
        refine ruS3 (k := k) p1 (by omega) ml mf (fun d s' hr hp => ?_) ?_
        · exact rt _ _ _ _ _ _ _ hr (hp.mono (by omega))
        rw [kSq_nx, kNx_ap, sSeq_ap, wS_sq]
        refine ruS4 (k := k) w1 w3 hns p1 (by omega) (fun d s' o8 o9 hr hp => ?_) ?_
        · exact rt _ _ _ _ _ _ _ hr (hp.mono (by omega))
        rw [kSq_nx, kNx_ap]
        refine ruS56 (k := k) w1 w3 hns p1 (by omega) (fun d s' o6 hr hp => ?_)
        exact rt _ _ _ _ _ _ _ hr hp
      have fin1 := rest (kFin [0] fun s o => ∃ d, s = Slot.v d ∧ ∃ x, o = [x] ∧ RuleP w ns (k + 1) d ∧ potOk (K + cR (k + 1)) x) fun d s' o5 o6 o7 o8 o9 hr hp => ⟨d, rfl, s', rfl, hr, hp.mono (by omega)⟩
      rw [sSeq_ap, wS_sq] at fin1
      rcases (by omega : ¬ (1 < (k : Int) + 1) ∨ (1 < (k : Int) + 1 ∧ ¬ i1 < 3)) with c1 | ⟨c1, c2⟩
      · simp only [c1, if_false]
        exact fin1
      · simp only [c1, c2, if_true, if_false]
        exact fin1
end DL
end

section
set_option Elab.async false
set_option linter.all false
set_option maxRecDepth 100000
/-! R11a: tame things. -/
namespace DL
open PySem PySem.Spec PyProof.Rows L2
theorem appDep : ∀ (a b : List D), depL (a ++ b) = max (depL a) (depL b) := fun a b => by
  induction a with
  | nil => simp
  | cons c a ih => simp [ih] <;> omega
theorem lensL_in {n : Nat} {xs : List D} : lensL n xs = true ↔ ∀ x ∈ xs, lens n x = true := ⟨fun h x hx => lens_in h hx, lensL_all⟩
def tameN (n k : Nat) (d : D) : Prop := dep d ≤ n ∧ lens k d = true
theorem tameN_in {n k : Nat} {xs : List D} {x : D} (h : tameN n k (.tup xs)) (hx : x ∈ xs) : 1 ≤ n ∧ tameN (n - 1) k x := by
  obtain ⟨h1, h2⟩ := h
  have := dep_mem hx
  simp only [dep_t] at h1
  exact ⟨by omega, by omega, (lens_tup h2).2 x hx⟩
theorem tameN_tup {n k : Nat} {xs : List D} (hl : xs.length ≤ k) (h : ∀ x ∈ xs, tameN n k x) : tameN (n + 1) k (.tup xs) := by
  have := depL_leA fun x hx => (h x hx).1
  refine ⟨by simp only [dep_t]; omega, ?_⟩
  simp only [lens, Bool.and_eq_true, decide_eq_true_eq]
  exact ⟨hl, lensL_all fun x hx => (h x hx).2⟩
theorem tameN_lst {n k : Nat} {xs : List D} (hl : xs.length ≤ k) (h : ∀ x ∈ xs, tameN n k x) : tameN (n + 1) k (.lst xs) := by
  have := depL_leA fun x hx => (h x hx).1
  refine ⟨by simp only [dep_l]; omega, ?_⟩
  simp only [lens, Bool.and_eq_true, decide_eq_true_eq]
  exact ⟨hl, lensL_all fun x hx => (h x hx).2⟩
theorem tameN.mono {n m k l : Nat} {d : D} (h : tameN n k d) (a : n ≤ m) (b : k ≤ l) : tameN m l d := ⟨by have := h.1; omega, lens_mono b _ h.2⟩
theorem lam3 {F : List Slot → RF} {i j k : Nat} {E : Env} {a b c : D} (h1 : E[i]? = some (some (.v a))) (h2 : E[j]? = some (some (.v b))) (h3 : E[k]? = some (some (.v c))) : dCall F [none, none, none] (dCons (dVar i) (dCons (dVar j) (dCons (dVar k) dNil))) E = kF [none, none, none] kD E (F [.v a, .v b, .v c]) := by
  simp [h1, h2, h3]
theorem note_t {K : Nat} (hK : K ≤ 999000) {ds : List D} (h : potOk K ds) (w : Int) (w1 : 1 ≤ w) (w3 : w ≤ 3) : wF (F__law_note [.m ds, .v (.int w)]) (fun s o => ∃ n : Nt, ∃ ds', s = .v n.d ∧ o = [ds'] ∧ n.ok w ∧ potOk (K + 6) ds') :=
  wF_mono (note_sp hK h w w1 w3) fun s o ⟨d, ds', e1, e2, n, p⟩ => by
    obtain ⟨t, rfl, ht⟩ := noteD_t n
    exact ⟨t, ds', e1, e2, ht, p⟩
theorem ask_bd {w : Int} {ns : List Nt} : ∀ {k : Nat} {d : D}, ruleB w ns k d = true → ∀ x ∈ askI k d, 0 ≤ x ∧ x < (ns.length : Int) := by
  intro k
  induction k with
  | zero => intro d h; obtain ⟨k', e, _⟩ := rule_shape h; cases e
  | succ k ih =>
    intro d h x hx
    obtain ⟨k', e, t, ps, rfl, hs⟩ := rule_shape h
    cases e
    rcases hs with ⟨rfl, rfl⟩ | ⟨rfl, a, rfl⟩ | ⟨rfl, i, b, c, rfl⟩ | ⟨rfl, i, rfl⟩ | ⟨rfl, a, rfl, ha⟩ | ⟨rfl | rfl, a, b, rfl, ha, hb⟩
    · simp [askI] at hx
    · simp [askI] at hx
    · simp [askI] at hx
      subst hx
      have h2 : spanB w ns (.int x) b c = true := by simpa [ruleB, threeP] using h
      cases b <;> first | (cases h2; done) | skip
      simp only [spanB, Bool.and_eq_true, decide_eq_true_eq] at h2
      omega
    · simp [askI] at hx
      subst hx
      have h2 : mineB ns (.int x) = true := by simpa [ruleB, oneP] using h
      simp only [mineB, Bool.and_eq_true, decide_eq_true_eq] at h2
      omega
    · simp [askI] at hx
      exact ih ha x hx
    · simp [askI] at hx
      rcases hx with q | q
      · exact ih ha x q
      · exact ih hb x q
    · simp [askI] at hx
      rcases hx with q | q
      · exact ih ha x q
      · exact ih hb x q
theorem ints_small {l : List Int} (h : ∀ x ∈ l, 0 ≤ x ∧ x < 1000) : shortL (l.map D.int) = true ∧ wgtL (l.map D.int) = 135 * l.length ∧ plainL (l.map D.int) = true := by
  induction l with
  | nil => exact ⟨rfl, rfl, rfl⟩
  | cons a r ih =>
    obtain ⟨i1, i2, i3⟩ := ih fun x hx => h x (List.mem_cons_of_mem _ hx)
    have ha := h a (List.mem_cons_self ..)
    have sa := short_i (i := a) (by omega) (by omega)
    refine ⟨?_, ?_, ?_⟩
    · simp only [List.map_cons, shortL_c, sa, i1, Bool.and_self]
    · simp only [List.map_cons, wgtL_c, i2, wgt_i, List.length_cons]; omega
    · simp only [List.map_cons, plainL_c, i3, plain_i, Bool.and_self]
theorem once_len (l : List Int) : (onceI l).length ≤ l.length := by
  induction l with
  | nil => exact Nat.le_refl _
  | cons a r ih =>
    unfold onceI
    split
    · simp only [List.length_cons]; omega
    · simp only [List.length_cons]; omega
end DL
end

section
set_option Elab.async false
set_option linter.all false
set_option maxRecDepth 100000
/-! L1: whom a rule lets by. -/
namespace DL
open PySem PySem.Spec PyProof.Rows L2
theorem rule_shape2 {w : Int} {ns : List Nt} {k : Nat} {d : D} (h : ruleB w ns k d = true) : ∃ k', k = k' + 1 ∧ ∃ t ps, d = .tup (.str t :: ps) ∧ ((t = "free" ∧ ps = []) ∨ (t = "who" ∧ ∃ is : List Int, ps = [.tup (is.map D.int)]) ∨ (t = "note" ∧ ∃ i b c : Int, ps = [.int i, .int b, .int c] ∧ 0 ≤ i ∧ i < (ns.length : Int)) ∨ (t = "mine" ∧ ∃ i : Int, ps = [.int i] ∧ 0 ≤ i ∧ i < (ns.length : Int)) ∨ (t = "not" ∧ ∃ a, ps = [a] ∧ ruleB w ns k' a = true) ∨ ((t = "both" ∨ t = "either") ∧ ∃ a b, ps = [a, b] ∧ ruleB w ns k' a = true ∧ ruleB w ns k' b = true)) := by
  obtain ⟨k', e, t, ps, rfl, hs⟩ := rule_shape h
  subst e
  refine ⟨k', rfl, t, ps, rfl, ?_⟩
  rcases hs with hs | ⟨rfl, a, rfl⟩ | ⟨rfl, i, b, c, rfl⟩ | ⟨rfl, i, rfl⟩ | hs | hs
  · exact .inl hs
  · have h2 : wkB w a = true := by simpa [ruleB, oneP] using h
    cases a <;> first | (cases h2; done) | skip
    rename_i xs
    simp only [wkB, Bool.and_eq_true] at h2
    obtain ⟨is, rfl⟩ := ints_all h2.2.1
    exact .inr (.inl ⟨rfl, is, rfl⟩)
  · have h2 : spanB w ns (.int i) b c = true := by simpa [ruleB, threeP] using h
    cases b <;> first | (cases h2; done) | skip
    simp only [spanB, Bool.and_eq_true, decide_eq_true_eq] at h2
    obtain ⟨q1, q2, q3, q4⟩ := h2
    obtain ⟨y, rfl⟩ := betw_int q4
    exact .inr (.inr (.inl ⟨rfl, i, _, y, rfl, q1, by omega⟩))
  · have h2 : mineB ns (.int i) = true := by simpa [ruleB, oneP] using h
    simp only [mineB, Bool.and_eq_true, decide_eq_true_eq] at h2
    exact .inr (.inr (.inr (.inl ⟨rfl, i, rfl, h2.1, by omega⟩)))
  · exact .inr (.inr (.inr (.inr (.inl hs))))
  · exact .inr (.inr (.inr (.inr (.inr hs))))
/-- the words of who is let by -/
def letB : Nat → D → List Int → Int → Bool
  | k + 1, .tup (.str t :: ps), vs, x =>
    if t = "free" then true
    else if t = "who" then (match ps with
      | [.tup xs] => (match intsOf xs with | some is => decide (x ∈ is) | none => false)
      | _ => false)
    else if t = "note" then (match ps with
      | [.int i, .int a, .int b] => decide (a ≤ vs.getD i.toNat 0) && decide (vs.getD i.toNat 0 ≤ b)
      | _ => false)
    else if t = "mine" then (match ps with
      | [.int i] => vs.getD i.toNat 0 == 1 + x
      | _ => false)
    else if t = "not" then (match ps with
      | [a] => !letB k a vs x
      | _ => false)
    else if t = "both" then (match ps with
      | [a, b] => letB k a vs x && letB k b vs x
      | _ => false)
    else (match ps with
      | [a, b] => letB k a vs x || letB k b vs x
      | _ => false)
  | _, _, _, _ => false
theorem ix_mem {vs : List Int} {i : Int} (h0 : 0 ≤ i) (h1 : i < (vs.length : Int)) : ixD (.tup (intL vs)) (.int i) = some (.int (vs.getD i.toNat 0)) := by
  have h2 : i.toNat < vs.length := by omega
  have h3 : ixN (intL vs).length i = some i.toNat := by
    unfold ixN; rw [intL_len, if_pos h0, if_pos h1]
  simp only [ixD, atI, h3, Option.bind_some]
  simp [intL, List.getElem?_eq_getElem h2]
@[simp] theorem gtSeq_l3 (t : List D → Env → Option Env) (a b c : D) (e : Env) : gtSeq 3 t (.lst [a, b, c]) e = t [a, b, c] e := rfl
theorem lets_eq {w : Int} {ns : List Nt} : ∀ (k m : Nat) (d : D) (vs : List Int) (x : Int), k ≤ m → ruleB w ns k d = true → vs.length = ns.length → F_lets m [.v d, .v (.tup (intL vs)), .v (.int x)] = .ok (.v (.bl (letB k d vs x))) [] := by
  intro k
  induction k with
  | zero => intro m d vs x _ h; obtain ⟨k', e, _⟩ := rule_shape h; cases e
  | succ k ih =>
    intro m d vs x hm h hv
    obtain ⟨k', e, t, ps, rfl, hs⟩ := rule_shape2 h
    cases e
    obtain ⟨m, rfl⟩ : ∃ m', m = m' + 1 := ⟨m - 1, by omega⟩
    unfold F_lets
    rcases hs with ⟨rfl, rfl⟩ | ⟨rfl, is, rfl⟩ | ⟨rfl, i, b, c, rfl, i0, i1⟩ | ⟨rfl, i, rfl, i0, i1⟩ | ⟨rfl, a, rfl, ha⟩ | ⟨ht, a, b, rfl, ha, hb⟩
    · simp [startE, f_lets, gtStar, gtCons, gtNil, letB]
    · have y := yes_ii x is
      have z := intsOf_map is
      generalize is.map D.int = L at *
      simp [startE, f_lets, gtStar, gtCons, gtNil, letB, y, z]
    · have hx := ix_mem (vs := vs) i0 (by omega)
      by_cases q : b ≤ vs[i.toNat]?.getD 0
      · simp [startE, f_lets, gtStar, gtCons, gtNil, letB, hx, q]
      · simp [startE, f_lets, gtStar, gtCons, gtNil, letB, hx, q]
    · have hx := ix_mem (vs := vs) i0 (by omega)
      simp [startE, f_lets, gtStar, gtCons, gtNil, letB, hx]
    · have i1 := ih m a vs x (by omega) ha hv
      generalize F_lets m = R at *
      simp [startE, f_lets, gtStar, gtCons, gtNil, letB, i1]
    · have i1 := ih m a vs x (by omega) ha hv
      have i2 := ih m b vs x (by omega) hb hv
      have c1 : mComp [9] (iItems1 (dVar 5)) (gtN 9) bTrue (dCall (F_lets m) [none, none, none] (dCons (dVar 9) (dCons (dVar 1) (dCons (dVar 2) dNil)))) [some (.v (.tup [.str t, a, b])), some (.v (.tup (intL vs))), some (.v (.int x)), none, some (.v (.str t)), some (.v (.lst [a, b])), none, none, none, none] = .ok ([a, b].map fun d => .bl (letB k d vs x)) [some (.v (.tup [.str t, a, b])), some (.v (.tup (intL vs))), some (.v (.int x)), none, some (.v (.str t)), some (.v (.lst [a, b])), none, none, none, none] := by
        refine mComp_map _ rfl rfl (by simp) rfl rfl fun d hd => ⟨_, rfl, ?_, rfl⟩
        have i3 := ih m d vs x (by omega) (by simp at hd; rcases hd with rfl | rfl <;> assumption) hv
        simp [i3]
      have al : allD (.lst [.bl (letB k a vs x), .bl (letB k b vs x)]) = some (.bl (letB k a vs x && letB k b vs x)) := by
        have := all_map (fun d => letB k d vs x) [a, b]
        simpa using this
      have an : anyD (.lst [.bl (letB k a vs x), .bl (letB k b vs x)]) = some (.bl (letB k a vs x || letB k b vs x)) := by
        have := any_map (fun d => letB k d vs x) [a, b]
        simpa using this
      rcases ht with rfl | rfl
      · simp [startE, f_lets, gtStar, gtCons, gtNil, letB, c1, al]
      · simp [startE, f_lets, gtStar, gtCons, gtNil, letB, c1, an]
theorem law_lets_eq {w : Int} {ns : List Nt} : ∀ (k m : Nat) (d : D) (vs : List Int) (x : Int), k ≤ m → ruleB w ns k d = true → vs.length = ns.length → F__law_lets m [.v d, .v (.tup (intL vs)), .v (.int x)] = .ok (.v (.bl (letB k d vs x))) [] := by
  intro k
  induction k with
  | zero => intro m d vs x _ h; obtain ⟨k', e, _⟩ := rule_shape h; cases e
  | succ k ih =>
    intro m d vs x hm h hv
    obtain ⟨k', e, t, ps, rfl, hs⟩ := rule_shape2 h
    cases e
    obtain ⟨m, rfl⟩ : ∃ m', m = m' + 1 := ⟨m - 1, by omega⟩
    unfold F__law_lets
    rcases hs with ⟨rfl, rfl⟩ | ⟨rfl, is, rfl⟩ | ⟨rfl, i, b, c, rfl, i0, i1⟩ | ⟨rfl, i, rfl, i0, i1⟩ | ⟨rfl, a, rfl, ha⟩ | ⟨ht, a, b, rfl, ha, hb⟩
    · simp [startE, f__law_lets, letB]
    · have y := yes_ii x is
      have z := intsOf_map is
      generalize is.map D.int = L at *
      simp [startE, f__law_lets, letB, y, z]
    · have hx := ix_mem (vs := vs) i0 (by omega)
      by_cases q : b ≤ vs[i.toNat]?.getD 0
      · simp [startE, f__law_lets, letB, hx, q]
      · simp [startE, f__law_lets, letB, hx, q]
    · have hx := ix_mem (vs := vs) i0 (by omega)
      simp [startE, f__law_lets, letB, hx]
    · have i1 := ih m a vs x (by omega) ha hv
      generalize F__law_lets m = R at *
      simp [startE, f__law_lets, letB, i1]
    · have i1 := ih m a vs x (by omega) ha hv
      have i2 := ih m b vs x (by omega) hb hv
      generalize F__law_lets m = R at *
      rcases ht with rfl | rfl
      · cases q : letB k a vs x <;> simp [startE, f__law_lets, letB, i1, i2, q]
      · cases q : letB k a vs x <;> simp [startE, f__law_lets, letB, i1, i2, q]
theorem ruleB_mono {w : Int} {ns : List Nt} : ∀ {k : Nat} {d : D}, ruleB w ns k d = true → ruleB w ns (k + 1) d = true := by
  intro k
  induction k with
  | zero => intro d h; obtain ⟨k', e, _⟩ := rule_shape h; cases e
  | succ k ih =>
    intro d h
    obtain ⟨k', e, t, ps, rfl, hs⟩ := rule_shape h
    cases e
    rcases hs with ⟨rfl, rfl⟩ | ⟨rfl, a, rfl⟩ | ⟨rfl, i, b, c, rfl⟩ | ⟨rfl, i, rfl⟩ | ⟨rfl, a, rfl, ha⟩ | ⟨rfl | rfl, a, b, rfl, ha, hb⟩
    · simp [ruleB]
    · simpa [ruleB] using h
    · simpa [ruleB] using h
    · simpa [ruleB] using h
    · have := ih ha; simp [ruleB, oneP, this]
    · have := ih ha; have := ih hb; simp [ruleB, twoP, *]
    · have := ih ha; have := ih hb; simp [ruleB, twoP, *]
theorem letB_mono {w : Int} {ns : List Nt} {vs : List Int} {x : Int} : ∀ {k : Nat} {d : D}, ruleB w ns k d = true → letB (k + 1) d vs x = letB k d vs x := by
  intro k
  induction k with
  | zero => intro d h; obtain ⟨k', e, _⟩ := rule_shape h; cases e
  | succ k ih =>
    intro d h
    obtain ⟨k', e, t, ps, rfl, hs⟩ := rule_shape h
    cases e
    rcases hs with ⟨rfl, rfl⟩ | ⟨rfl, a, rfl⟩ | ⟨rfl, i, b, c, rfl⟩ | ⟨rfl, i, rfl⟩ | ⟨rfl, a, rfl, ha⟩ | ⟨rfl | rfl, a, b, rfl, ha, hb⟩
    · simp [letB]
    · simp [letB]
    · simp [letB]
    · simp [letB]
    · have := ih ha; simp [letB, this]
    · have := ih ha; have := ih hb; simp [letB, *]
    · have := ih ha; have := ih hb; simp [letB, *]
/-- only the notes asked are looked at -/
theorem letB_same {w : Int} {ns : List Nt} {vs us : List Int} {x : Int} : ∀ {k : Nat} {d : D}, ruleB w ns k d = true → (∀ i ∈ askI k d, vs.getD i.toNat 0 = us.getD i.toNat 0) → letB k d vs x = letB k d us x := by
  intro k
  induction k with
  | zero => intro d h; obtain ⟨k', e, _⟩ := rule_shape h; cases e
  | succ k ih =>
    intro d h q
    obtain ⟨k', e, t, ps, rfl, hs⟩ := rule_shape2 h
    cases e
    rcases hs with ⟨rfl, rfl⟩ | ⟨rfl, is, rfl⟩ | ⟨rfl, i, b, c, rfl, i0, i1⟩ | ⟨rfl, i, rfl, i0, i1⟩ | ⟨rfl, a, rfl, ha⟩ | ⟨rfl | rfl, a, b, rfl, ha, hb⟩
    · simp [letB]
    · simp [letB]
    · have := q i (by simp [askI]); simp only [letB, this]
    · have := q i (by simp [askI]); simp only [letB, this]
    · have := ih ha (fun i hi => q i (by simp [askI, hi])); simp [letB, this]
    · have := ih ha (fun i hi => q i (by simp [askI, hi])); have := ih hb (fun i hi => q i (by simp [askI, hi])); simp [letB, *]
    · have := ih ha (fun i hi => q i (by simp [askI, hi])); have := ih hb (fun i hi => q i (by simp [askI, hi])); simp [letB, *]
end DL
end

section
set_option Elab.async false
set_option linter.all false
set_option maxRecDepth 100000
/-! L2: memories. -/
namespace DL
open PySem PySem.Spec PyProof.Rows L2
inductive F2 {α β : Type} (R : α → β → Prop) : List α → List β → Prop
  | nil : F2 R [] []
  | cons {a b as bs} : R a b → F2 R as bs → F2 R (a :: as) (b :: bs)
namespace F2
variable {α β : Type} {R S : α → β → Prop}
theorem length {as : List α} {bs : List β} (h : F2 R as bs) : as.length = bs.length := by
  induction h with
  | nil => rfl
  | cons _ _ ih => simp [ih]
theorem append {as as' : List α} {bs bs' : List β} (h : F2 R as bs) (h' : F2 R as' bs') : F2 R (as ++ as') (bs ++ bs') := by
  induction h with
  | nil => exact h'
  | cons q _ ih => exact .cons q ih
theorem get {as : List α} {bs : List β} (h : F2 R as bs) : ∀ {i : Nat} {a : α}, as[i]? = some a → ∃ b, bs[i]? = some b ∧ R a b := by
  induction h with
  | nil => intro i a q; cases q
  | @cons a b as bs q _ ih =>
    intro i x hx
    cases i with
    | zero => cases hx; exact ⟨b, rfl, q⟩
    | succ i => exact ih hx
theorem mono {as : List α} {bs : List β} (h : F2 R as bs) (m : ∀ a b, a ∈ as → b ∈ bs → R a b → S a b) : F2 S as bs := by
  induction h with
  | nil => exact .nil
  | cons q _ ih => exact .cons (m _ _ (List.mem_cons_self ..) (List.mem_cons_self ..) q) (ih fun a b ha hb => m a b (List.mem_cons_of_mem _ ha) (List.mem_cons_of_mem _ hb))
theorem of_map {f : α → β} : ∀ {as : List α}, (∀ a ∈ as, R a (f a)) → F2 R as (as.map f)
  | [], _ => .nil
  | a :: as, h => .cons (h a (List.mem_cons_self ..)) (of_map fun x hx => h x (List.mem_cons_of_mem _ hx))
end F2
theorem take_snoc {α : Type} {l : List α} {i : Nat} {a : α} (h : l[i]? = some a) : l.take (i + 1) = l.take i ++ [a] := by
  rw [List.take_succ, h]; rfl
theorem compL_rel {vs : List Nat} {t : D → Env → Option Env} {fe : Env → R D} {E0 : Env} : ∀ (ds rs : List D), F2 (fun d r => ∃ E1, t d E0 = some E1 ∧ fe E1 = .ok r E1 ∧ wipeE E1 vs = E0) ds rs → compL vs t bTrue fe ds E0 = .ok rs E0
  | [], _, h => by cases h; rfl
  | d :: ds, _, h => by
    cases h with
    | cons h h' =>
      obtain ⟨E1, h1, h2, h3⟩ := h
      unfold compL
      rw [h1, opt_some, bnd_ok, bTrue_ap, bnd_ok, if_pos rfl, h2, bnd_ok, h3, compL_rel ds _ h', bnd_ok]
theorem mComp_rel {vs : List Nat} {fi : Env → R (List D)} {t : D → Env → Option Env} {fe : Env → R D} {E0 : Env} {ds rs : List D} (hi : fi E0 = .ok ds E0) (hn : vs.all (noM E0) = true) (hl : ds.length < 16777216) (hw : wipeE E0 vs = E0) (hb : backE E0 E0 vs = E0)
    (h : F2 (fun d r => ∃ E1, t d E0 = some E1 ∧ fe E1 = .ok r E1 ∧ wipeE E1 vs = E0) ds rs) : mComp vs fi t bTrue fe E0 = .ok rs E0 := by
  unfold mComp
  rw [hi, bnd_ok, if_pos ⟨hn, hl⟩, hw, compL_rel ds rs h]
  show R.ok _ (backE E0 E0 vs) = _
  rw [hb]
theorem boolsOf_bl : ∀ bs : List Bool, boolsOf (bs.map D.bl) = some bs
  | [] => rfl
  | b :: bs => by
    show (boolsOf (bs.map D.bl)).map (b :: ·) = _
    rw [boolsOf_bl bs]; rfl
theorem all_bl (bs : List Bool) : allD (.lst (bs.map D.bl)) = some (.bl (bs.all id)) := by
  show (boolsOf (bs.map D.bl)).map (fun bs => D.bl (bs.all id)) = _
  rw [boolsOf_bl]; rfl
/-- what is a memory -/
def memL (w : Int) (ns : List Nt) (xs : List D) : List Bool := List.zipWith (fun n x => betw x 0 (n.most w)) ns xs
def memB (w : Int) (ns : List Nt) : D → Bool
  | .tup xs => decide (xs.length = ns.length) && (memL w ns xs).all id
  | _ => false
def memR (w : Int) (n : Nt) (v : Int) : Prop := 0 ≤ v ∧ v ≤ n.most w
abbrev memOk (w : Int) (ns : List Nt) (vs : List Int) : Prop := F2 (memR w) ns vs
theorem zip_rel {w : Int} {E : D → D → Prop} : ∀ (ns : List Nt) (xs : List D), (∀ n ∈ ns, ∀ x ∈ xs, E (.tup [n.d, x]) (.bl (betw x 0 (n.most w)))) → F2 E (zipL (ns.map Nt.d) xs) ((memL w ns xs).map D.bl)
  | [], xs, _ => by
    have : zipL (List.map Nt.d []) xs = [] := by cases xs <;> rfl
    rw [this]; exact .nil
  | n :: ns, [], _ => .nil
  | n :: ns, x :: xs, h => .cons (h n (List.mem_cons_self ..) x (List.mem_cons_self ..)) (zip_rel ns xs fun n hn x hx => h n (List.mem_cons_of_mem _ hn) x (List.mem_cons_of_mem _ hx))
theorem is_memory_eq (w : Int) (ns : List Nt) (n4 : ns.length ≤ 1000) (d : D) (o : dep d ≤ 60) : F_is_memory_of [.v (.int w), .v (nsD ns), .v d] = .ok (.v (.bl (memB w ns d))) [] := by
  have ht := isi_tup d (data60 o)
  have hlen : lenD (nsD ns) = some (.int (ns.length : Int)) := by simp [nsD, lenD]
  by_cases q : ∃ xs, d = .tup xs
  · obtain ⟨xs, rfl⟩ := q
    have ht2 : isiD1 (.tup xs) "tuple" = some (.bl true) := ht
    have hlt : lenD (.tup xs) = some (.int (xs.length : Int)) := by simp [lenD]
    by_cases c : xs.length = ns.length
    · have c1 : mComp [3, 4] (iZip2 (dVar 1) (dVar 2)) (gtSeq 2 (gtCons (gtN 3) (gtCons (gtN 4) gtNil))) bTrue (dCall F_is_between [none, none, none] (dCons (dVar 4) (dCons (dC (.int 0)) (dCons (dCall F_most_in [none, none] (dCons (dVar 0) (dCons (dVar 3) dNil))) dNil)))) [some (.v (.int w)), some (.v (nsD ns)), some (.v (.tup xs)), none, none] = .ok ((memL w ns xs).map D.bl) [some (.v (.int w)), some (.v (nsD ns)), some (.v (.tup xs)), none, none] := by
        have hz : iZip2 (dVar 1) (dVar 2) [some (.v (.int w)), some (.v (nsD ns)), some (.v (.tup xs)), none, none] = .ok (zipL (ns.map Nt.d) xs) [some (.v (.int w)), some (.v (nsD ns)), some (.v (.tup xs)), none, none] := by
          simp [nsD, itemsD]
        refine mComp_rel hz rfl (by rw [zipL_length, List.length_map]; omega) rfl rfl (zip_rel ns xs fun n hn x hx => ⟨_, rfl, ?_, rfl⟩)
        have k1 := most_in_eq w n
        have k2 := between_eq x 0 (n.most w) (data60 (by have := dep_in o hx; omega))
        simp [k1, k2]
      have ha := all_bl (memL w ns xs)
      have nb : memB w ns (.tup xs) = (memL w ns xs).all id := by simp [memB, c]
      rw [nb]
      generalize (memL w ns xs).map D.bl = L at *
      simp [F_is_memory_of, startE, f_is_memory_of, ht2, hlen, hlt, c, c1, ha]
    · have c2 : ¬ (xs.length : Int) = (ns.length : Int) := by omega
      simp [F_is_memory_of, startE, f_is_memory_of, ht2, hlen, hlt, c, c2, memB]
  · have h1 : tupB d = false := by cases d <;> first | rfl | (exact absurd ⟨_, rfl⟩ q)
    have n : memB w ns d = false := by cases d <;> first | rfl | (exact absurd ⟨_, rfl⟩ q)
    simp [F_is_memory_of, startE, f_is_memory_of, ht, h1, n]
theorem mem_bl {w : Int} {ns : List Nt} {vs : List Int} (h : memOk w ns vs) : (memL w ns (intL vs)).all id = true := by
  induction h with
  | nil => rfl
  | @cons n v ns vs q _ ih =>
    show (betw (.int v) 0 (n.most w) && (memL w ns (intL vs)).all id) = true
    rw [ih]
    simp [betw, q.1, q.2]
theorem mem_true {w : Int} {ns : List Nt} {vs : List Int} (h : memOk w ns vs) : memB w ns (.tup (intL vs)) = true := by
  have e : (intL vs).length = ns.length := by rw [intL_len]; exact h.length.symm
  simp only [memB, e, mem_bl h, decide_true, Bool.and_self]
theorem mem_dep (vs : List Int) : dep (.tup (intL vs)) ≤ 1 := by
  simp only [dep_t]
  have := depL_int vs
  unfold intL
  omega
end DL
end

section
set_option Elab.async false
set_option linter.all false
set_option maxRecDepth 100000
/-! L3: lets_by, answers and refusals. -/
namespace DL
open PySem PySem.Spec PyProof.Rows L2
section
variable {w : Int}
theorem by_num (x : D) (h : dataD x = true) (q : betw x 1 3 = false) (n r m v : D) : F_lets_by [.v x, .v n, .v r, .v m, .v v] = .exc ⟨cl_NoNumber, [("number", x)]⟩ [] := by
  have k := need_notes_num x h q n
  simp [F_lets_by, startE, f_lets_by, F_need_rule, f_need_rule, k]
variable (w1 : 1 ≤ w) (w3 : w ≤ 3)
include w1 w3
theorem by_note (n : D) (o : okD n) (hl : lens 1000 n = true) (q : areB w n = false) (r m v : D) : F_lets_by [.v (.int w), .v n, .v r, .v m, .v v] = .exc ⟨cl_NoNote, []⟩ [] := by
  have k := need_notes_no w1 w3 n o hl q
  simp [F_lets_by, startE, f_lets_by, F_need_rule, f_need_rule, k]
variable {ns : List Nt} (h : nsOk w ns) {d : D} (o : dep d ≤ 60) (hl : lens 1000 d = true)
include h o hl
theorem by_rule (q : ruleB w ns 4 d = false) (m v : D) : F_lets_by [.v (.int w), .v (nsD ns), .v d, .v m, .v v] = .exc ⟨cl_NoRule, []⟩ [] := by
  have k := need_notes_ok w1 w3 h
  have k2 := rule_eq w ns (by have := h.1; omega) 4 15 d (by omega) o hl
  have k2 : F_is_rule_of 16 [.v (.int w), .v (nsD ns), .v d, .v (.int 4)] = .ok (.v (.bl (ruleB w ns 4 d))) [] := k2
  simp [F_lets_by, startE, f_lets_by, F_need_rule, f_need_rule, k, k2, q]
variable (q : ruleB w ns 4 d = true)
include q
theorem by_mem {m : D} (om : dep m ≤ 60) (qm : memB w ns m = false) (v : D) : F_lets_by [.v (.int w), .v (nsD ns), .v d, .v m, .v v] = .exc ⟨cl_NoMemory, []⟩ [] := by
  have k := need_notes_ok w1 w3 h
  have k2 := rule_eq w ns (by have := h.1; omega) 4 15 d (by omega) o hl
  have k2 : F_is_rule_of 16 [.v (.int w), .v (nsD ns), .v d, .v (.int 4)] = .ok (.v (.bl (ruleB w ns 4 d))) [] := k2
  have k3 := is_memory_eq w ns (by have := h.1; omega) m om
  simp [F_lets_by, startE, f_lets_by, F_need_rule, f_need_rule, k, k2, q, k3, qm]
variable {vs : List Int} (hv : memOk w ns vs)
include hv
theorem by_walker {v : D} (ov : dataD v = true) (qv : betw v 0 (w - 1) = false) : F_lets_by [.v (.int w), .v (nsD ns), .v d, .v (.tup (intL vs)), .v v] = .exc ⟨cl_NoWalker, []⟩ [] := by
  have k := need_notes_ok w1 w3 h
  have k2 := rule_eq w ns (by have := h.1; omega) 4 15 d (by omega) o hl
  have k2 : F_is_rule_of 16 [.v (.int w), .v (nsD ns), .v d, .v (.int 4)] = .ok (.v (.bl (ruleB w ns 4 d))) [] := k2
  have k3 := is_memory_eq w ns (by have := h.1; omega) (.tup (intL vs)) (by have := mem_dep vs; omega)
  have k4 := mem_true hv
  have k5 := between_eq v 0 (w - 1) ov
  simp [F_lets_by, startE, f_lets_by, F_need_rule, f_need_rule, k, k2, q, k3, k4, k5, qv]
theorem by_ok {x : Int} (x0 : 0 ≤ x) (x1 : x < w) : F_lets_by [.v (.int w), .v (nsD ns), .v d, .v (.tup (intL vs)), .v (.int x)] = .ok (.v (.bl (letB 4 d vs x))) [] := by
  have k := need_notes_ok w1 w3 h
  have k2 := rule_eq w ns (by have := h.1; omega) 4 15 d (by omega) o hl
  have k2 : F_is_rule_of 16 [.v (.int w), .v (nsD ns), .v d, .v (.int 4)] = .ok (.v (.bl (ruleB w ns 4 d))) [] := k2
  have k3 := is_memory_eq w ns (by have := h.1; omega) (.tup (intL vs)) (by have := mem_dep vs; omega)
  have k4 := mem_true hv
  have k5 := between_eq (.int x) 0 (w - 1) rfl
  have k6 : betw (.int x) 0 (w - 1) = true := by
    have : x ≤ w - 1 := by omega
    simp [betw, x0, this]
  have k7 := lets_eq 4 16 d vs x (by omega) q hv.length.symm
  simp [F_lets_by, startE, f_lets_by, F_need_rule, f_need_rule, k, k2, q, k3, k4, k5, k6, k7]
end
theorem asks_of {w : Int} (w1 : 1 ≤ w) (w3 : w ≤ 3) {ns : List Nt} (h : nsOk w ns) {d : D} (o : dep d ≤ 60) (hl : lens 1000 d = true) (q : ruleB w ns 4 d = true) : F_asks [.v (.int w), .v (nsD ns), .v d] = .ok (.v (.tup ((sortI (onceI (askI 4 d))).map D.int))) [] := by
  have k := need_notes_ok w1 w3 h
  have k2 := rule_eq w ns (by have := h.1; omega) 4 15 d (by omega) o hl
  have k2 : F_is_rule_of 16 [.v (.int w), .v (nsD ns), .v d, .v (.int 4)] = .ok (.v (.bl (ruleB w ns 4 d))) [] := k2
  have k3 := asked_eq 4 16 d (by omega) (by omega) o hl q
  have k4 := sortSet_lst (askI 4 d) (by have := ask_len q; omega)
  simp [F_asks, startE, f_asks, F_need_rule, f_need_rule, k, k2, q, k3, k4, tupD]
/-! drawn memories -/
theorem mosts_map (w : Int) : ∀ ns : List Nt, F2 (fun d r => ∃ n : Nt, d = n.d ∧ r = D.int (n.most w) ∧ n ∈ ns) (ns.map Nt.d) (intL (ns.map (Nt.most w)))
  | [] => .nil
  | n :: ns => .cons ⟨n, rfl, rfl, List.mem_cons_self ..⟩ ((mosts_map w ns).mono fun a b _ _ ⟨m, h1, h2, h3⟩ => ⟨m, h1, h2, List.mem_cons_of_mem _ h3⟩)
abbrev E8m (s : List D) (w : Int) (ns : List Nt) (o3 o4 o5 o6 o7 : Option Slot) : Env := [some (.m s), some (.v (.int w)), some (.v (nsD ns)), o3, o4, o5, o6, o7]
theorem drawn_mem {w : Int} (w1 : 1 ≤ w) (w3 : w ≤ 3) {ns : List Nt} (hns : nsOk w ns) {K : Nat} (hK : K ≤ 980000) {s : List D} (hp : potOk K s) {o4 o5 o6 : Option Slot} {Q : List D → Env → Prop}
    (q : ∀ vs s', memOk w ns vs → potOk (K + 4) s' → Q (intL vs) (E8m s' w ns (some (.v (.lst (intL (ns.map (Nt.most w)))))) o4 o5 o6 none)) :
    kCo [7] (gtN 7) bTrue (dCall F__law_take [some 0, none] (dMk 0 (dCons (dBin addD (dVar 7) (dC (.int 1))) dNil))) Q (intL (ns.map (Nt.most w))) (E8m s w ns (some (.v (.lst (intL (ns.map (Nt.most w)))))) o4 o5 o6 none) := by
  have n4 := hns.1
  refine comp_go (I := fun (i : Nat) (acc : List D) (e : Env) => ∃ s', (∃ vs, acc = intL vs ∧ F2 (memR w) (ns.take i) vs) ∧ e = E8m s' w ns (some (.v (.lst (intL (ns.map (Nt.most w)))))) o4 o5 o6 none ∧ potOk (K + i) s') rfl (by rw [intL_len, List.length_map]; omega) ⟨s, ⟨[], rfl, .nil⟩, rfl, hp⟩ ?_ ?_
  · intro i d acc e hd hI
    obtain ⟨s', ⟨vs, rfl, hv⟩, rfl, hq⟩ := hI
    have hd2 : ∃ n, ns[i]? = some n ∧ d = .int (n.most w) := by
      simp only [intL, List.map_map, List.getElem?_map] at hd
      cases hn : ns[i]? with
      | none => rw [hn] at hd; cases hd
      | some n => rw [hn] at hd; cases hd; exact ⟨n, rfl, rfl⟩
    obtain ⟨n, hn, rfl⟩ := hd2
    obtain ⟨hi, hn2⟩ := List.getElem?_eq_some_iff.mp hn
    obtain ⟨m1, m4⟩ := most_bd w1 w3 (hns.2 n (by rw [← hn2]; exact List.getElem_mem hi))
    refine ⟨_, rfl, ?_⟩
    simp
    refine wR_take hq (by omega) (by omega) (by omega) fun j s2 j0 j1 p2 => ?_
    simp
    refine ⟨⟨vs ++ [j], by simp [intL], ?_⟩, s2, rfl, p2⟩
    rw [take_snoc hn]
    exact hv.append (.cons ⟨j0, by omega⟩ .nil)
  · intro r e hI
    obtain ⟨s', ⟨vs, rfl, hv⟩, rfl, hq⟩ := hI
    rw [intL_len, List.length_map, List.take_length] at hv
    rw [intL_len, List.length_map] at hq
    exact q vs s' hv (hq.mono (by omega))
theorem mems_sp {w : Int} (w1 : 1 ≤ w) (w3 : w ≤ 3) {ns : List Nt} (hns : nsOk w ns) {K : Nat} {ds : List D} (hK : K ≤ 970000) (h : potOk K ds) :
    wF (F__law_memories [.m ds, .v (.int w), .v (nsD ns)]) (fun s o => ∃ ms : List (List Int), ∃ ds', s = .v (.lst (ms.map fun vs => .tup (intL vs))) ∧ o = [ds'] ∧ ms.length = 10 ∧ (∀ vs ∈ ms, memOk w ns vs) ∧ potOk (K + 32) ds') := by
  have n4 := hns.1
  have hlen : lenD (nsD ns) = some (.int (ns.length : Int)) := by simp [nsD, lenD]
  have c1 : mComp [6] (iItems1 (dVar 2)) (gtN 6) bTrue (dCall F__law_most [none, none] (dCons (dVar 1) (dCons (dVar 6) dNil))) (E8m ds w ns none none none none none) = .ok (intL (ns.map (Nt.most w))) (E8m ds w ns none none none none none) := by
    refine mComp_rel (ds := ns.map Nt.d) (by simp [nsD, itemsD]) rfl (by rw [List.length_map]; omega) rfl rfl ((mosts_map w ns).mono fun a b _ _ ⟨n, h1, h2, h3⟩ => ?_)
    subst h1 h2
    refine ⟨_, rfl, ?_, rfl⟩
    have k := law_most_eq w n
    simp [k]
  have rp : mulA (.tup [.int 0]) (.int (ns.length : Int)) = some (.tup (intL (List.replicate ns.length 0))) := by
    have : mulA (.tup [.int 0]) (.int (ns.length : Int)) = some (.tup (List.replicate (ns.length : Int).toNat [.int 0]).flatten) := if_pos ⟨by omega, by omega, by simp⟩
    rw [this]
    simp [intL]
  have z0 : ∀ ns : List Nt, (∀ n ∈ ns, n.ok w) → memOk w ns (List.replicate ns.length 0) := fun ns h => by
    induction ns with
    | nil => exact .nil
    | cons n ns ih =>
      have := most_bd w1 w3 (h n (List.mem_cons_self ..))
      exact .cons ⟨by omega, by omega⟩ (ih fun x hx => h x (List.mem_cons_of_mem _ hx))
  have z1 : memOk w ns (ns.map (Nt.most w)) := .of_map fun n hn => by
    have := most_bd w1 w3 (hns.2 n hn)
    exact ⟨by omega, by omega⟩
  have w8 : wide62 8 = true := by decide
  unfold F__law_memories
  rw [wF_fin]
  unfold f__law_memories
  simp [startE, c1, hlen, rp, tupD, w8]
  have zz := z0 ns hns.2
  generalize hM : intL (ns.map (Nt.most w)) = M at *
  refine wS_for (fun i e => ∃ s', (∃ ms : List (List Int), (∃ o5, e = E8m s' w ns (some (.v (.lst M))) (some (.m (ms.map fun vs => .tup (intL vs)))) o5 none none) ∧ ms.length = 2 + i ∧ ∀ vs ∈ ms, memOk w ns vs) ∧ potOk (K + 4 * i) s') _ 0 _ ⟨ds, ⟨[List.replicate ns.length 0, ns.map (Nt.most w)], ⟨none, by simp [hM]⟩, rfl, fun vs hx => ?_⟩, h⟩ (fun i d e hi hI => ?_) (fun e hI => ?_)
  · simp only [List.mem_cons, List.mem_nil_iff, or_false] at hx
    rcases hx with rfl | rfl
    · exact zz
    · exact z1
  · obtain ⟨s', ⟨ms, ⟨o5, rfl⟩, hl, hm⟩, hp⟩ := hI
    rw [Nat.zero_add] at hl hp
    obtain ⟨hi2, rfl⟩ := rangeL_get hi
    have hi8 : i < 8 := hi2
    refine ⟨_, rfl, ?_⟩
    simp [itemsD]
    rw [← hM]
    refine drawn_mem w1 w3 hns (K := K + 4 * i) (by omega) hp fun vs s2 hv p2 => ?_
    have hl2 : ms.length < 16777216 := by omega
    rw [hM]
    simp [tupD, hl2]
    refine ⟨s2, ⟨ms ++ [vs], by simp, by simp [hl] <;> omega, fun x hx => ?_⟩, p2.mono (by omega)⟩
    rcases List.mem_append.mp hx with q | q
    · exact hm x q
    · rw [List.mem_singleton.mp q]; exact hv
  · obtain ⟨s', ⟨ms, ⟨o5, rfl⟩, hl, hm⟩, hp⟩ := hI
    rw [Nat.zero_add] at hl hp
    have e8 : (rangeL 0 8).length = 8 := rangeL_length ..
    have e8b : (rangeL 0 (Int.toNat 8)).length = 8 := rangeL_length ..
    simp only [e8, e8b] at hl hp
    simp
    exact ⟨ms, rfl, by omega, hm, hp.mono (by omega)⟩
end DL
end

section
set_option Elab.async false
set_option linter.all false
set_option maxRecDepth 100000
/-! L4 (law k04): otherwise, rules right. -/
namespace DL
open PySem PySem.Spec PyProof.Rows L2
theorem enum_nts {ns : List Nt} {i : Nat} {d : D} (h : (enumL 0 (ns.map Nt.d))[i]? = some d) : ∃ n, ns[i]? = some n ∧ d = .tup [.int (i : Int), n.d] := by
  obtain ⟨x, hx, rfl⟩ := enumL_get _ _ _ _ h
  rw [List.getElem?_map] at hx
  cases hn : ns[i]? with
  | none => rw [hn] at hx; cases hx
  | some n =>
    rw [hn] at hx; cases hx
    exact ⟨n, rfl, by rw [Nat.zero_add]⟩
theorem otherwise_sp {w : Int} (w1 : 1 ≤ w) (w3 : w ≤ 3) {ns : List Nt} (hns : nsOk w ns) {K : Nat} {ds : List D} (hK : K ≤ 970000) (h : potOk K ds) {vs : List Int} (hv : memOk w ns vs) (l : List Int) :
    wF (F__law_otherwise [.m ds, .v (.int w), .v (nsD ns), .v (.tup (intL vs)), .v (.tup (intL l))]) (fun s o => ∃ us : List Int, ∃ ds', s = .v (.tup (intL us)) ∧ o = [ds'] ∧ memOk w ns us ∧ (∀ i : Int, 0 ≤ i → i ∈ l → vs.getD i.toNat 0 = us.getD i.toNat 0) ∧ potOk (K + 4) ds') := by
  have n4 := hns.1
  have hvl := hv.length
  unfold F__law_otherwise
  rw [wF_fin]
  unfold f__law_otherwise
  simp [startE, nsD, itemsD]
  refine wS_for (fun i e => ∃ s', (∃ us : List Int, (∃ o6 o7, e = [some (.m s'), some (.v (.int w)), some (.v (nsD ns)), some (.v (.tup (intL vs))), some (.v (.tup (intL l))), some (.m (intL us)), o6, o7]) ∧ F2 (memR w) (ns.take i) us ∧ ∀ j : Nat, j < i → (j : Int) ∈ l → vs[j]? = us[j]?) ∧ potOk (K + i) s') _ 0 _ ⟨ds, ⟨[], ⟨none, none, rfl⟩, .nil, fun j hj => by omega⟩, h⟩ (fun i d e hi hI => ?_) (fun e hI => ?_)
  · obtain ⟨s', ⟨us, ⟨o6, o7, rfl⟩, hu, hs⟩, hp⟩ := hI
    rw [Nat.zero_add] at hu hs hp
    obtain ⟨n, hn, rfl⟩ := enum_nts hi
    obtain ⟨hi2, hn2⟩ := List.getElem?_eq_some_iff.mp hn
    have hul : us.length = i := by have := hu.length; rw [List.length_take] at this; omega
    have hul2 : us.length < 16777216 := by omega
    have y := yes_ii (i : Int) l
    have y : yesD (.int (i : Int)) (.tup (intL l)) = some (.bl (decide ((i : Int) ∈ l))) := y
    have fin1 : ∀ v s2, memR w n v → ((i : Int) ∈ l → vs[i]? = some v) → potOk (K + (i + 1)) s2 → ∃ s' : List D, (∃ us' : List Int, (∃ o6 o7, ([some (.m s2), some (.v (.int w)), some (.v (nsD ns)), some (.v (.tup (intL vs))), some (.v (.tup (intL l))), some (.m (intL us ++ [.int v])), some (.v (.int (i : Int))), some (.v n.d)] : Env) = [some (.m s'), some (.v (.int w)), some (.v (nsD ns)), some (.v (.tup (intL vs))), some (.v (.tup (intL l))), some (.m (intL us')), o6, o7]) ∧ F2 (memR w) (ns.take (i + 1)) us' ∧ ∀ j : Nat, j < i + 1 → (j : Int) ∈ l → vs[j]? = us'[j]?) ∧ potOk (K + (i + 1)) s' := fun v s2 hr hq p2 => by
      refine ⟨s2, ⟨us ++ [v], ⟨_, _, by simp [intL]; exact ⟨rfl, rfl⟩⟩, ?_, fun j hj hl => ?_⟩, p2⟩
      · rw [take_snoc hn]
        exact hu.append (.cons hr .nil)
      · by_cases q : j < i
        · rw [List.getElem?_append_left (by omega)]
          exact hs j q hl
        · have : j = i := by omega
          subst this
          rw [hq hl, List.getElem?_append_right (by omega), hul]
          simp
    refine ⟨_, rfl, ?_⟩
    by_cases q : (i : Int) ∈ l
    · obtain ⟨v, hv1, hv2⟩ := hv.get hn
      have hx := ix_mem (vs := vs) (i := (i : Int)) (by omega) (by omega)
      have e : vs.getD (i : Int).toNat 0 = v := by
        rw [show (i : Int).toNat = i by omega, List.getD_eq_getElem?_getD, hv1]; rfl
      rw [e] at hx
      simp [y, q, hx, hul2]
      simpa [nsD] using fin1 v s' hv2 (fun _ => hv1) (hp.mono (by omega))
    · have k := law_most_eq w n
      obtain ⟨m1, m4⟩ := most_bd w1 w3 (hns.2 n (by rw [← hn2]; exact List.getElem_mem hi2))
      simp [y, q, k]
      refine wR_take hp (by omega) (by omega) (by omega) fun j s2 j0 j1 p2 => ?_
      simp [hul2]
      simpa [nsD] using fin1 j s2 ⟨j0, by omega⟩ (fun h => absurd h q) p2
  · obtain ⟨s', ⟨us, ⟨o6, o7, rfl⟩, hu, hs⟩, hp⟩ := hI
    rw [Nat.zero_add, enum_len, List.length_map] at hu hs hp
    rw [List.take_length] at hu
    simp
    refine ⟨us, rfl, hu, fun i i0 hi => ?_, hp.mono (by omega)⟩
    by_cases q : i.toNat < ns.length
    · have := hs i.toNat q (by rw [show ((i.toNat : Nat) : Int) = i by omega]; exact hi)
      rw [this]
    · have e1 : vs[i.toNat]? = none := List.getElem?_eq_none_iff.mpr (by omega)
      have e2 : us[i.toNat]? = none := List.getElem?_eq_none_iff.mpr (by have := hu.length; omega)
      rw [e1, e2]
end DL
end

section
set_option Elab.async false
set_option linter.all false
set_option maxRecDepth 100000
/-! L5 (law k04): a rule, looked at. -/
namespace DL
open PySem PySem.Spec PyProof.Rows L2
def rrS0 : Env → RS := (sAsg (dCall F_asks [none, none, none] (dCons (dVar 1) (dCons (dVar 2) (dCons (dVar 3) dNil)))) (gtN 5))
def rrB : Env → RS := (sSeq (sPar2 10 11 (dCons (dCall (F__law_lets 16) [none, none, none] (dCons (dVar 3) (dCons (dVar 6) (dCons (dVar 7) dNil)))) (dCons (dCall (F__law_lets 16) [none, none, none] (dCons (dVar 4) (dCons (dVar 6) (dCons (dVar 7) dNil)))) dNil))) (sSeq (sAsgM 8 (mLst (dCons (dCall F_lets_by [none, none, none, none, none] (dCons (dVar 1) (dCons (dVar 2) (dCons (dVar 3) (dCons (dVar 6) (dCons (dVar 7) dNil)))))) dNil))) (sSeq (sApp 8 (dCall F_lets_by [none, none, none, none, none] (dCons (dVar 1) (dCons (dVar 2) (dCons (dTup (dCons (dC (.str "not")) (dCons (dVar 3) dNil))) (dCons (dVar 6) (dCons (dVar 7) dNil))))))) (sSeq (sApp 8 (dCall F_lets_by [none, none, none, none, none] (dCons (dVar 1) (dCons (dVar 2) (dCons (dTup (dCons (dC (.str "both")) (dCons (dVar 3) (dCons (dVar 4) dNil)))) (dCons (dVar 6) (dCons (dVar 7) dNil))))))) (sSeq (sApp 8 (dCall F_lets_by [none, none, none, none, none] (dCons (dVar 1) (dCons (dVar 2) (dCons (dTup (dCons (dC (.str "either")) (dCons (dVar 4) (dCons (dVar 3) dNil)))) (dCons (dVar 6) (dCons (dVar 7) dNil))))))) (sSeq (sIf (dTest (dBin neS (dCal (on1 reprD) (dCons (dFrz 8) dNil)) (dCal (on1 reprD) (dCons (dM (mLst (dCons (dVar 10) (dCons (dNot (dVar 10)) (dCons (dAnd (dVar 10) (dVar 11)) (dCons (dOr (dVar 10) (dVar 11)) dNil)))))) dNil)))) (sRet (dC (.bl false))) sNx) (sSeq (sAsg (dCall F__law_otherwise [some 0, none, none, none, none] (dMk 0 (dCons (dVar 1) (dCons (dVar 2) (dCons (dVar 6) (dCons (dVar 5) dNil)))))) (gtN 9)) (sIf (dTest (dBin neS (dCal (on1 reprD) (dCons (dCall F_lets_by [none, none, none, none, none] (dCons (dVar 1) (dCons (dVar 2) (dCons (dVar 3) (dCons (dVar 9) (dCons (dVar 7) dNil)))))) dNil)) (dCal (on1 reprD) (dCons (dVar 10) dNil)))) (sRet (dC (.bl false))) sNx))))))))
theorem rr_form : f__law_rule_right = sSeq rrS0 (sSeq (sFor (iItems1 (dCall F__law_memories [some 0, none, none] (dMk 0 (dCons (dVar 1) (dCons (dVar 2) dNil))))) (gtN 6) (sFor (iRange1 (dVar 1)) (gtN 7) rrB)) (sRet (dC (.bl true)))) := rfl
abbrev E12r (s : List D) (w : Int) (ns : List Nt) (r ot : D) (l : List Int) (o6 o7 o8 o9 o10 o11 : Option Slot) : Env := [some (.m s), some (.v (.int w)), some (.v (nsD ns)), some (.v r), some (.v ot), some (.v (.tup (intL l))), o6, o7, o8, o9, o10, o11]
theorem repr4 (a b c d : Bool) : ∃ t, reprD (.lst [.bl a, .bl b, .bl c, .bl d]) = some (.str t) := repr_ok (by simp) (by simp) (by simp)
theorem repr1 (a : Bool) : ∃ t, reprD (.bl a) = some (.str t) := repr_ok (by simp) (by simp) (by simp)
section
variable {w : Int} (w1 : 1 ≤ w) (w3 : w ≤ 3) {ns : List Nt} (hns : nsOk w ns) {r ot : D} (hr : RuleP w ns 3 r) (ho : RuleP w ns 3 ot)
include w1 w3 hns hr ho
theorem rr_body {s : List D} {K : Nat} (hK : K ≤ 960000) (hp : potOk K s) {vs : List Int} (hv : memOk w ns vs) {x : Int} (x0 : 0 ≤ x) (x1 : x < w) {o8 o9 o10 o11 : Option Slot} {P : Po}
    (q : ∀ s' o8 o9 o10 o11, potOk (K + 4) s' → P.nx (E12r s' w ns r ot (sortI (onceI (askI 4 r))) (some (.v (.tup (intL vs)))) (some (.v (.int x))) o8 o9 o10 o11)) :
    wS (rrB (E12r s w ns r ot (sortI (onceI (askI 4 r))) (some (.v (.tup (intL vs)))) (some (.v (.int x))) o8 o9 o10 o11)) P := by
  obtain ⟨hr1, hr2, hr3⟩ := hr
  obtain ⟨ho1, ho2, ho3⟩ := ho
  have r4 := ruleB_mono hr1
  have o4 := ruleB_mono ho1
  have rl := lens_mono (show 8 ≤ 1000 by omega) _ hr3
  have ol := lens_mono (show 8 ≤ 1000 by omega) _ ho3
  have hvl := hv.length.symm
  have lr := law_lets_eq 4 16 r vs x (by omega) r4 hvl
  have lo := law_lets_eq 4 16 ot vs x (by omega) o4 hvl
  have b1 := by_ok w1 w3 hns (d := r) (by omega) rl r4 hv x0 x1
  have b2 := by_ok w1 w3 hns (d := .tup [.str "not", r]) (by simp; omega) (by simp [lens, lensL, rl]) (by simp [ruleB, oneP, hr1]) hv x0 x1
  have b3 := by_ok w1 w3 hns (d := .tup [.str "both", r, ot]) (by simp; omega) (by simp [lens, lensL, rl, ol]) (by simp [ruleB, twoP, hr1, ho1]) hv x0 x1
  have b4 := by_ok w1 w3 hns (d := .tup [.str "either", ot, r]) (by simp; omega) (by simp [lens, lensL, rl, ol]) (by simp [ruleB, twoP, hr1, ho1]) hv x0 x1
  have e2 : letB 4 (.tup [.str "not", r]) vs x = !letB 4 r vs x := by rw [letB_mono hr1]; simp [letB]
  have e3 : letB 4 (.tup [.str "both", r, ot]) vs x = (letB 4 r vs x && letB 4 ot vs x) := by rw [letB_mono hr1, letB_mono ho1]; simp [letB]
  have e4 : letB 4 (.tup [.str "either", ot, r]) vs x = (letB 4 r vs x || letB 4 ot vs x) := by rw [letB_mono hr1, letB_mono ho1]; simp [letB, Bool.or_comm]
  rw [e2] at b2
  rw [e3] at b3
  rw [e4] at b4
  have ot1 := otherwise_sp w1 w3 hns (by omega) hp hv (sortI (onceI (askI 4 r)))
  have same : ∀ us, (∀ i : Int, 0 ≤ i → i ∈ sortI (onceI (askI 4 r)) → vs.getD i.toNat 0 = us.getD i.toNat 0) → letB 4 r us x = letB 4 r vs x := fun us h => by
    refine (letB_same r4 fun i hi => ?_).symm
    have := ask_bd r4 i hi
    exact h i this.1 ((sortI_perm _).mem_iff.mpr ((mem_once i _).mpr hi))
  have bo := fun us hu => by_ok w1 w3 hns (d := r) (by omega) rl r4 (vs := us) hu x0 x1
  generalize sortI (onceI (askI 4 r)) = l at *
  generalize letB 4 r vs x = br at *
  generalize letB 4 ot vs x = bo1 at *
  obtain ⟨t4, ht4⟩ := repr4 br (!br) (br && bo1) (br || bo1)
  obtain ⟨t1, ht1⟩ := repr1 br
  unfold rrB
  simp [lr, lo, put2, b1, b2, b3, b4]
  have hc : (if br = true then (R.ok (D.bl bo1) : Env → R D) else R.ok (D.bl false)) = R.ok (.bl (br && bo1)) := by cases br <;> rfl
  cases br <;> simp [ht4] <;> (try simp at ht4) <;> simp [ht4]
  all_goals
    refine wR_call ot1 fun z o ⟨us, s2, h1, h2, hu, hs, p2⟩ => ?_
    subst h1 h2
    have k := bo us hu
    rw [same us hs] at k
    simp [k, ht1]
    exact q _ _ _ _ _ p2
theorem rr_sp {K : Nat} {ds : List D} (hK : K ≤ 950000) (h : potOk K ds) :
    wF (F__law_rule_right [.m ds, .v (.int w), .v (nsD ns), .v r, .v ot]) (fun s o => ∃ ds', s = .v (.bl true) ∧ o = [ds'] ∧ potOk (K + 200) ds') := by
  have r4 := ruleB_mono hr.1
  have rl := lens_mono (show 8 ≤ 1000 by omega) _ hr.2.2
  have ak := asks_of w1 w3 hns (d := r) (by have := hr.2.1; omega) rl r4
  have hww : wide62 w = true := wide_i (by omega) (by omega)
  unfold F__law_rule_right
  rw [wF_fin, rr_form]
  have bd := fun (s : List D) (K : Nat) (hK : K ≤ 960000) (hp : potOk K s) (vs : List Int) (hv : memOk w ns vs) (x : Int) x0 x1 o8 o9 o10 o11 P q => rr_body w1 w3 hns hr ho hK hp hv (x := x) x0 x1 (o8 := o8) (o9 := o9) (o10 := o10) (o11 := o11) (P := P) q
  have ak : F_asks [.v (.int w), .v (nsD ns), .v r] = .ok (.v (.tup (intL (sortI (onceI (askI 4 r)))))) [] := ak
  generalize sortI (onceI (askI 4 r)) = l at *
  unfold rrS0
  generalize rrB = B at *
  simp [startE, ak]
  refine wR_call (mems_sp w1 w3 hns (by omega) h) fun z o ⟨ms, s1, h1, h2, hl, hm, p1⟩ => ?_
  subst h1 h2
  simp [itemsD]
  refine wS_for (fun i e => ∃ s', (∃ o6 o7 o8 o9 o10 o11, e = E12r s' w ns r ot l o6 o7 o8 o9 o10 o11) ∧ potOk (K + 32 + 12 * i) s') _ 0 _ ⟨s1, ⟨none, none, none, none, none, none, rfl⟩, p1⟩ (fun i d e hi hI => ?_) (fun e hI => ?_)
  · obtain ⟨s', ⟨o6, o7, o8, o9, o10, o11, rfl⟩, hp⟩ := hI
    rw [Nat.zero_add] at hp
    rw [List.getElem?_map] at hi
    cases hn : ms[i]? with
    | none => rw [hn] at hi; cases hi
    | some vs =>
      rw [hn] at hi
      cases hi
      obtain ⟨hi2, hn2⟩ := List.getElem?_eq_some_iff.mp hn
      have hv := hm vs (by rw [← hn2]; exact List.getElem_mem hi2)
      refine ⟨_, rfl, ?_⟩
      simp [hww]
      refine wS_for (fun j e => ∃ s', (∃ o7 o8 o9 o10 o11, e = E12r s' w ns r ot l (some (.v (.tup (intL vs)))) o7 o8 o9 o10 o11) ∧ potOk (K + 32 + 12 * i + 4 * j) s') _ 0 _ ⟨s', ⟨o7, o8, o9, o10, o11, rfl⟩, hp⟩ (fun j d e hj hJ => ?_) (fun e hJ => ?_)
      · obtain ⟨s2, ⟨o7, o8, o9, o10, o11, rfl⟩, hp2⟩ := hJ
        rw [Nat.zero_add] at hp2
        obtain ⟨hj2, rfl⟩ := rangeL_get hj
        refine ⟨_, rfl, ?_⟩
        refine bd s2 _ (by omega) hp2 vs hv (0 + (j : Int)) (by omega) (by omega) o8 o9 o10 o11 _ fun s3 o8 o9 o10 o11 p3 => ?_
        exact ⟨s3, ⟨_, _, _, _, _, rfl⟩, p3.mono (by omega)⟩
      · obtain ⟨s2, ⟨o7, o8, o9, o10, o11, rfl⟩, hp2⟩ := hJ
        rw [Nat.zero_add, rangeL_length] at hp2
        exact ⟨s2, ⟨_, _, _, _, _, _, rfl⟩, hp2.mono (by omega)⟩
  · obtain ⟨s', ⟨o6, o7, o8, o9, o10, o11, rfl⟩, hp⟩ := hI
    rw [Nat.zero_add, List.length_map, hl] at hp
    simp
    exact hp.mono (by omega)
end
end DL
end

section
set_option Elab.async false
set_option linter.all false
set_option maxRecDepth 100000
/-! L6 (law k04): the words of refusals, things that are none. -/
namespace DL
open PySem PySem.Spec PyProof.Rows L2
theorem word_told {fl : Env → R D} {e : Env} {d : D} {e' : Env} (h : fl (hideE e) = .ok d e') (p : plainD d = true) : dLam f__law_word 3 fl e = .ok (.str "told") e := by
  unfold dLam
  rw [h]
  simp [tellsO, startE, f__law_word, sTry, thAt, actR, p, plainL, plainD]
theorem word_ref {fl : Env → R D} {e : Env} {e' : Env} (c : Nat) (t : Str) (hc : (c = cl_NoNote ∧ t = "note") ∨ (c = cl_NoRule ∧ t = "rule") ∨ (c = cl_NoMemory ∧ t = "memory") ∨ (c = cl_NoWalker ∧ t = "walker")) (h : fl (hideE e) = .exc ⟨c, []⟩ e') : dLam f__law_word 3 fl e = .ok (.str t) e := by
  unfold dLam
  rw [h]
  have l1 : lcntD (.lst [.bl true, .bl false, .bl false, .bl false]) (.bl true) = some (.int 1) := rfl
  have l2 : lcntD (.lst [.bl false, .bl true, .bl false, .bl false]) (.bl true) = some (.int 1) := rfl
  have l3 : lcntD (.lst [.bl false, .bl false, .bl true, .bl false]) (.bl true) = some (.int 1) := rfl
  have l4 : lcntD (.lst [.bl false, .bl false, .bl false, .bl true]) (.bl true) = some (.int 1) := rfl
  have m1 : lidxD (.lst [.bl true, .bl false, .bl false, .bl false]) (.bl true) = some (.int 0) := rfl
  have m2 : lidxD (.lst [.bl false, .bl true, .bl false, .bl false]) (.bl true) = some (.int 1) := rfl
  have m3 : lidxD (.lst [.bl false, .bl false, .bl true, .bl false]) (.bl true) = some (.int 2) := rfl
  have m4 : lidxD (.lst [.bl false, .bl false, .bl false, .bl true]) (.bl true) = some (.int 3) := rfl
  have il : ∀ xs, isLst (.lst xs) = some () := fun xs => rfl
  rcases hc with ⟨rfl, rfl⟩ | ⟨rfl, rfl⟩ | ⟨rfl, rfl⟩ | ⟨rfl, rfl⟩
  · have q1 : exr_RoomError cl_NoNote = some true := by decide
    have q2 : isr_1 cl_NoNote = some true := by decide
    have q3 : isr_2 cl_NoNote = some false := by decide
    have q4 : isr_3 cl_NoNote = some false := by decide
    have q5 : isr_4 cl_NoNote = some false := by decide
    simp [tellsO, startE, f__law_word, sTry, thAt, actR, plainL, plainD, plainE, plainS, plainX, plainXL, catchC, q1, setO, xAt, q2, q3, q4, q5, endC, unO, plS, il, l1, m1]
  · have q1 : exr_RoomError cl_NoRule = some true := by decide
    have q2 : isr_1 cl_NoRule = some false := by decide
    have q3 : isr_2 cl_NoRule = some true := by decide
    have q4 : isr_3 cl_NoRule = some false := by decide
    have q5 : isr_4 cl_NoRule = some false := by decide
    simp [tellsO, startE, f__law_word, sTry, thAt, actR, plainL, plainD, plainE, plainS, plainX, plainXL, catchC, q1, setO, xAt, q2, q3, q4, q5, endC, unO, plS, il, l2, m2]
  · have q1 : exr_RoomError cl_NoMemory = some true := by decide
    have q2 : isr_1 cl_NoMemory = some false := by decide
    have q3 : isr_2 cl_NoMemory = some false := by decide
    have q4 : isr_3 cl_NoMemory = some true := by decide
    have q5 : isr_4 cl_NoMemory = some false := by decide
    simp [tellsO, startE, f__law_word, sTry, thAt, actR, plainL, plainD, plainE, plainS, plainX, plainXL, catchC, q1, setO, xAt, q2, q3, q4, q5, endC, unO, plS, il, l3, m3]
  · have q1 : exr_RoomError cl_NoWalker = some true := by decide
    have q2 : isr_1 cl_NoWalker = some false := by decide
    have q3 : isr_2 cl_NoWalker = some false := by decide
    have q4 : isr_3 cl_NoWalker = some false := by decide
    have q5 : isr_4 cl_NoWalker = some true := by decide
    simp [tellsO, startE, f__law_word, sTry, thAt, actR, plainL, plainD, plainE, plainS, plainX, plainXL, catchC, q1, setO, xAt, q2, q3, q4, q5, endC, unO, plS, il, l4, m4]
theorem word_number {fl : Env → R D} {e : Env} {e' : Env} {x : D} (h : fl (hideE e) = .exc ⟨cl_NoNumber, [("number", x)]⟩ e') (p : plainD x = true) : dLam f__law_word 3 fl e = .ok (.str "number") e := by
  unfold dLam
  rw [h]
  have q1 : exr_RoomError cl_NoNumber = some false := by decide
  have q2 : exr_LackError cl_NoNumber = some true := by decide
  have q3 : isr_0 cl_NoNumber = some true := by decide
  simp [tellsO, startE, f__law_word, sTry, thAt, actR, plainL, plainD, plainE, plainS, plainX, plainXL, catchC, p, q1, q2, setO, xAt, q3, endC, unO, plS]
theorem lam5 {F : List Slot → RF} {i j k l m : Nat} {E : Env} {a b c d x : D} (h1 : E[i]? = some (some (.v a))) (h2 : E[j]? = some (some (.v b))) (h3 : E[k]? = some (some (.v c))) (h4 : E[l]? = some (some (.v d))) (h5 : E[m]? = some (some (.v x))) : dCall F [none, none, none, none, none] (dCons (dVar i) (dCons (dVar j) (dCons (dVar k) (dCons (dVar l) (dCons (dVar m) dNil))))) E = kF [none, none, none, none, none] kD E (F [.v a, .v b, .v c, .v d, .v x]) := by
  simp [h1, h2, h3, h4, h5]
def oddN (x : D) : Prop := dataD x = true ∧ betw x 1 3 = false ∧ plainD x = true
def noNs (w : Int) (x : D) : Prop := okD x ∧ lens 1000 x = true ∧ areB w x = false
def noRu (w : Int) (ns : List Nt) (x : D) : Prop := dep x ≤ 60 ∧ lens 1000 x = true ∧ ruleB w ns 4 x = false
def noMe (w : Int) (ns : List Nt) (x : D) : Prop := dep x ≤ 60 ∧ memB w ns x = false
def noWa (w : Int) (x : D) : Prop := dataD x = true ∧ betw x 0 (w - 1) = false
theorem areB_tup {w : Int} {xs : List D} (h : 4 < xs.length ∨ ∃ x ∈ xs, noteB w x = false) : areB w (.tup xs) = false := by
  simp only [areB, Bool.and_eq_false_iff, decide_eq_false_iff_not]
  rcases h with h | ⟨x, hx, h⟩
  · exact .inl (by omega)
  · refine .inr ?_
    cases q : xs.all fun d => noteB w d with
    | false => rfl
    | true => rw [List.all_eq_true.mp q x hx] at h; cases h
theorem noNs_tup {w : Int} {xs : List D} (hl : xs.length ≤ 1000) (hx : ∀ x ∈ xs, tameN 2 8 x) (h : 4 < xs.length ∨ ∃ x ∈ xs, noteB w x = false) : noNs w (.tup xs) := by
  have d := depL_leA fun x h => (hx x h).1
  refine ⟨.inl (by simp only [dep_t]; omega), ?_, areB_tup h⟩
  simp only [lens, Bool.and_eq_true, decide_eq_true_eq]
  exact ⟨hl, lensL_all fun x h => lens_mono (by omega) _ (hx x h).2⟩
theorem no_more {w : Int} {ns : List Nt} {k : Nat} {t : D} {ps : List D} {a : D} (h : ruleB w ns k (.tup (t :: ps)) = true) : ruleB w ns k (.tup (t :: ps ++ [a])) = false := by
  obtain ⟨k', e, t', ps', e2, hs⟩ := rule_shape h
  subst e
  cases e2
  rcases hs with ⟨rfl, rfl⟩ | ⟨rfl, a, rfl⟩ | ⟨rfl, i, b, c, rfl⟩ | ⟨rfl, i, rfl⟩ | ⟨rfl, a, rfl, ha⟩ | ⟨rfl | rfl, a, b, rfl, ha, hb⟩
  all_goals simp [ruleB, oneP, twoP, threeP]
theorem memB_len {w : Int} {ns : List Nt} {xs : List D} (h : xs.length ≠ ns.length) : memB w ns (.tup xs) = false := by simp [memB, h]
theorem memB_fst {w : Int} {n : Nt} {ns : List Nt} {x : D} {xs : List D} (h : betw x 0 (n.most w) = false) : memB w (n :: ns) (.tup (x :: xs)) = false := by
  simp only [memB, memL, List.zipWith_cons_cons, List.all_cons, id, h, Bool.false_and, Bool.and_false]
theorem memB_lst {w : Int} {n : Nt} {ns : List Nt} {x : D} {xs : List D} (hl : xs.length = ns.length) (h : betw x 0 (n.most w) = false) : memB w (ns ++ [n]) (.tup (xs ++ [x])) = false := by
  simp only [memB, memL]
  rw [List.zipWith_append hl.symm]
  simp [h]
theorem cut_m1 (xs : List D) (a : D) : cutD (xs ++ [a]) none (some (-1)) = xs := by
  unfold cutD HT.sIx
  simp
  rw [show (-1 + ((xs.length : Int) + 1)).toNat = xs.length by omega]
  simp
end DL
end

section
set_option Elab.async false
set_option linter.all false
set_option maxRecDepth 100000
/-! L7 (law k04): what is refused. -/
namespace DL
open PySem PySem.Spec PyProof.Rows L2
def rfS0 : Env → RS := (sAsg (dBin ixD (dCall F__law_memories [some 0, none, none] (dMk 0 (dCons (dVar 1) (dCons (dVar 2) dNil)))) (dCall F__law_take [some 0, none] (dMk 0 (dCons (dC (.int 10)) dNil)))) (gtN 4))
def rfS1 : Env → RS := (sAsg (dCall F__law_take [some 0, none] (dMk 0 (dCons (dC (.int 32)) dNil))) (gtN 5))
def rfS2 : Env → RS := (sAsg (dM (mComp [17] (iItems1 (dTup (dCons (dC (.int 1)) (dCons (dC (.int 2)) (dCons (dC (.int 4)) (dCons (dC (.int 8)) (dCons (dC (.int 16)) dNil))))))) (gtN 17) bTrue (dBin eqS (dBin modD (dBin fdivD (dVar 5) (dVar 17)) (dC (.int 2))) (dC (.int 1))))) (gtN 6))
def rfS3 : Env → RS := (sAsg (dIf (dTruth (dBin ixD (dVar 6) (dC (.int 0)))) (dBin ixD (dM (mLst (dCons (dC (.int 0)) (dCons (dC (.int 4)) (dCons (dC (.bl true)) (dCons (dC .non) dNil)))))) (dCall F__law_take [some 0, none] (dMk 0 (dCons (dC (.int 4)) dNil)))) (dVar 1)) (gtN 7))
def rfS4 : Env → RS := (sAsgM 8 (mLst (dCons (dM (mList (dVar 2))) (dCons (dBin addD (dVar 2) (dTup (dCons (dC .non) dNil))) (dCons (dC .non) (dCons (dBin mulA (dVar 2) (dC (.int 5))) dNil))))))
def rfS5 : Env → RS := (sAsg (dIf (dTruth (dBin ixD (dVar 6) (dC (.int 1)))) (dIxM 8 (dCall F__law_take [some 0, none] (dMk 0 (dCons (dC (.int 4)) dNil)))) (dVar 2)) (gtN 9))
def rfS6 : Env → RS := (sAsg (dTup (dCons (dC (.str "not")) (dCons (dTup (dCons (dC (.str "not")) (dCons (dTup (dCons (dC (.str "not")) (dCons (dTup (dCons (dC (.str "not")) (dCons (dVar 3) dNil))) dNil))) dNil))) dNil))) (gtN 10))
def rfS7 : Env → RS := (sAsgM 8 (mLst (dCons (dVar 10) (dCons (dM (mList (dVar 3))) (dCons (dBin addD (dVar 3) (dTup (dCons (dC (.int 0)) dNil))) (dCons (dC .non) (dCons (dTup (dCons (dC (.str "note")) (dCons (dCal (on1 lenD) (dCons (dVar 2) dNil)) (dCons (dC (.int 0)) (dCons (dC (.int 0)) dNil))))) dNil)))))))
def rfS8 : Env → RS := (sAsg (dIf (dTruth (dBin ixD (dVar 6) (dC (.int 2)))) (dIxM 8 (dCall F__law_take [some 0, none] (dMk 0 (dCons (dC (.int 5)) dNil)))) (dVar 3)) (gtN 11))
def rfS9 : Env → RS := (sAsgM 8 (mLst (dCons (dBin addD (dVar 4) (dTup (dCons (dC (.int 0)) dNil))) (dCons (dSl (dVar 4) (pSome (dC (.int 1))) pNo) (dCons (dM (mList (dVar 4))) (dCons (dBin addD (dTup (dCons (dUn negD (dC (.int 1))) dNil)) (dSl (dVar 4) (pSome (dC (.int 1))) pNo)) dNil))))))
def rfS10 : Env → RS := (sAsgM 8 (mCat (dFrz 8) (dM (mLst (dCons (dBin addD (dTup (dCons (dC (.bl true)) dNil)) (dSl (dVar 4) (pSome (dC (.int 1))) pNo)) (dCons (dBin addD (dTup (dCons (dC (.int 5)) dNil)) (dSl (dVar 4) (pSome (dC (.int 1))) pNo)) (dCons (dC .non) dNil)))))))
def rfS11 : Env → RS := (sFor (iItems1 (dM (mLst (dCons (dUn negD (dC (.int 1))) (dCons (dC (.int 9)) (dCons (dC (.bl true)) (dCons (dC .non) dNil))))))) (gtN 12) (sApp 8 (dBin addD (dSl (dVar 4) pNo (pSome (dUn negD (dC (.int 1))))) (dTup (dCons (dVar 12) dNil)))))
def rfS12 : Env → RS := (sAsg (dIf (dTruth (dBin ixD (dVar 6) (dC (.int 3)))) (dIxM 8 (dCall F__law_take [some 0, none] (dMk 0 (dCons (dC (.int 11)) dNil)))) (dVar 4)) (gtN 13))
def rfS13 : Env → RS := (sAsg (dCall F__law_take [some 0, none] (dMk 0 (dCons (dVar 1) dNil))) (gtN 14))
def rfS14 : Env → RS := (sIf (dTruth (dBin ixD (dVar 6) (dC (.int 4)))) (sAsg (dBin ixD (dM (mLst (dCons (dVar 1) (dCons (dUn negD (dC (.int 1))) (dCons (dC (.bl true)) (dCons (dC .non) (dCons (dTup (dCons (dC (.int 0)) dNil)) dNil))))))) (dCall F__law_take [some 0, none] (dMk 0 (dCons (dC (.int 5)) dNil)))) (gtN 14)) sNx)
def rfS15 : Env → RS := (sAsg (dM (mLst (dCons (dC (.str "number")) (dCons (dC (.str "note")) (dCons (dC (.str "rule")) (dCons (dC (.str "memory")) (dCons (dC (.str "walker")) dNil))))))) (gtN 15))
def rfS16 : Env → RS := (sAsg (dBin ixD (dM (mCat (dM (mComp [18, 19] (iZip2 (dVar 15) (dVar 6)) (gtSeq 2 (gtCons (gtN 18) (gtCons (gtN 19) gtNil))) (dTruth (dVar 19)) (dVar 18))) (dM (mLst (dCons (dC (.str "told")) dNil))))) (dC (.int 0))) (gtN 16))
def rfS17 : Env → RS := (sRet (dBin eqS (dLam f__law_word 3 (dCall F_lets_by [none, none, none, none, none] (dCons (dVar 7) (dCons (dVar 9) (dCons (dVar 11) (dCons (dVar 13) (dCons (dVar 14) dNil))))))) (dVar 16)))
theorem rf_form : f__law_refused_right = sSeq rfS0 (sSeq rfS1 (sSeq rfS2 (sSeq rfS3 (sSeq rfS4 (sSeq rfS5 (sSeq rfS6 (sSeq rfS7 (sSeq rfS8 (sSeq rfS9 (sSeq rfS10 (sSeq rfS11 (sSeq rfS12 (sSeq rfS13 (sSeq rfS14 (sSeq rfS15 (sSeq rfS16 rfS17)))))))))))))))) := rfl
abbrev E20 (s : List D) (w : Int) (ns : List Nt) (r : D) (vs : List Int) (o5 o6 o7 o8 o9 o10 o11 o12 o13 o14 o15 o16 : Option Slot) : Env := [some (.m s), some (.v (.int w)), some (.v (nsD ns)), some (.v r), some (.v (.tup (intL vs))), o5, o6, o7, o8, o9, o10, o11, o12, o13, o14, o15, o16, none, none, none]
abbrev badL (b : Nat → Bool) : D := .lst [.bl (b 0), .bl (b 1), .bl (b 2), .bl (b 3), .bl (b 4)]
theorem bad_eq (z : Int) : ∃ b : Nat → Bool, ∀ (s : List D) (w : Int) (ns : List Nt) (r : D) (vs : List Int), rfS2 (E20 s w ns r vs (some (.v (.int z))) none none none none none none none none none none none) = .nx (E20 s w ns r vs (some (.v (.int z))) (some (.v (badL b))) none none none none none none none none none none) := by
  refine ⟨fun i => match i with | 0 => z / 1 % 2 == 1 | 1 => z / 2 % 2 == 1 | 2 => z / 4 % 2 == 1 | 3 => z / 8 % 2 == 1 | _ => z / 16 % 2 == 1, fun s w ns r vs => ?_⟩
  unfold rfS2
  have f1 := fdiv_ii z 1 (by decide) (by decide)
  have f2 := fdiv_ii z 2 (by decide) (by decide)
  have f4 := fdiv_ii z 4 (by decide) (by decide)
  have f8 := fdiv_ii z 8 (by decide) (by decide)
  have f16 := fdiv_ii z 16 (by decide) (by decide)
  have md := fun i => mod_ii i 2 (by decide)
  have c : mComp [17] (iItems1 (dTup (dCons (dC (.int 1)) (dCons (dC (.int 2)) (dCons (dC (.int 4)) (dCons (dC (.int 8)) (dCons (dC (.int 16)) dNil))))))) (gtN 17) bTrue (dBin eqS (dBin modD (dBin fdivD (dVar 5) (dVar 17)) (dC (.int 2))) (dC (.int 1))) (E20 s w ns r vs (some (.v (.int z))) none none none none none none none none none none none) = .ok [.bl (z / 1 % 2 == 1), .bl (z / 2 % 2 == 1), .bl (z / 4 % 2 == 1), .bl (z / 8 % 2 == 1), .bl (z / 16 % 2 == 1)] (E20 s w ns r vs (some (.v (.int z))) none none none none none none none none none none none) := by
    refine mComp_rel (ds := [.int 1, .int 2, .int 4, .int 8, .int 16]) (by simp [itemsD]) rfl (by simp) rfl rfl ?_
    refine .cons ⟨_, rfl, ?_, rfl⟩ (.cons ⟨_, rfl, ?_, rfl⟩ (.cons ⟨_, rfl, ?_, rfl⟩ (.cons ⟨_, rfl, ?_, rfl⟩ (.cons ⟨_, rfl, ?_, rfl⟩ .nil))))
    · simp only [dBin_ap, dVar_ap, dC_ap, bnd_ok, c1_dBin_ap, c2_dBin_ap, f1, md, opt_some, eqS_ii, List.getElem?_cons_succ, List.getElem?_cons_zero, List.set_cons_succ, List.set_cons_zero]
    · simp only [dBin_ap, dVar_ap, dC_ap, bnd_ok, c1_dBin_ap, c2_dBin_ap, f2, md, opt_some, eqS_ii, List.getElem?_cons_succ, List.getElem?_cons_zero, List.set_cons_succ, List.set_cons_zero]
    · simp only [dBin_ap, dVar_ap, dC_ap, bnd_ok, c1_dBin_ap, c2_dBin_ap, f4, md, opt_some, eqS_ii, List.getElem?_cons_succ, List.getElem?_cons_zero, List.set_cons_succ, List.set_cons_zero]
    · simp only [dBin_ap, dVar_ap, dC_ap, bnd_ok, c1_dBin_ap, c2_dBin_ap, f8, md, opt_some, eqS_ii, List.getElem?_cons_succ, List.getElem?_cons_zero, List.set_cons_succ, List.set_cons_zero]
    · simp only [dBin_ap, dVar_ap, dC_ap, bnd_ok, c1_dBin_ap, c2_dBin_ap, f16, md, opt_some, eqS_ii, List.getElem?_cons_succ, List.getElem?_cons_zero, List.set_cons_succ, List.set_cons_zero]
  generalize mComp [17] (iItems1 (dTup (dCons (dC (.int 1)) (dCons (dC (.int 2)) (dCons (dC (.int 4)) (dCons (dC (.int 8)) (dCons (dC (.int 16)) dNil))))))) (gtN 17) bTrue (dBin eqS (dBin modD (dBin fdivD (dVar 5) (dVar 17)) (dC (.int 2))) (dC (.int 1))) = C at *
  rw [sAsg_ap, dM_ap, c, bnd_ok]
  rfl
@[simp] theorem ix_l4 (a b c d x : D) (l : List D) : ixD (.lst (a :: b :: c :: d :: x :: l)) (.int 4) = some x := by
  have : (4 : Int) < (l.length : Int) + 1 + 1 + 1 + 1 + 1 := by omega
  simp [ixD, atI, ixN, this]
section
variable {s : List D} {K : Nat} (hK : K ≤ 960000) (hp : potOk K s) {w : Int} (w1 : 1 ≤ w) (w3 : w ≤ 3) {ns : List Nt} (hns : nsOk w ns) (hne : ns ≠ []) {r : D} (hr : RuleP w ns 3 r) {vs : List Int} (hv : memOk w ns vs) {b : Nat → Bool} {o5 o7 o8 o9 o10 o11 o12 o13 o14 o15 o16 : Option Slot} {P : Po}
include hK hp
theorem rf3 (q : ∀ x s', ((b 0 = true → oddN x) ∧ (b 0 = false → x = .int w)) → potOk (K + 1) s' → P.nx (E20 s' w ns r vs o5 (some (.v (badL b))) (some (.v x)) o8 o9 o10 o11 o12 o13 o14 o15 o16)) :
    wS (rfS3 (E20 s w ns r vs o5 (some (.v (badL b))) o7 o8 o9 o10 o11 o12 o13 o14 o15 o16)) P := by
  unfold rfS3
  cases hb : b 0 with
  | false =>
    simp [hb]
    have := q (.int w) s ⟨fun h => (by rw [hb] at h; cases h), fun _ => rfl⟩ (hp.mono (by omega))
    simpa [hb] using this
  | true =>
    simp [hb]
    refine wR_take hp (by omega) (by omega) (by omega) fun i s' i0 i1 p => ?_
    simp
    refine wR_at i0 (by simpa using i1) fun x hx => ?_
    simp
    have hx2 : oddN x := by
      simp only [List.mem_cons, List.mem_nil_iff, or_false] at hx
      rcases hx with rfl | rfl | rfl | rfl
      all_goals exact ⟨rfl, by simp [betw], by simp⟩
    have := q x s' ⟨fun _ => hx2, fun h => (by rw [hb] at h; cases h)⟩ p
    simpa [hb] using this
include w1 w3 hns
theorem rf45 (hne : ns ≠ []) (q : ∀ x s' o8, ((b 1 = true → noNs w x) ∧ (b 1 = false → x = nsD ns)) → potOk (K + 1) s' → P.nx (E20 s' w ns r vs o5 (some (.v (badL b))) o7 o8 (some (.v x)) o10 o11 o12 o13 o14 o15 o16)) :
    wS ((sSeq rfS4 rfS5) (E20 s w ns r vs o5 (some (.v (badL b))) o7 o8 o9 o10 o11 o12 o13 o14 o15 o16)) P := by
  have n4 := hns.1
  have nok := hns.2
  have hL : ∀ x ∈ ns.map Nt.d, tameN 2 8 x := fun x hx => by
    obtain ⟨n, hn, rfl⟩ := List.mem_map.mp hx
    exact ⟨Nat.le_trans (nt_facts w1 (by omega) (nok n hn)).2.1 (by omega), lens_mono (by omega) _ (nt_lens n)⟩
  have lenL : (ns.map Nt.d).length ≤ 4 := by rw [List.length_map]; exact n4
  have lenP : 0 < (ns.map Nt.d).length := by
    rw [List.length_map]; exact List.length_pos_iff.mpr hne
  have cl : ∀ e, c1_mList (nsD ns) e = .ok (ns.map Nt.d) e := fun e => rfl
  have A1 : addD (nsD ns) (.tup [.non]) = some (.tup (ns.map Nt.d ++ [.non])) := add_tt _ _ (by simp; omega)
  have A2 : mulA (nsD ns) (.int 5) = some (.tup (List.replicate 5 (ns.map Nt.d)).flatten) := if_pos ⟨by omega, by omega, by omega⟩
  have N1 : noNs w (.lst (ns.map Nt.d)) := by
    have d := depL_leA fun x h => (hL x h).1
    refine ⟨.inl (by simp only [dep_l]; omega), ?_, rfl⟩
    simp only [lens, Bool.and_eq_true, decide_eq_true_eq]
    exact ⟨by omega, lensL_all fun x h => lens_mono (by omega) _ (hL x h).2⟩
  have N2 : noNs w (.tup (ns.map Nt.d ++ [.non])) := by
    refine noNs_tup (by rw [List.length_append]; simp only [List.length_cons, List.length_nil]; omega) (fun x hx => ?_) (.inr ⟨.non, List.mem_append_right _ (List.mem_singleton.mpr rfl), rfl⟩)
    rcases List.mem_append.mp hx with q | q
    · exact hL x q
    · rw [List.mem_singleton.mp q]; exact ⟨by simp, rfl⟩
  have N3 : noNs w .non := ⟨.inl (by simp), rfl, rfl⟩
  have lf : (List.replicate 5 (ns.map Nt.d)).flatten.length = 5 * (ns.map Nt.d).length := by
    rw [List.length_flatten]; simp; omega
  have N4 : noNs w (.tup (List.replicate 5 (ns.map Nt.d)).flatten) := by
    refine noNs_tup (by rw [lf]; omega) (fun x hx => ?_) (.inl (by rw [lf]; omega))
    obtain ⟨l, hl, hxl⟩ := List.mem_flatten.mp hx
    rw [List.eq_of_mem_replicate hl] at hxl
    exact hL x hxl
  generalize (List.replicate 5 (ns.map Nt.d)).flatten = U1 at *
  generalize ns.map Nt.d ++ [.non] = U2 at *
  generalize ns.map Nt.d = U3 at *
  unfold rfS4 rfS5
  cases hb : b 1 with
  | false =>
    simp [hb, -c1_mList_ap, cl, A1, A2]
    have := q (nsD ns) s (some (.m [.lst U3, .tup U2, .non, .tup U1])) ⟨fun h => (by rw [hb] at h; cases h), fun _ => rfl⟩ (hp.mono (by omega))
    simpa [hb] using this
  | true =>
    simp [hb, -c1_mList_ap, cl, A1, A2]
    refine wR_take hp (by omega) (by omega) (by omega) fun i s' i0 i1 p => ?_
    simp
    refine wR_at i0 (by simpa using i1) fun x hx => ?_
    simp
    have hx2 : noNs w x := by
      simp only [List.mem_cons, List.mem_nil_iff, or_false] at hx
      rcases hx with rfl | rfl | rfl | rfl <;> assumption
    have := q x s' (some (.m [.lst U3, .tup U2, .non, .tup U1])) ⟨fun _ => hx2, fun h => (by rw [hb] at h; cases h)⟩ p
    simpa [hb] using this
include hr
theorem rf678 (q : ∀ x s' o8 o10, ((b 2 = true → noRu w ns x) ∧ (b 2 = false → x = r)) → potOk (K + 1) s' → P.nx (E20 s' w ns r vs o5 (some (.v (badL b))) o7 o8 o9 o10 (some (.v x)) o12 o13 o14 o15 o16)) :
    wS ((sSeq rfS6 (sSeq rfS7 rfS8)) (E20 s w ns r vs o5 (some (.v (badL b))) o7 o8 o9 o10 o11 o12 o13 o14 o15 o16)) P := by
  have n4 := hns.1
  obtain ⟨hr1, hr2, hr3⟩ := hr
  have hr4 := ruleB_mono hr1
  have rl := lens_mono (show 8 ≤ 1000 by omega) _ hr3
  obtain ⟨k', e, t, ps, rfl, _⟩ := rule_shape hr1
  have hlen : lenD (nsD ns) = some (.int (ns.length : Int)) := by simp [nsD, lenD]
  have hl8 := (lens_tup hr3).1
  have cl : ∀ e, c1_mList (.tup (.str t :: ps)) e = .ok (.str t :: ps) e := fun e => rfl
  have A1 : addD (.tup (.str t :: ps)) (.tup [.int 0]) = some (.tup (.str t :: ps ++ [.int 0])) := add_tt _ _ (by simp at hl8 ⊢; omega)
  have ln : ∀ x, lens 1000 x = true → lens 1000 (.tup [.str "not", x]) = true := fun x h => by simp [lens, lensL, h]
  have N1 : noRu w ns (.tup [.str "not", .tup [.str "not", .tup [.str "not", .tup [.str "not", .tup (.str t :: ps)]]]]) := ⟨by simp at hr2 ⊢; omega, ln _ (ln _ (ln _ (ln _ rl))), by simp [ruleB, oneP]⟩
  have N2 : noRu w ns (.lst (.str t :: ps)) := ⟨by simp at hr2 ⊢; omega, rl, rfl⟩
  have N3 : noRu w ns (.tup (.str t :: ps ++ [.int 0])) := by
    refine ⟨?_, ?_, no_more hr4⟩
    · simp only [dep_t] at hr2 ⊢
      rw [appDep]; simp at hr2 ⊢; omega
    · have h1 := (lens_tup rl).2
      simp only [lens, Bool.and_eq_true, decide_eq_true_eq]
      refine ⟨by simp at hl8 ⊢; omega, lensL_all fun x hx => ?_⟩
      rcases List.mem_append.mp hx with q | q
      · exact h1 x q
      · rw [List.mem_singleton.mp q]; rfl
  have N4 : noRu w ns .non := ⟨by simp, rfl, rfl⟩
  have N5 : noRu w ns (.tup [.str "note", .int (ns.length : Int), .int 0, .int 0]) := by
    refine ⟨by simp, by simp [lens, lensL], ?_⟩
    have : ¬ (ns.length : Int) ≤ (ns.length : Int) - 1 := by omega
    simp [ruleB, threeP, spanB, this]
  generalize .str t :: ps ++ [.int 0] = U1 at *
  have hcl : ∀ e, c1_mList (.tup (.str t :: ps)) e = .ok (.str t :: ps) e := cl
  generalize hX : (.str t :: ps : List D) = X at *
  unfold rfS6 rfS7 rfS8
  cases hb : b 2 with
  | false =>
    simp [hb, -c1_mList_ap, cl, A1, hlen]
    have := q (.tup X) s (some (.m [.tup [.str "not", .tup [.str "not", .tup [.str "not", .tup [.str "not", .tup X]]]], .lst X, .tup U1, .non, .tup [.str "note", .int (ns.length : Int), .int 0, .int 0]])) (some (.v (.tup [.str "not", .tup [.str "not", .tup [.str "not", .tup [.str "not", .tup X]]]]))) ⟨fun h => (by rw [hb] at h; cases h), fun _ => rfl⟩ (hp.mono (by omega))
    simpa [hb] using this
  | true =>
    simp [hb, -c1_mList_ap, cl, A1, hlen]
    refine wR_take hp (by omega) (by omega) (by omega) fun i s' i0 i1 p => ?_
    simp
    refine wR_at i0 (by simpa using i1) fun x hx => ?_
    simp
    have hx2 : noRu w ns x := by
      simp only [List.mem_cons, List.mem_nil_iff, or_false] at hx
      rcases hx with rfl | rfl | rfl | rfl | rfl <;> assumption
    have := q x s' (some (.m [.tup [.str "not", .tup [.str "not", .tup [.str "not", .tup [.str "not", .tup X]]]], .lst X, .tup U1, .non, .tup [.str "note", .int (ns.length : Int), .int 0, .int 0]])) (some (.v (.tup [.str "not", .tup [.str "not", .tup [.str "not", .tup [.str "not", .tup X]]]]))) ⟨fun _ => hx2, fun h => (by rw [hb] at h; cases h)⟩ p
    simpa [hb] using this
end
end DL
end

section
set_option Elab.async false
set_option linter.all false
set_option maxRecDepth 100000
/-! L8 (law k04): what is refused, the whole. -/
namespace DL
open PySem PySem.Spec PyProof.Rows L2
section
variable {s : List D} {K : Nat} (hK : K ≤ 960000) (hp : potOk K s) {w : Int} (w1 : 1 ≤ w) (w3 : w ≤ 3) {ns : List Nt} (hns : nsOk w ns) {r : D} {vs : List Int} (hv : memOk w ns vs) {b : Nat → Bool} {o5 o7 o8 o9 o10 o11 o12 o13 o14 o15 o16 : Option Slot} {P : Po}
include hK hp w1 w3 hns hv
theorem rf9 (hne : ns ≠ []) (q : ∀ x s' o8 o12, ((b 3 = true → noMe w ns x) ∧ (b 3 = false → x = .tup (intL vs))) → potOk (K + 1) s' → P.nx (E20 s' w ns r vs o5 (some (.v (badL b))) o7 o8 o9 o10 o11 o12 (some (.v x)) o14 o15 o16)) :
    wS ((sSeq rfS9 (sSeq rfS10 (sSeq rfS11 rfS12))) (E20 s w ns r vs o5 (some (.v (badL b))) o7 o8 o9 o10 o11 o12 o13 o14 o15 o16)) P := by
  have n4 := hns.1
  have hvl := hv.length
  have dV := depL_int vs
  have lV : (intL vs).length = vs.length := intL_len vs
  have pos : 0 < ns.length := List.length_pos_iff.mpr hne
  obtain ⟨T, eT, lT, dT, n, ns', en, mn1, mn4⟩ : ∃ T, (∃ v, intL vs = v :: T) ∧ T.length + 1 = ns.length ∧ depL T = 0 ∧ ∃ n ns', ns = n :: ns' ∧ 1 ≤ n.most w ∧ n.most w ≤ 4 := by
    cases hv with
    | nil => exact absurd rfl hne
    | @cons n v ns' us q1 q2 =>
      have := most_bd w1 w3 (hns.2 n (List.mem_cons_self ..))
      exact ⟨intL us, ⟨.int v, rfl⟩, by rw [intL_len, ← q2.length]; rfl, depL_int us, n, ns', rfl, this.1, this.2⟩
  obtain ⟨U, m, ns2, en2, eU, lU, dU, mm1, mm4⟩ : ∃ U m ns2, ns = ns2 ++ [m] ∧ (∃ v, intL vs = U ++ [v]) ∧ U.length = ns2.length ∧ depL U = 0 ∧ 1 ≤ m.most w ∧ m.most w ≤ 4 := by
    have e1 := List.dropLast_concat_getLast hne
    have hvne : vs ≠ [] := fun e => by rw [e, List.length_nil] at hvl; omega
    have e2 := List.dropLast_concat_getLast hvne
    have := most_bd w1 w3 (hns.2 _ (List.getLast_mem hne))
    refine ⟨intL vs.dropLast, ns.getLast hne, ns.dropLast, e1.symm, ⟨.int (vs.getLast hvne), ?_⟩, ?_, depL_int _, this.1, this.2⟩
    · rw [← (show intL (vs.dropLast ++ [vs.getLast hvne]) = intL vs from congrArg intL e2)]
      unfold intL
      rw [List.map_append]; rfl
    · rw [intL_len, List.length_dropLast, List.length_dropLast]; omega
  obtain ⟨v1, eT⟩ := eT
  obtain ⟨v2, eU⟩ := eU
  have S1 : slD (.tup (intL vs)) (some 1) none = some (.tup T) := by
    simp only [slD]; rw [eT, cut_1]
  have S2 : slD (.tup (intL vs)) none (some (-1)) = some (.tup U) := by
    simp only [slD]; rw [eU, cut_m1]
  have A1 : addD (.tup (intL vs)) (.tup [.int 0]) = some (.tup (intL vs ++ [.int 0])) := add_tt _ _ (by simp; omega)
  have A2 : ∀ x, addD (.tup [x]) (.tup T) = some (.tup (x :: T)) := fun x => add_tt _ _ (by simp; omega)
  have A3 : ∀ x, addD (.tup U) (.tup [x]) = some (.tup (U ++ [x])) := fun x => add_tt _ _ (by rw [en2] at n4; simp at n4 ⊢; omega)
  have cl : ∀ e, c1_mList (.tup (intL vs)) e = .ok (intL vs) e := fun e => rfl
  have N1 : noMe w ns (.tup (intL vs ++ [.int 0])) := ⟨by simp only [dep_t]; rw [appDep]; have : depL (intL vs) = 0 := dV; simp [this], memB_len (by simp; omega)⟩
  have N2 : noMe w ns (.tup T) := ⟨by simp only [dep_t]; omega, memB_len (by omega)⟩
  have N3 : noMe w ns (.lst (intL vs)) := ⟨by simp only [dep_l]; have : depL (intL vs) = 0 := dV; omega, rfl⟩
  have NT : ∀ x, dep x = 0 → betw x 0 (n.most w) = false → noMe w ns (.tup (x :: T)) := fun x h1 h2 => ⟨by simp only [dep_t, depL_c]; omega, by rw [en]; exact memB_fst h2⟩
  have NU : ∀ x, dep x = 0 → betw x 0 (m.most w) = false → noMe w ns (.tup (U ++ [x])) := fun x h1 h2 => ⟨by simp only [dep_t]; rw [appDep]; simp only [depL_c, depL_n]; omega, by rw [en2]; exact memB_lst lU h2⟩
  have N4 := NT (.int (-1)) (by simp) (by simp [betw])
  have N5 := NT (.bl true) (by simp) rfl
  have N6 := NT (.int 5) (by simp) (by have : ¬ 5 ≤ n.most w := by omega
                                       simp [betw, this])
  have N7 : noMe w ns .non := ⟨by simp, rfl⟩
  have N8 := NU (.int (-1)) (by simp) (by simp [betw])
  have N9 := NU (.int 9) (by simp) (by have : ¬ 9 ≤ m.most w := by omega
                                       simp [betw, this])
  have N10 := NU (.bl true) (by simp) rfl
  have N11 := NU .non (by simp) rfl
  have q2 : ∀ x s' o8 o12, ((b 3 = true → noMe w ns x) ∧ (b 3 = false → x = .tup (intL vs))) → potOk (K + 1) s' → P.nx [some (.m s'), some (.v (.int w)), some (.v (nsD ns)), some (.v r), some (.v (.tup (intL vs))), o5, some (.v (badL b)), o7, o8, o9, o10, o11, o12, some (.v x), o14, o15, o16, none, none, none] := q
  simp only [E20]
  generalize intL vs ++ [.int 0] = V1 at *
  generalize intL vs = V at *
  unfold rfS9 rfS10 rfS11 rfS12
  cases hb : b 3 with
  | false =>
    simp [hb, -c1_mList_ap, cl, S1, S2, A1, A2, A3, negD, forL, itemsD]
    have := q2 (.tup V) s (some (.m [.tup V1, .tup T, .lst V, .tup (.int (-1) :: T), .tup (.bl true :: T), .tup (.int 5 :: T), .non, .tup (U ++ [.int (-1)]), .tup (U ++ [.int 9]), .tup (U ++ [.bl true]), .tup (U ++ [.non])])) (some (.v .non)) ⟨fun h => (by rw [hb] at h; cases h), fun _ => rfl⟩ (hp.mono (by omega))
    simpa [hb] using this
  | true =>
    simp [hb, -c1_mList_ap, cl, S1, S2, A1, A2, A3, negD, forL, itemsD]
    refine wR_take hp (by omega) (by omega) (by omega) fun i s' i0 i1 p => ?_
    simp
    refine wR_at i0 (by simpa using i1) fun x hx => ?_
    simp
    have hx2 : noMe w ns x := by
      simp only [List.mem_cons, List.mem_nil_iff, or_false] at hx
      rcases hx with rfl | rfl | rfl | rfl | rfl | rfl | rfl | rfl | rfl | rfl | rfl <;> assumption
    have := q2 x s' (some (.m [.tup V1, .tup T, .lst V, .tup (.int (-1) :: T), .tup (.bl true :: T), .tup (.int 5 :: T), .non, .tup (U ++ [.int (-1)]), .tup (U ++ [.int 9]), .tup (U ++ [.bl true]), .tup (U ++ [.non])])) (some (.v .non)) ⟨fun _ => hx2, fun h => (by rw [hb] at h; cases h)⟩ p
    simpa [hb] using this
omit hns hv in
theorem rf1314 (q : ∀ x s', ((b 4 = true → noWa w x) ∧ (b 4 = false → ∃ i : Int, x = .int i ∧ 0 ≤ i ∧ i < w)) → potOk (K + 2) s' → P.nx (E20 s' w ns r vs o5 (some (.v (badL b))) o7 o8 o9 o10 o11 o12 o13 (some (.v x)) o15 o16)) :
    wS ((sSeq rfS13 rfS14) (E20 s w ns r vs o5 (some (.v (badL b))) o7 o8 o9 o10 o11 o12 o13 o14 o15 o16)) P := by
  unfold rfS13 rfS14
  simp
  refine wR_take hp (by omega) (by omega) (by omega) fun i s' i0 i1 p => ?_
  cases hb : b 4 with
  | false =>
    simp [hb]
    have := q (.int i) s' ⟨fun h => (by rw [hb] at h; cases h), fun _ => ⟨i, rfl, i0, i1⟩⟩ (p.mono (by omega))
    simpa [hb] using this
  | true =>
    simp [hb, negD]
    refine wR_take p (by omega) (by omega) (by omega) fun j s2 j0 j1 p2 => ?_
    simp
    refine wR_at j0 (by simpa using j1) fun x hx => ?_
    simp
    have hx2 : noWa w x := by
      simp only [List.mem_cons, List.mem_nil_iff, or_false] at hx
      rcases hx with rfl | rfl | rfl | rfl | rfl
      · exact ⟨rfl, by have : ¬ w ≤ w - 1 := by omega
                       simp [betw, this]⟩
      · exact ⟨rfl, by simp [betw]⟩
      · exact ⟨rfl, rfl⟩
      · exact ⟨rfl, rfl⟩
      · exact ⟨rfl, rfl⟩
    have := q x s2 ⟨fun _ => hx2, fun h => (by rw [hb] at h; cases h)⟩ p2
    simpa [hb] using this
end
def dueW (b : Nat → Bool) : Str := if b 0 = true then "number" else if b 1 = true then "note" else if b 2 = true then "rule" else if b 3 = true then "memory" else if b 4 = true then "walker" else "told"
def tickB : D → Bool
  | .tup [_, .bl b] => b
  | _ => false
abbrev wordsL : D := .lst [.str "number", .str "note", .str "rule", .str "memory", .str "walker"]
abbrev dueC : Env → R (List D) := mComp [18, 19] (iZip2 (dVar 15) (dVar 6)) (gtSeq 2 (gtCons (gtN 18) (gtCons (gtN 19) gtNil))) (dTruth (dVar 19)) (dVar 18)
theorem due_at (b : Nat → Bool) : ixD (.lst ((([.tup [.str "number", .bl (b 0)], .tup [.str "note", .bl (b 1)], .tup [.str "rule", .bl (b 2)], .tup [.str "memory", .bl (b 3)], .tup [.str "walker", .bl (b 4)]] : List D).filter tickB).map fstD ++ [.str "told"])) (.int 0) = some (.str (dueW b)) := by
  unfold dueW
  generalize b 0 = b0
  generalize b 1 = b1
  generalize b 2 = b2
  generalize b 3 = b3
  generalize b 4 = b4
  cases b0 <;> cases b1 <;> cases b2 <;> cases b3 <;> cases b4 <;> rfl
theorem due_len (b : Nat → Bool) : ((([.tup [.str "number", .bl (b 0)], .tup [.str "note", .bl (b 1)], .tup [.str "rule", .bl (b 2)], .tup [.str "memory", .bl (b 3)], .tup [.str "walker", .bl (b 4)]] : List D).filter tickB).map fstD).length ≤ 5 := by
  rw [List.length_map]
  exact List.length_filter_le ..
theorem rf1516 {s : List D} {w : Int} {ns : List Nt} {r : D} {vs : List Int} {b : Nat → Bool} {o5 o7 o8 o9 o10 o11 o12 o13 o14 o15 o16 : Option Slot} :
    (sSeq rfS15 rfS16) (E20 s w ns r vs o5 (some (.v (badL b))) o7 o8 o9 o10 o11 o12 o13 o14 o15 o16) = .nx (E20 s w ns r vs o5 (some (.v (badL b))) o7 o8 o9 o10 o11 o12 o13 o14 (some (.v wordsL)) (some (.v (.str (dueW b))))) := by
  have c : dueC (E20 s w ns r vs o5 (some (.v (badL b))) o7 o8 o9 o10 o11 o12 o13 o14 (some (.v wordsL)) o16) = .ok ((([.tup [.str "number", .bl (b 0)], .tup [.str "note", .bl (b 1)], .tup [.str "rule", .bl (b 2)], .tup [.str "memory", .bl (b 3)], .tup [.str "walker", .bl (b 4)]] : List D).filter tickB).map fstD) (E20 s w ns r vs o5 (some (.v (badL b))) o7 o8 o9 o10 o11 o12 o13 o14 (some (.v wordsL)) o16) := by
    refine mComp_filter tickB fstD (by simp [itemsD]; rfl) rfl (by simp) rfl rfl fun d hd => ?_
    simp only [List.mem_cons, List.mem_nil_iff, or_false] at hd
    rcases hd with rfl | rfl | rfl | rfl | rfl
    all_goals exact ⟨_, rfl, by simp [tickB], fun _ => by simp [fstD], rfl⟩
  have d1 := due_at b
  have d2 := due_len b
  generalize (([.tup [.str "number", .bl (b 0)], .tup [.str "note", .bl (b 1)], .tup [.str "rule", .bl (b 2)], .tup [.str "memory", .bl (b 3)], .tup [.str "walker", .bl (b 4)]] : List D).filter tickB).map fstD = L at *
  have d3 : L.length ≤ 16777215 := by omega
  unfold rfS15
  rw [show rfS16 = sAsg (dBin ixD (dM (mCat (dM dueC) (dM (mLst (dCons (dC (.str "told")) dNil))))) (dC (.int 0))) (gtN 16) from rfl]
  generalize dueC = C at *
  simp [c, d1, d3]
abbrev lamL : Env → R D := dLam f__law_word 3 (dCall F_lets_by [none, none, none, none, none] (dCons (dVar 7) (dCons (dVar 9) (dCons (dVar 11) (dCons (dVar 13) (dCons (dVar 14) dNil))))))
theorem lam_due {s : List D} {w : Int} (w1 : 1 ≤ w) (w3 : w ≤ 3) {ns : List Nt} (hns : nsOk w ns) {r : D} (hr : RuleP w ns 3 r) {vs : List Int} (hv : memOk w ns vs) {b : Nat → Bool} {o5 o8 o10 o12 o15 o16 : Option Slot} {x7 x9 x11 x13 x14 : D}
    (h7 : (b 0 = true → oddN x7) ∧ (b 0 = false → x7 = .int w)) (h9 : (b 1 = true → noNs w x9) ∧ (b 1 = false → x9 = nsD ns)) (h11 : (b 2 = true → noRu w ns x11) ∧ (b 2 = false → x11 = r)) (h13 : (b 3 = true → noMe w ns x13) ∧ (b 3 = false → x13 = .tup (intL vs))) (h14 : (b 4 = true → noWa w x14) ∧ (b 4 = false → ∃ i : Int, x14 = .int i ∧ 0 ≤ i ∧ i < w)) :
    lamL (E20 s w ns r vs o5 (some (.v (badL b))) (some (.v x7)) o8 (some (.v x9)) o10 (some (.v x11)) o12 (some (.v x13)) (some (.v x14)) o15 o16) = .ok (.str (dueW b)) (E20 s w ns r vs o5 (some (.v (badL b))) (some (.v x7)) o8 (some (.v x9)) o10 (some (.v x11)) o12 (some (.v x13)) (some (.v x14)) o15 o16) := by
  have l := lam5 (F := F_lets_by) (i := 7) (j := 9) (k := 11) (l := 13) (m := 14) (E := hideE (E20 s w ns r vs o5 (some (.v (badL b))) (some (.v x7)) o8 (some (.v x9)) o10 (some (.v x11)) o12 (some (.v x13)) (some (.v x14)) o15 o16)) (a := x7) (b := x9) (c := x11) (d := x13) (x := x14) rfl rfl rfl rfl rfl
  unfold dueW
  have r4 := ruleB_mono hr.1
  have rl := lens_mono (show 8 ≤ 1000 by omega) _ hr.2.2
  have rd : dep r ≤ 60 := by have := hr.2.1; omega
  cases q0 : b 0 with
  | true =>
    obtain ⟨a1, a2, a3⟩ := h7.1 q0
    rw [by_num x7 a1 a2, kF_exc] at l
    exact word_number l a3
  | false =>
    have e7 := h7.2 q0
    subst e7
    cases q1 : b 1 with
    | true =>
      obtain ⟨a1, a2, a3⟩ := h9.1 q1
      rw [by_note w1 w3 x9 a1 a2 a3, kF_exc] at l
      exact word_ref cl_NoNote "note" (.inl ⟨rfl, rfl⟩) l
    | false =>
      have e9 := h9.2 q1
      subst e9
      cases q2 : b 2 with
      | true =>
        obtain ⟨a1, a2, a3⟩ := h11.1 q2
        rw [by_rule w1 w3 hns a1 a2 a3, kF_exc] at l
        exact word_ref cl_NoRule "rule" (.inr (.inl ⟨rfl, rfl⟩)) l
      | false =>
        have e11 := h11.2 q2
        subst e11
        cases q3 : b 3 with
        | true =>
          obtain ⟨a1, a2⟩ := h13.1 q3
          rw [by_mem w1 w3 hns rd rl r4 a1 a2, kF_exc] at l
          exact word_ref cl_NoMemory "memory" (.inr (.inr (.inl ⟨rfl, rfl⟩))) l
        | false =>
          have e13 := h13.2 q3
          subst e13
          cases q4 : b 4 with
          | true =>
            obtain ⟨a1, a2⟩ := h14.1 q4
            rw [by_walker w1 w3 hns rd rl r4 hv a1 a2, kF_exc] at l
            exact word_ref cl_NoWalker "walker" (.inr (.inr (.inr ⟨rfl, rfl⟩))) l
          | false =>
            obtain ⟨i, rfl, i0, i1⟩ := h14.2 q4
            rw [by_ok w1 w3 hns rd rl r4 hv i0 i1, kF_ok, kD_v, opt_some] at l
            exact word_told l (by simp)
end DL
end

section
set_option Elab.async false
set_option linter.all false
set_option maxRecDepth 100000
/-! L9 (law k04): the whole. -/
namespace DL
open PySem PySem.Spec PyProof.Rows L2
theorem sSeq_assoc (a b c : Env → RS) : sSeq (sSeq a b) c = sSeq a (sSeq b c) := by
  funext e
  show sq (sq (a e) b) c = sq (a e) (fun e => sq (b e) c)
  cases a e <;> rfl
theorem refused_sp {w : Int} (w1 : 1 ≤ w) (w3 : w ≤ 3) {ns : List Nt} (hns : nsOk w ns) (hne : ns ≠ []) {r : D} (hr : RuleP w ns 3 r) {K : Nat} {ds : List D} (hK : K ≤ 950000) (h : potOk K ds) :
    wF (F__law_refused_right [.m ds, .v (.int w), .v (nsD ns), .v r]) (fun s o => ∃ ds', s = .v (.bl true) ∧ o = [ds'] ∧ potOk (K + 100) ds') := by
  have hf : f__law_refused_right = sSeq rfS0 (sSeq rfS1 (sSeq rfS2 (sSeq rfS3 (sSeq (sSeq rfS4 rfS5) (sSeq (sSeq rfS6 (sSeq rfS7 rfS8)) (sSeq (sSeq rfS9 (sSeq rfS10 (sSeq rfS11 rfS12))) (sSeq (sSeq rfS13 rfS14) (sSeq (sSeq rfS15 rfS16) rfS17)))))))) := by
    rw [rf_form]
    simp only [sSeq_assoc]
  unfold F__law_refused_right
  rw [wF_fin, hf]
  rw [show startE 20 [.m ds, .v (.int w), .v (nsD ns), .v r] = [some (.m ds), some (.v (.int w)), some (.v (nsD ns)), some (.v r), none, none, none, none, none, none, none, none, none, none, none, none, none, none, none, none] from rfl]
  rw [sSeq_ap, wS_sq]
  have me := mems_sp w1 w3 hns (K := K) (by omega) h
  have g3 := fun (s : List D) hp (vs : List Int) (b : Nat → Bool) o5 o7 o8 o9 o10 o11 o12 o13 o14 o15 o16 P q => rf3 (K := K + 40) (by omega) (s := s) hp (w := w) (ns := ns) (r := r) (vs := vs) (b := b) (o5 := o5) (o7 := o7) (o8 := o8) (o9 := o9) (o10 := o10) (o11 := o11) (o12 := o12) (o13 := o13) (o14 := o14) (o15 := o15) (o16 := o16) (P := P) q
  unfold rfS0
  simp
  refine wR_call me fun z o ⟨ms, s1, h1, h2, hl, hm, p1⟩ => ?_
  subst h1 h2
  simp
  refine wR_take p1 (by omega) (by omega) (by omega) fun i s2 i0 i1 p2 => ?_
  simp
  refine wR_at i0 (by rw [List.length_map, hl]; exact i1) fun d hd => ?_
  obtain ⟨vs, hvm, rfl⟩ := List.mem_map.mp hd
  have hv := hm vs hvm
  simp
  unfold rfS1
  simp
  refine wR_take p2 (by omega) (by omega) (by omega) fun z s3 z0 z1 p3 => ?_
  obtain ⟨b, hb⟩ := bad_eq z
  have hb := hb s3 w ns r vs
  simp only [E20] at hb
  simp only [kBS_ap, c1_sAsg_ap, gtN_ap, sO_some, wS_nx, kSq_nx, kNx_ap, List.set_cons_succ, List.set_cons_zero]
  rw [sSeq_ap, wS_sq, hb, wS_nx, kSq_nx, kNx_ap, sSeq_ap, wS_sq]
  refine rf3 (K := K + 40) (by omega) (p3.mono (by omega)) fun x7 s4 h7 p4 => ?_
  rw [kSq_nx, kNx_ap, sSeq_ap, wS_sq]
  refine rf45 (by omega) p4 w1 w3 hns hne fun x9 s5 o8 h9 p5 => ?_
  rw [kSq_nx, kNx_ap, sSeq_ap, wS_sq]
  refine rf678 (by omega) p5 w1 w3 hns hr fun x11 s6 o8 o10 h11 p6 => ?_
  rw [kSq_nx, kNx_ap, sSeq_ap, wS_sq]
  refine rf9 (by omega) p6 w1 w3 hns hv hne fun x13 s7 o8 o12 h13 p7 => ?_
  rw [kSq_nx, kNx_ap, sSeq_ap, wS_sq]
  refine rf1314 (by omega) p7 w1 w3 fun x14 s8 h14 p8 => ?_
  rw [kSq_nx, kNx_ap, sSeq_ap, wS_sq, rf1516, wS_nx, kSq_nx, kNx_ap]
  have l := lam_due (s := s8) w1 w3 hns hr hv (b := b) (o5 := some (.v (.int z))) (o8 := o8) (o10 := o10) (o12 := o12) (o15 := some (.v wordsL)) (o16 := some (.v (.str (dueW b)))) h7 h9 h11 h13 h14
  rw [show rfS17 = sRet (dBin eqS lamL (dVar 16)) from rfl]
  simp only [E20] at l ⊢
  generalize lamL = L at *
  simp [l]
  exact p8.mono (by omega)
def c4S0 : Env → RS := (sAsgM 3 (mCall F__law_pot [none, none] (dCons (dVar 1) (dCons (dVar 2) dNil))))
def c4S1 : Env → RS := (sAsg (dBin addD (dC (.int 1)) (dCall F__law_take [some 3, none] (dMk 3 (dCons (dC (.int 3)) dNil)))) (gtN 4))
def c4S2 : Env → RS := (sAsg (dCal (on1 tupD) (dCons (dM (mComp [8] (iRange1 (dBin addD (dC (.int 1)) (dCall F__law_take [some 3, none] (dMk 3 (dCons (dC (.int 4)) dNil))))) (gtN 8) bTrue (dCall F__law_note [some 3, none] (dMk 3 (dCons (dVar 4) dNil))))) dNil)) (gtN 5))
def c4S3 : Env → RS := (sAsg (dM (mComp [8] (iRange1 (dC (.int 3))) (gtN 8) bTrue (dCall (F__law_rule 16) [some 3, none, none, none] (dMk 3 (dCons (dVar 4) (dCons (dVar 5) (dCons (dC (.int 3)) dNil))))))) (gtN 6))
def c4B4 : Env → RS := (sIf (bNot (dTruth (dCall F__law_rule_right [some 3, none, none, none, none] (dMk 3 (dCons (dVar 4) (dCons (dVar 5) (dCons (dBin ixD (dVar 6) (dVar 7)) (dCons (dBin ixD (dVar 6) (dBin subD (dVar 7) (dC (.int 1)))) dNil)))))))) (sRet (dC (.bl false))) sNx)
def c4B5 : Env → RS := (sIf (bNot (dTruth (dCall F__law_refused_right [some 3, none, none, none] (dMk 3 (dCons (dVar 4) (dCons (dVar 5) (dCons (dBin ixD (dVar 6) (dBin modD (dVar 8) (dC (.int 3)))) dNil))))))) (sRet (dC (.bl false))) sNx)
def cell4 : Env → RS := sSeq c4S0 (sSeq c4S1 (sSeq c4S2 (sSeq c4S3 (sSeq (sFor (iRange1 (dC (.int 3))) (gtN 7) c4B4) (sFor (iRange1 (dC (.int 6))) (gtN 8) c4B5)))))
def law4S0 : Env → RS := (sAsg (dCall F__law_folded [none, none] (dCons (dVar 0) (dCons (dC (.int 6)) dNil))) (gtN 1))
theorem f_law_eq : f_law = sSeq law4S0 (sSeq (sFor (iRange1 (dCal (on2 max2D) (dCons (dC (.int 1)) (dCons (dCal (on1 lenD) (dCons (dVar 1) dNil)) dNil)))) (gtN 2) cell4) (sRet (dC (.bl true)))) := rfl
abbrev E9l (x0 x1 x2 : D) (o3 o4 o5 o6 o7 o8 : Option Slot) : Env := [some (.v x0), some (.v x1), some (.v x2), o3, o4, o5, o6, o7, o8]
theorem notes8 {x0 x1 x2 : D} {s : List D} {w : Int} (w1 : 1 ≤ w) (w3 : w ≤ 3) {o5 o6 o7 o8 : Option Slot} {K : Nat} (hK : K ≤ 900000) (h : potOk K s) {m : Int} (m0 : 1 ≤ m) (m4 : m ≤ 4) {Q : List D → Env → Prop} (n8 : noM (E9l x0 x1 x2 (some (.m s)) (some (.v (.int w))) o5 o6 o7 o8) 8 = true)
    (q : ∀ (ns : List Nt) s', nsOk w ns → ns ≠ [] → potOk (K + 24) s' → Q (ns.map Nt.d) (E9l x0 x1 x2 (some (.m s')) (some (.v (.int w))) o5 o6 o7 o8)) :
    kCo [8] (gtN 8) bTrue (dCall F__law_note [some 3, none] (dMk 3 (dCons (dVar 4) dNil))) Q (rangeL 0 m.toNat) (E9l x0 x1 x2 (some (.m s)) (some (.v (.int w))) o5 o6 o7 o8) := by
  have hl0 : (rangeL 0 m.toNat).length = m.toNat := rangeL_length ..
  refine comp_go (I := fun (i : Nat) (acc : List D) (e : Env) => ∃ s' : List D, (∃ ns : List Nt, acc = ns.map Nt.d ∧ ns.length = i ∧ ∀ n ∈ ns, n.ok w) ∧ e = E9l x0 x1 x2 (some (.m s')) (some (.v (.int w))) o5 o6 o7 none ∧ potOk (K + 6 * i) s') (by simp only [List.all_cons, List.all_nil, n8]; rfl) (by omega) ⟨s, ⟨[], rfl, rfl, fun x hx => by cases hx⟩, rfl, h⟩ ?_ ?_
  · intro i d acc e hd hI
    obtain ⟨s', ⟨ns, rfl, ha, hb⟩, rfl, hp⟩ := hI
    obtain ⟨hi, rfl⟩ := rangeL_get hd
    refine ⟨_, rfl, ?_⟩
    simp
    refine wR_call (note_t (K := K + 6 * i) (by omega) hp w w1 w3) fun z o ⟨n, s2, e1, e2, hn, p2⟩ => ?_
    subst e1 e2
    simp
    refine ⟨⟨ns ++ [n], by simp, by simp [ha], fun x hx => ?_⟩, s2, rfl, p2.mono (by omega)⟩
    rcases List.mem_append.mp hx with hx | hx
    · exact hb x hx
    · rw [List.mem_singleton.mp hx]; exact hn
  · intro r e hI
    obtain ⟨s', ⟨ns, rfl, ha, hb⟩, rfl, hp⟩ := hI
    rw [hl0] at ha hp
    exact q ns s' ⟨by omega, hb⟩ (fun e => by rw [e, List.length_nil] at ha; omega) (hp.mono (by omega))
theorem rules8 {x0 x1 x2 : D} {s : List D} {w : Int} (w1 : 1 ≤ w) (w3 : w ≤ 3) {ns : List Nt} (hns : nsOk w ns) {o6 o7 o8 : Option Slot} {K : Nat} (hK : K ≤ 900000) (h : potOk K s) {Q : List D → Env → Prop} (n8 : noM (E9l x0 x1 x2 (some (.m s)) (some (.v (.int w))) (some (.v (nsD ns))) o6 o7 o8) 8 = true)
    (q : ∀ (rs : List D) s', rs.length = 3 → (∀ r ∈ rs, RuleP w ns 3 r) → potOk (K + 810) s' → Q rs (E9l x0 x1 x2 (some (.m s')) (some (.v (.int w))) (some (.v (nsD ns))) o6 o7 o8)) :
    kCo [8] (gtN 8) bTrue (dCall (F__law_rule 16) [some 3, none, none, none] (dMk 3 (dCons (dVar 4) (dCons (dVar 5) (dCons (dC (.int 3)) dNil))))) Q (rangeL 0 3) (E9l x0 x1 x2 (some (.m s)) (some (.v (.int w))) (some (.v (nsD ns))) o6 o7 o8) := by
  have c3 : cR 3 = 270 := rfl
  refine comp_go (I := fun (i : Nat) (acc : List D) (e : Env) => ∃ s' : List D, (acc.length = i ∧ ∀ r ∈ acc, RuleP w ns 3 r) ∧ e = E9l x0 x1 x2 (some (.m s')) (some (.v (.int w))) (some (.v (nsD ns))) o6 o7 none ∧ potOk (K + 270 * i) s') (by simp only [List.all_cons, List.all_nil, n8]; rfl) (by decide) ⟨s, ⟨rfl, fun x hx => by cases hx⟩, rfl, h⟩ ?_ ?_
  · intro i d acc e hd hI
    obtain ⟨s', ⟨ha, hb⟩, rfl, hp⟩ := hI
    obtain ⟨hi, rfl⟩ := rangeL_get hd
    refine ⟨_, rfl, ?_⟩
    have rs := rule_sp w1 w3 hns 3 16 (K + 270 * i) s' (by omega) (by omega) (by omega) hp
    rw [show ((3 : Nat) : Int) = 3 from rfl] at rs
    simp
    refine wR_call rs fun z o ⟨r, s2, e1, e2, hr, p2⟩ => ?_
    subst e1 e2
    simp
    refine ⟨⟨ha, fun x hx => ?_⟩, s2, rfl, p2.mono (by omega)⟩
    rcases hx with hx | hx
    · exact hb x hx
    · rw [hx]; exact hr
  · intro r e hI
    obtain ⟨s', ⟨ha, hb⟩, rfl, hp⟩ := hI
    exact q r s' ha hb hp
theorem at_neg {l : List D} {d : D} (h : l.length = 3) : ∃ d ∈ l, ixD (.lst l) (.int (-1)) = some d := by
  rcases l with _ | ⟨a, _ | ⟨b, _ | ⟨c, _ | ⟨d, r⟩⟩⟩⟩ <;> simp at h
  exact ⟨c, by simp, rfl⟩
theorem cell4_sp {x0 : D} (ms : List Int) (k : Nat) (hk : k < 1000) {o3 o4 o5 o6 o7 o8 : Option Slot} (n8 : ∀ m, o8 ≠ some (.m m)) {P : Po}
    (h : ∀ o3 o4 o5 o6 o7 o8, (∀ m, o8 ≠ some (.m m)) → P.nx (E9l x0 (.lst (intL ms)) (.int (k : Int)) o3 o4 o5 o6 o7 o8)) :
    wS (cell4 (E9l x0 (.lst (intL ms)) (.int (k : Int)) o3 o4 o5 o6 o7 o8)) P := by
  obtain ⟨s0, h0, p0⟩ := pot_eq ms k hk
  generalize intL ms = ims at *
  have n8b : ∀ x0 x1 x2 o3 o4 o5 o6 o7, noM (E9l x0 x1 x2 o3 o4 o5 o6 o7 o8) 8 = true := fun x0 x1 x2 o3 o4 o5 o6 o7 => by
    cases o8 with
    | none => rfl
    | some z => cases z with
      | v z => rfl
      | m z => exact absurd rfl (n8 z)
  have w6 : wide62 6 = true := by decide
  have w33 : wide62 3 = true := by decide
  unfold cell4
  rw [sSeq_ap, wS_sq]
  unfold c4S0
  simp [h0]
  unfold c4S1
  simp
  refine wR_take p0 (by omega) (by omega) (by omega) fun i1 s1 a1 b1 p1 => ?_
  simp
  have w1 : 1 ≤ 1 + i1 := by omega
  have w3 : 1 + i1 ≤ 3 := by omega
  generalize 1 + i1 = w at *
  unfold c4S2
  simp
  refine wR_take p1 (by omega) (by omega) (by omega) fun i2 s2 a2 b2 p2 => ?_
  have wm : wide62 (1 + i2) = true := wide_i (by omega) (by omega)
  simp [wm]
  refine notes8 w1 w3 (by omega) p2 (by omega) (by omega) (n8b ..) fun ns s3 hns hne p3 => ?_
  simp [tupD]
  have eN : D.tup (ns.map Nt.d) = nsD ns := rfl
  rw [eN]
  unfold c4S3
  simp [w33]
  refine rules8 w1 w3 hns (by omega) p3 (n8b ..) fun rs s4 hl hr p4 => ?_
  simp [w33, w6]
  have rr := fun {r ot : D} (h1 : r ∈ rs) (h2 : ot ∈ rs) {K : Nat} {ds : List D} hK h => rr_sp w1 w3 hns (hr r h1) (hr ot h2) (K := K) (ds := ds) hK h
  have rf := fun {r : D} (h1 : r ∈ rs) {K : Nat} {ds : List D} hK h => refused_sp w1 w3 hns hne (hr r h1) (K := K) (ds := ds) hK h
  refine wS_for (fun i e => ∃ s', (∃ o7, e = E9l x0 (.lst ims) (.int (k : Int)) (some (.m s')) (some (.v (.int w))) (some (.v (nsD ns))) (some (.v (.lst rs))) o7 o8) ∧ potOk (1000 + 200 * i) s') _ 0 _ ⟨s4, ⟨o7, rfl⟩, p4.mono (by omega)⟩ (fun i d e hi hI => ?_) (fun e hI => ?_)
  · obtain ⟨s', ⟨o7, rfl⟩, hp⟩ := hI
    rw [Nat.zero_add] at hp
    obtain ⟨hi2, rfl⟩ := rangeL_get hi
    have hi3 : i < 3 := hi2
    obtain ⟨d1, m1, e1⟩ := at_list (l := rs) (i := 0 + (i : Int)) (by omega) (by omega)
    have e2 : ∃ d2 ∈ rs, ixD (.lst rs) (.int (0 + (i : Int) - 1)) = some d2 := by
      by_cases z : i = 0
      · subst z; exact at_neg (d := .non) hl
      · obtain ⟨d2, a, b⟩ := at_list (l := rs) (i := 0 + (i : Int) - 1) (by omega) (by omega)
        exact ⟨d2, a, b⟩
    obtain ⟨d2, m2, e2⟩ := e2
    refine ⟨_, rfl, ?_⟩
    unfold c4B4
    generalize (0 + (i : Int)) = ii at *
    simp [e1, e2]
    refine wR_call (rr m1 m2 (by omega) hp) fun z o ⟨s5, h1, h2, p5⟩ => ?_
    subst h1 h2
    simp
    exact p5.mono (by omega)
  · obtain ⟨s', ⟨o7, rfl⟩, hp⟩ := hI
    rw [Nat.zero_add, rangeL_length] at hp
    simp [w6]
    refine wS_for (fun i e => ∃ s', (∃ o8, e = E9l x0 (.lst ims) (.int (k : Int)) (some (.m s')) (some (.v (.int w))) (some (.v (nsD ns))) (some (.v (.lst rs))) o7 o8 ∧ ∀ m, o8 ≠ some (.m m)) ∧ potOk (1600 + 100 * i) s') _ 0 _ ⟨s', ⟨o8, rfl, n8⟩, hp.mono (by omega)⟩ (fun i d e hi hI => ?_) (fun e hI => ?_)
    · obtain ⟨s', ⟨o8, rfl, _⟩, hp⟩ := hI
      rw [Nat.zero_add] at hp
      obtain ⟨hi2, rfl⟩ := rangeL_get hi
      have hi3 : i < 6 := hi2
      have md := mod_ii (0 + (i : Int)) 3 (by decide)
      have g0 : 0 ≤ (0 + (i : Int)) % 3 := Int.emod_nonneg _ (by decide)
      have g1 : (0 + (i : Int)) % 3 < 3 := Int.emod_lt_of_pos _ (by decide)
      obtain ⟨d1, m1, e1⟩ := at_list (l := rs) (i := (0 + (i : Int)) % 3) g0 (by omega)
      refine ⟨_, rfl, ?_⟩
      unfold c4B5
      generalize (0 + (i : Int)) = ii at *
      generalize ii % 3 = jj at *
      simp [md, e1]
      refine wR_call (rf m1 (by omega) hp) fun z o ⟨s5, h1, h2, p5⟩ => ?_
      subst h1 h2
      simp
      exact ⟨s5, ⟨_, ⟨rfl, rfl⟩, fun m e => by cases e⟩, p5.mono (by omega)⟩
    · obtain ⟨s', ⟨o8, rfl, n8⟩, hp⟩ := hI
      exact h _ _ _ _ _ _ n8
theorem law_pure (ns : List Int) (h : ns.length ≤ 63) : F_law [.v (.lst (ns.map .int))] = .ok (.v (.bl true)) [] := by
  obtain ⟨ms, hms, hf⟩ := folded_eq 6 (by decide) (by decide) ns h
  have hf : F__law_folded [.v (.lst (intL ns)), .v (.int 6)] = .ok (.v (.lst (intL ms))) [] := hf
  have key : wF (F_law [.v (.lst (intL ns))]) (fun s o => s = .v (.bl true) ∧ o = []) := by
    unfold F_law
    rw [f_law_eq, wF_fin, sSeq_ap, wS_sq]
    obtain ⟨v, hl, hm, hw, hv⟩ := cells_n ms (by omega)
    unfold law4S0
    simp [startE, hf, hl, hm, hw]
    refine wS_for (fun i e => ∃ o2 o3 o4 o5 o6 o7 o8, e = [some (.v (.lst (intL ns))), some (.v (.lst (intL ms))), o2, o3, o4, o5, o6, o7, o8] ∧ ∀ m, o8 ≠ some (.m m)) _ 0 _ ⟨_, _, _, _, _, _, _, rfl, fun m e => by cases e⟩ (fun i d e hi hI => ?_) (fun e hI => ?_)
    · obtain ⟨o2, o3, o4, o5, o6, o7, o8, rfl, n8⟩ := hI
      obtain ⟨hi2, rfl⟩ := rangeL_get hi
      refine ⟨_, rfl, ?_⟩
      rw [Int.zero_add]
      exact cell4_sp ms i (Nat.lt_trans (Nat.lt_trans hi2 hv) (by decide)) n8 fun o3 o4 o5 o6 o7 o8 n8 => ⟨_, _, _, _, _, _, _, rfl, n8⟩
    · obtain ⟨o2, o3, o4, o5, o6, o7, o8, rfl, n8⟩ := hI
      simp
  obtain ⟨s, o, e, hs, ho⟩ := wF_iff.mp key
  subst hs ho
  exact e
end DL
end

section
set_option Elab.async false
theorem PySem.Challenge.cw_whocame_k04_rules_let_by_holds : PySem.Challenge.rw_whocame_k04_rules_let_by.Holds :=
  law_head fun ns h _ => DL.law_pure ns h
end
