import PyProof.Rows.All
import Wide.All
import OpenK.AllK
import Wide.FinOn
import HandS.ForMost
import HandS.WordsExc
import HandS.ExcOwn
import HandS.Wide
import HandS.Gcd
import HandS.TupAny
import HandS.IsInst
import HandS.SortInts
import HandS.Conv
import HandS.TupMul
import HandS.Deep
import HandS.Style
import HandS.NoneIn
import HandS.Zip
import HandS.Defaults
import HandS.HeadHook1
import HandS.HeadHook2
import HandS.HeadHook3
import HandS.HeadHook4
import HandS.Codes
import KE.KSuper
import KE.KExcSuper
import HandS.Exc
import KE.KDictZip
import KE.KItemsList
import KE.KExcIs
import HandS.ExcIs
import HandS.More
import HandS.List
import HandS.Dict
import HandS.Ends
import HandS.HeadEnd
import PyProof.ReprRoads
import HandS.RaiseMore
import PySem.Challenge.RW_bucketsalong_k68_walkers_stands_and_what
import KE.KStateDown
import HandS.Head0
import HandS.Head1
import HandS.Head2
import HandS.Head3
import PyProof.ReprLen
/-! text BkA -/
set_option Elab.async false
set_option linter.all false
set_option maxRecDepth 100000
set_option maxHeartbeats 2000000
set_option autoImplicit false
/-! BkA: abstract values and stores, how they lie in the heap, frames, readings. -/
namespace Bk
open PySem PySem.Spec PyProof.Rows L2

/-- a value: data (never changes), an object of the store, a def of the module -/
inductive Vl where
  | dat (d : PyData) | ref (n : Nat) | fn (k : Nat)
  /-- a list that is only read (the script, a list of the module) -/
  | ro (ds : List PyData)
/-- an object of the store: what may change -/
inductive Ob where
  | lst (xs : List Vl) | dic (kvs : List (Key × Vl)) | ins (c : Nat) (fs : List (Str × Vl)) | gone
  /-- a caught exception: its class, its value -/
  | exc (k : Nat) (d : PyData)
abbrev Sto := List Ob
abbrev Ev := List (Option Vl)
abbrev Sg := L2.St
/-- what an expression hands back: a value, or a list that nothing else knows -/
inductive Rv where
  | val (w : Vl) | new (xs : List Vl)
/-- an end: a result and the store; an exception (class, value); none told -/
inductive Out (α : Type) where
  | ok (a : α) (S : Sto) | exn (k : Nat) (d : PyData) (S : Sto) | fail
def Out.bind {α β : Type} (x : Out α) (f : α → Sto → Out β) : Out β := match x with
  | .ok a S => f a S
  | .exn k d S => .exn k d S
  | .fail => .fail
@[simp] theorem Out.bind_ok {α β : Type} (a : α) (S : Sto) (f : α → Sto → Out β) : (Out.ok a S).bind f = f a S := rfl
@[simp] theorem Out.bind_exn {α β : Type} (k : Nat) (d : PyData) (S : Sto) (f : α → Sto → Out β) : (Out.exn k d S : Out α).bind f = .exn k d S := rfl
@[simp] theorem Out.bind_fail {α β : Type} (f : α → Sto → Out β) : (Out.fail : Out α).bind f = .fail := rfl

/-- the module: where its defs and classes lie -/
structure Gx where
  K : PySem.W.Frag
  fn : Nat → Addr
  cls : Nat → Addr

/-- the heap without the objects that may change -/
def hid (η : List Addr) (H : Hp) : Hp := fun a => if a ∈ η then none else H a
theorem hid_in {η : List Addr} {H : Hp} {a : Addr} (h : a ∈ η) : hid η H a = none := if_pos h
theorem hid_out {η : List Addr} {H : Hp} {a : Addr} (h : a ∉ η) : hid η H a = H a := if_neg h
theorem hid_some {η : List Addr} {H : Hp} {a : Addr} {o : HO} : hid η H a = some o ↔ a ∉ η ∧ H a = some o := by
  unfold hid
  by_cases h : a ∈ η
  · rw [if_pos h]; exact ⟨fun z => (nomatch z), fun z => absurd h z.1⟩
  · rw [if_neg h]; exact ⟨fun z => ⟨h, z⟩, fun z => z.2⟩
/-- a state of the proof: what is hidden, where the store's objects lie, what is kept aside (a list that a comprehension makes), the heap -/
structure Sx where
  η : List Addr
  ρ : List Addr
  κ : List Addr
  H : Hp
abbrev Sx.vis (s : Sx) : Hp := hid s.η s.H
structure Fr (s t : Sx) : Prop where
  same : ∀ a o, s.vis a = some o → t.vis a = some o
  ext : ∃ r, t.ρ = s.ρ ++ r
  aside : t.κ = s.κ
  kept : ∀ a ∈ s.κ, t.H a = s.H a
theorem Fr.refl (s : Sx) : Fr s s := ⟨fun _ _ h => h, ⟨[], by simp⟩, rfl, fun _ _ => rfl⟩
theorem Fr.trans {s t u : Sx} (a : Fr s t) (b : Fr t u) : Fr s u := by
  obtain ⟨r, er⟩ := a.ext
  obtain ⟨q, eq⟩ := b.ext
  exact ⟨fun c o h => b.same c o (a.same c o h), ⟨r ++ q, by rw [eq, er, List.append_assoc]⟩, b.aside.trans a.aside, fun c hc => (b.kept c (by rw [a.aside]; exact hc)).trans (a.kept c hc)⟩
theorem Fr.at {s t : Sx} (f : Fr s t) {n : Nat} {a : Addr} (h : s.ρ[n]? = some a) : t.ρ[n]? = some a := by
  obtain ⟨r, e⟩ := f.ext
  rw [e]
  exact List.getElem?_append_left (List.getElem?_eq_some_iff.mp h).1 ▸ h

/-! ### data: lists tracked, tuples tracked or written -/
mutual
inductive Dl (K : PySem.W.Frag) (H : Hp) : V → PyData → Prop
  | non : Dl K H .non .none
  | bl (b : Bool) : Dl K H (.bl b) (.bool b)
  | int (i : Int) : Dl K H (.int i) (.int i)
  | str (x : Str) : Dl K H (.str x) (.str x)
  | lst {a : Addr} {xs : List V} {ds : List PyData} : H a = some (.lst xs) → DlAll K H xs ds → Dl K H (.ref a) (.list ds)
  | tup {a : Addr} {xs : List V} {ds : List PyData} : SqT K H a xs → DlAll K H xs ds → Dl K H (.ref a) (.tuple ds)
inductive DlAll (K : PySem.W.Frag) (H : Hp) : List V → List PyData → Prop
  | nil : DlAll K H [] []
  | cons {v : V} {vs : List V} {d : PyData} {ds : List PyData} : Dl K H v d → DlAll K H vs ds → DlAll K H (v :: vs) (d :: ds)
end
theorem seqL_mono {K : PySem.W.Frag} {H H' : Hp} {a : Addr} {xs : List V} (e : ∀ b o, H b = some o → H' b = some o) (h : SqL K H a xs) : SqL K H' a xs := by
  rcases h with (h | ⟨o, h⟩) | h
  · exact .inl (.inl (e _ _ h))
  · exact .inl (.inr ⟨o, e _ _ h⟩)
  · exact .inr h
theorem seqT_mono {K : PySem.W.Frag} {H H' : Hp} {a : Addr} {xs : List V} (e : ∀ b o, H b = some o → H' b = some o) (h : SqT K H a xs) : SqT K H' a xs := by
  rcases h with (h | ⟨o, h⟩) | h
  · exact .inl (.inl (e _ _ h))
  · exact .inl (.inr ⟨o, e _ _ h⟩)
  · exact .inr h
mutual
theorem dl_mono {K : PySem.W.Frag} {H H' : Hp} (e : ∀ b o, H b = some o → H' b = some o) : ∀ (d : PyData) (v : V), Dl K H v d → Dl K H' v d
  | .none, _, h => by cases h; exact .non
  | .bool b, _, h => by cases h; exact .bl b
  | .int i, _, h => by cases h; exact .int i
  | .str x, _, h => by cases h; exact .str x
  | .list ds, _, h => by
    cases h with
    | lst hs ha => exact .lst (e _ _ hs) (dlAll_mono e ds _ ha)
  | .tuple ds, _, h => by
    cases h with
    | tup hs ha => exact .tup (seqT_mono e hs) (dlAll_mono e ds _ ha)
  | .dict _, _, h => by cases h
theorem dlAll_mono {K : PySem.W.Frag} {H H' : Hp} (e : ∀ b o, H b = some o → H' b = some o) : ∀ (ds : List PyData) (vs : List V), DlAll K H vs ds → DlAll K H' vs ds
  | [], _, h => by cases h; exact .nil
  | d :: ds, _, h => by
    cases h with
    | cons h1 h2 => exact .cons (dl_mono e d _ h1) (dlAll_mono e ds _ h2)
end
mutual
theorem dl_dp {K : PySem.W.Frag} {H : Hp} : ∀ (d : PyData) (v : V), Dl K H v d → Dp K H v d
  | .none, _, h => by cases h; exact .non
  | .bool b, _, h => by cases h; exact .bl b
  | .int i, _, h => by cases h; exact .int i
  | .str x, _, h => by cases h; exact .str x
  | .list ds, _, h => by
    cases h with
    | lst hs ha => exact .lst (.inl (.inl hs)) (dlAll_dp ds _ ha)
  | .tuple ds, _, h => by
    cases h with
    | tup hs ha => exact .tup hs (dlAll_dp ds _ ha)
  | .dict _, _, h => by cases h
theorem dlAll_dp {K : PySem.W.Frag} {H : Hp} : ∀ (ds : List PyData) (vs : List V), DlAll K H vs ds → DpAll K H vs ds
  | [], _, h => by cases h; exact .nil
  | d :: ds, _, h => by
    cases h with
    | cons h1 h2 => exact .cons (dl_dp d _ h1) (dlAll_dp ds _ h2)
end
theorem vis_all {η : List Addr} {H : Hp} : ∀ b o, hid η H b = some o → H b = some o := fun _ _ h => (hid_some.mp h).2
/-! ### values, objects, stores -/
def RepV (G : Gx) (s : Sx) (v : V) : Vl → Prop
  | .dat d => Dl G.K s.vis v d
  | .ref n => ∃ a, s.ρ[n]? = some a ∧ v = .ref a
  | .fn k => v = .ref (G.fn k)
  | .ro ds => ∃ a ns, v = .ref a ∧ SqL G.K s.vis a ns ∧ DlAll G.K s.vis ns ds
abbrev RepVs (G : Gx) (s : Sx) : List V → List Vl → Prop := Paired (RepV G s)
theorem RepV.mono {G : Gx} {s t : Sx} (f : Fr s t) {v : V} : ∀ {w : Vl}, RepV G s v w → RepV G t v w
  | .dat d, h => dl_mono f.same d v h
  | .ref n, ⟨a, h, e⟩ => ⟨a, f.at h, e⟩
  | .fn _, h => h
  | .ro ds, ⟨a, ns, e, h1, h2⟩ => ⟨a, ns, e, seqL_mono f.same h1, dlAll_mono f.same ds ns h2⟩
/-- what is seen stays (nothing said of what is kept aside) -/
structure FrV (s t : Sx) : Prop where
  same : ∀ a o, s.vis a = some o → t.vis a = some o
  ext : ∃ r, t.ρ = s.ρ ++ r
theorem Fr.v {s t : Sx} (f : Fr s t) : FrV s t := ⟨f.same, f.ext⟩
theorem FrV.trans {s t u : Sx} (a : FrV s t) (b : FrV t u) : FrV s u := by
  obtain ⟨r, er⟩ := a.ext
  obtain ⟨q, eq⟩ := b.ext
  exact ⟨fun c o h => b.same c o (a.same c o h), ⟨r ++ q, by rw [eq, er, List.append_assoc]⟩⟩
theorem FrV.at {s t : Sx} (f : FrV s t) {n : Nat} {a : Addr} (h : s.ρ[n]? = some a) : t.ρ[n]? = some a := by
  obtain ⟨r, e⟩ := f.ext
  rw [e]
  exact List.getElem?_append_left (List.getElem?_eq_some_iff.mp h).1 ▸ h
theorem RepV.monoV {G : Gx} {s t : Sx} (f : FrV s t) {v : V} : ∀ {w : Vl}, RepV G s v w → RepV G t v w
  | .dat d, h => dl_mono f.same d v h
  | .ref n, ⟨a, h, e⟩ => ⟨a, f.at h, e⟩
  | .fn _, h => h
  | .ro ds, ⟨a, ns, e, h1, h2⟩ => ⟨a, ns, e, seqL_mono f.same h1, dlAll_mono f.same ds ns h2⟩
theorem RepVs.mono {G : Gx} {s t : Sx} (f : Fr s t) {vs : List V} {ws : List Vl} (h : RepVs G s vs ws) : RepVs G t vs ws := Paired.mapP h fun _ _ x => RepV.mono f x
/-- an exception's object: its class, its dict -/
def exk (a : Addr) (cls : Value) (d : Option Addr) : HO := .ext fun h => ∃ (oe : Obj) (vs : Array Value), h.get? a = some oe ∧ oe.cls = cls ∧ oe.dict = d ∧ oe.data = .fields vs
def ObAt (G : Gx) (s : Sx) (a : Addr) : Ob → Prop
  | .lst xs => a ∈ s.η ∧ ∃ vs, s.H a = some (.lst vs) ∧ RepVs G s vs xs
  | .dic kvs => a ∈ s.η ∧ ∃ vs, s.H a = some (.dK vs) ∧ Paired (fun (p : Key × V) (q : Key × Vl) => p.1 = q.1 ∧ RepV G s p.2 q.2) vs kvs
  | .ins c fs => a ∈ s.η ∧ ∃ dx vs, s.H a = some (.ins (G.cls c) dx vs) ∧ Paired (fun (p : Str × V) (q : Str × Vl) => p.1 = q.1 ∧ RepV G s p.2 q.2) vs fs
  | .gone => ∃ o, s.vis a = some o
  | .exc k d => ∃ dd u, s.vis a = some (exk a (.ref (G.cls k)) (some dd)) ∧ s.vis dd = some (.xd [(("value" : Str), u)]) ∧ Dl G.K s.vis u d
structure SOk (G : Gx) (s : Sx) (S : Sto) : Prop where
  len : s.ρ.length = S.length
  nd : s.ρ.Nodup
  tr : ∀ a ∈ s.η, ∃ o, s.H a = some o
  ka : ∀ a ∈ s.κ, a ∈ s.η ∧ a ∉ s.ρ
  ob : ∀ (n : Nat) (o : Ob) (a : Addr), S[n]? = some o → s.ρ[n]? = some a → ObAt G s a o
structure EOk (G : Gx) (s : Sx) (env : Ev) (σ : Sg) : Prop where
  len : env.length = σ.length
  at_ : ∀ (i : Nat) (w : Vl), env[i]? = some (some w) → ∃ v, σ[i]? = some (some v) ∧ RepV G s v w
theorem EOk.mono {G : Gx} {s t : Sx} (f : Fr s t) {env : Ev} {σ : Sg} (h : EOk G s env σ) : EOk G t env σ :=
  ⟨h.len, fun i w e => let ⟨v, e1, r⟩ := h.at_ i w e; ⟨v, e1, r.mono f⟩⟩
theorem RepVs.monoV {G : Gx} {s t : Sx} (f : FrV s t) {vs : List V} {ws : List Vl} (h : RepVs G s vs ws) : RepVs G t vs ws := Paired.mapP h fun _ _ x => RepV.monoV f x
theorem EOk.monoV {G : Gx} {s t : Sx} (f : FrV s t) {env : Ev} {σ : Sg} (h : EOk G s env σ) : EOk G t env σ :=
  ⟨h.len, fun i w e => let ⟨v, e1, r⟩ := h.at_ i w e; ⟨v, e1, r.monoV f⟩⟩
theorem EOk.set {G : Gx} {s : Sx} {env : Ev} {σ : Sg} (h : EOk G s env σ) {v : V} {w : Vl} (r : RepV G s v w) (i : Nat) : EOk G s (env.set i (some w)) (σ.set i (some v)) := by
  refine ⟨by simp [h.len], fun j x e => ?_⟩
  by_cases hj : i = j
  · subst hj
    by_cases hi : i < env.length
    · rw [List.getElem?_set_self hi] at e
      cases e
      exact ⟨v, by rw [List.getElem?_set_self (by rw [← h.len]; exact hi)], r⟩
    · rw [List.getElem?_eq_none (by simpa using hi)] at e; cases e
  · rw [List.getElem?_set_ne hj] at e
    obtain ⟨v', e1, r1⟩ := h.at_ j x e
    exact ⟨v', by rw [List.getElem?_set_ne hj]; exact e1, r1⟩
/-- a fresh list: a is hidden, nothing else knows it -/
def RvOk (G : Gx) (t : Sx) (v : V) : Rv → Prop
  | .val w => RepV G t v w
  | .new xs => ∃ a vs, v = .ref a ∧ a ∈ t.η ∧ a ∉ t.ρ ∧ a ∉ t.κ ∧ t.H a = some (.lst vs) ∧ RepVs G t vs xs
/-- an exception that has left: its class, its own dict with the value -/
def ExOk (G : Gx) (t : Sx) (cls : Value) (dd : Option Addr) (k : Nat) (d : PyData) : Prop :=
  cls = .ref (G.cls k) ∧ ∃ a v, dd = some a ∧ t.vis a = some (.xd [(("value" : Str), v)]) ∧ Dl G.K t.vis v d

/-! ### readings -/
def Post {α β : Type} (G : Gx) (Wx : WX) (s : Sx) (env : Ev) (σ : Sg) (rel : Sx → β → α → Prop) (x : Out α) (Q : β → Hp → Prop) : Prop := match x with
  | .ok r S => ∀ t v, Fr s t → SOk G t S → EOk G t env σ → rel t v r → Q v t.H
  | .exn k d S => ∀ t cls dd, Fr s t → SOk G t S → EOk G t env σ → ExOk G t cls dd k d → Wx cls dd σ t.H
  | .fail => False
abbrev MM (α : Type) := Ev → Sto → Out α
abbrev ME := MM Rv
abbrev MW := MM Vl
abbrev MA := MM (List Vl)
abbrev MT := MM Bool
def tP {α β : Type} (G : Gx) (Wx : WX) (rel : Sx → β → α → Prop) (m : MM α) : Sg → Hp → (β → Hp → Prop) → Prop := fun σ H Q => ∃ (s : Sx) (S : Sto) (env : Ev), s.H = H ∧ SOk G s S ∧ EOk G s env σ ∧ Post G Wx s env σ rel (m env S) Q
abbrev rB : Sx → Bool → Bool → Prop := fun _ b c => b = c
abbrev tE (G : Gx) (Wx : WX) (m : ME) : TE := tP G Wx (RvOk G) m
abbrev tW (G : Gx) (Wx : WX) (m : MW) : TE := tP G Wx (RepV G) m
abbrev tA (G : Gx) (Wx : WX) (m : MA) : TA := tP G Wx (RepVs G) m
abbrev tT (G : Gx) (Wx : WX) (m : MT) : TT := tP G Wx rB m
theorem Post.mono {α β : Type} {G : Gx} {Wx : WX} {s t : Sx} {env : Ev} {σ : Sg} {rel : Sx → β → α → Prop} {x : Out α} {Q : β → Hp → Prop} (h : Post G Wx s env σ rel x Q) (f : Fr s t) : Post G Wx t env σ rel x Q := by
  cases x with
  | ok r S => exact fun u v f2 => h u v (f.trans f2)
  | exn k d S => exact fun u c dd f2 => h u c dd (f.trans f2)
  | fail => exact h
/-- one after another -/
theorem Post.bind {α β γ δ : Type} {G : Gx} {Wx : WX} {s : Sx} {env : Ev} {σ : Sg} {rel : Sx → β → α → Prop} {rel' : Sx → δ → γ → Prop} {x : Out α} {k : α → Sto → Out γ} {Q : δ → Hp → Prop} (h : Post G Wx s env σ rel' (x.bind k) Q) :
    Post G Wx s env σ rel x fun b H1 => ∃ t a S1, t.H = H1 ∧ Fr s t ∧ SOk G t S1 ∧ EOk G t env σ ∧ rel t b a ∧ Post G Wx t env σ rel' (k a S1) Q := by
  cases x with
  | ok r S => exact fun t v f so eo r' => ⟨t, r, S, rfl, f, so, eo, r', Post.mono (x := k r S) h f⟩
  | exn k d S => exact h
  | fail => exact h
theorem Post.imp {α β : Type} {G : Gx} {Wx : WX} {s : Sx} {env : Ev} {σ : Sg} {rel : Sx → β → α → Prop} {x : Out α} {Q Q' : β → Hp → Prop} (h : Post G Wx s env σ rel x Q) (i : ∀ b H, Q b H → Q' b H) : Post G Wx s env σ rel x Q' := by
  cases x with
  | ok r S => exact fun t v f so eo r' => i _ _ (h t v f so eo r')
  | exn k d S => exact h
  | fail => exact h
/-- the judgements: e does what m says -/
structure RE (X : Cx) (G : Gx) (Wx : WX) (e : Expr) (m : ME) : Prop where
  pe : PE X e (tE G Wx m)
structure RW (X : Cx) (G : Gx) (Wx : WX) (e : Expr) (m : MW) : Prop where
  pe : PE X e (tW G Wx m)
structure RA (X : Cx) (G : Gx) (Wx : WX) (es : List Expr) (m : MA) : Prop where
  pe : PA X es (tA G Wx m)
structure RT (X : Cx) (G : Gx) (Wx : WX) (e : Expr) (m : MT) : Prop where
  pe : PT X e (tT G Wx m)
theorem _root_.L2.PE.imp {X : Cx} {e : Expr} {t u : TE} (h : PE X e t) (i : ∀ σ H Q, u σ H Q → t σ H Q) : PE X e u := ⟨fun pins s σ H Q I q => h.run pins s σ H Q I (i σ H Q q)⟩
theorem _root_.L2.PT.imp {X : Cx} {e : Expr} {t u : TT} (h : PT X e t) (i : ∀ σ H Q, u σ H Q → t σ H Q) : PT X e u := ⟨fun pins s σ H Q I q => h.run pins s σ H Q I (i σ H Q q)⟩
theorem _root_.L2.PA.imp {X : Cx} {e : List Expr} {t u : TA} (h : PA X e t) (i : ∀ σ H Q, u σ H Q → t σ H Q) : PA X e u := ⟨fun p pins s σ H Q I q => h.run p pins s σ H Q I (i σ H Q q)⟩
theorem _root_.L2.PS.imp {X : Cx} {e : Stmt} {t u : TS} (h : PS X e t) (i : ∀ D σ H, u D σ H → t D σ H) : PS X e u := ⟨fun pins s σ H Q I q => h.run pins s σ H Q I (i Q σ H q)⟩
theorem _root_.L2.PSs.imp {X : Cx} {e : List Stmt} {t u : TS} (h : PSs X e t) (i : ∀ D σ H, u D σ H → t D σ H) : PSs X e u := ⟨fun pins s σ H Q I q => h.run pins s σ H Q I (i Q σ H q)⟩

/-! ### the fresh list: kept as data, or put into the store -/
def unDat : Vl → Option PyData
  | .dat d => some d
  | _ => none
def allDat : List Vl → Option (List PyData)
  | [] => some []
  | .dat d :: r => (allDat r).map (d :: ·)
  | _ :: _ => none
theorem allDat_eq : ∀ {xs : List Vl} {ds : List PyData}, allDat xs = some ds → xs = ds.map Vl.dat
  | [], ds, h => by cases h; rfl
  | .dat d :: r, ds, h => by
    unfold allDat at h
    cases e : allDat r with
    | none => rw [e] at h; cases h
    | some q =>
      rw [e] at h
      cases h
      rw [allDat_eq e]; rfl
  | .ref _ :: _, _, h => by cases h
  | .fn _ :: _, _, h => by cases h
  | .ro _ :: _, _, h => by cases h
@[simp] theorem allDat_map (ds : List PyData) : allDat (ds.map Vl.dat) = some ds := by
  induction ds with
  | nil => rfl
  | cons d r ih => simp [allDat, ih]
theorem repVs_dat {G : Gx} {s : Sx} : ∀ {vs : List V} {ds : List PyData}, RepVs G s vs (ds.map Vl.dat) → DlAll G.K s.vis vs ds
  | _, [], h => by cases h; exact .nil
  | _, d :: ds, h => by
    cases h with
    | cons h1 h2 => exact .cons h1 (repVs_dat h2)
theorem repVs_of {G : Gx} {s : Sx} : ∀ {vs : List V} {ds : List PyData}, DlAll G.K s.vis vs ds → RepVs G s vs (ds.map Vl.dat)
  | _, [], h => by cases h; exact .nil
  | _, d :: ds, h => by
    cases h with
    | cons h1 h2 => exact .cons h1 (repVs_of h2)
theorem ObAt.mono {G : Gx} {s t : Sx} (f : Fr s t) {a : Addr} (hη : a ∈ s.η → a ∈ t.η) (hH : a ∈ s.η → t.H a = s.H a) : ∀ {o : Ob}, ObAt G s a o → ObAt G t a o
  | .lst _, ⟨h1, vs, h2, h3⟩ => ⟨hη h1, vs, by rw [hH h1]; exact h2, h3.mono f⟩
  | .dic _, ⟨h1, vs, h2, h3⟩ => ⟨hη h1, vs, by rw [hH h1]; exact h2, Paired.mapP h3 fun _ _ x => ⟨x.1, x.2.mono f⟩⟩
  | .ins _ _, ⟨h1, dx, vs, h2, h3⟩ => ⟨hη h1, dx, vs, by rw [hH h1]; exact h2, Paired.mapP h3 fun _ _ x => ⟨x.1, x.2.mono f⟩⟩
  | .gone, ⟨o, h⟩ => ⟨o, f.same _ _ h⟩
  | .exc _ d, ⟨dd, u, h1, h2, h3⟩ => ⟨dd, u, f.same _ _ h1, f.same _ _ h2, dl_mono f.same d u h3⟩
/-- an object comes out of hiding -/
def Sx.show (t : Sx) (a : Addr) : Sx := ⟨t.η.filter (fun b => decide (b ≠ a)), t.ρ, t.κ, t.H⟩
theorem Sx.show_vis {t : Sx} {a b : Addr} {o : HO} (h : t.vis b = some o) : (t.show a).vis b = some o := by
  obtain ⟨h1, h2⟩ := hid_some.mp h
  exact hid_some.mpr ⟨fun z => h1 (List.mem_filter.mp z).1, h2⟩
theorem Sx.show_at {t : Sx} {a : Addr} {o : HO} (h : t.H a = some o) : (t.show a).vis a = some o := hid_some.mpr ⟨fun z => by simpa using (List.mem_filter.mp z).2, h⟩
theorem Sx.show_mem {t : Sx} {a b : Addr} (h : b ∈ t.η) (n : b ≠ a) : b ∈ (t.show a).η := List.mem_filter.mpr ⟨h, by simpa using n⟩
theorem fr_show (t : Sx) (a : Addr) : Fr t (t.show a) := ⟨fun _ _ h => Sx.show_vis h, ⟨[], by simp [Sx.show]⟩, rfl, fun _ _ => rfl⟩
/-- kept as data -/
theorem freeze {G : Gx} {t : Sx} {v : V} {ds : List PyData} {S : Sto} {env : Ev} {σ : Sg} (r : RvOk G t v (.new (ds.map Vl.dat))) (so : SOk G t S) (eo : EOk G t env σ) :
    ∃ t' : Sx, t'.H = t.H ∧ Fr t t' ∧ SOk G t' S ∧ EOk G t' env σ ∧ RepV G t' v (.dat (.list ds)) := by
  obtain ⟨a, vs, rfl, hη, nρ, nκ, hH, rv⟩ := r
  have f := fr_show t a
  refine ⟨t.show a, rfl, f, ⟨so.len, so.nd, fun b hb => so.tr b (List.mem_filter.mp hb).1, fun b hb => ⟨Sx.show_mem (so.ka b hb).1 (fun z => nκ (by rw [← z]; exact hb)), (so.ka b hb).2⟩, fun n o b h1 h2 => ?_⟩, eo.mono f, ?_⟩
  · have hb : b ≠ a := fun z => nρ (by rw [← z]; exact List.mem_of_getElem? h2)
    exact (so.ob n o b h1 h2).mono f (fun z => Sx.show_mem z hb) (fun _ => rfl)
  · exact .lst (a := a) (xs := vs) (Sx.show_at hH) (repVs_dat (rv.mono f))
/-- put into the store, at its end -/
theorem thaw {G : Gx} {t : Sx} {v : V} {xs : List Vl} {S : Sto} {env : Ev} {σ : Sg} (r : RvOk G t v (.new xs)) (so : SOk G t S) (eo : EOk G t env σ) :
    ∃ t' : Sx, t'.H = t.H ∧ Fr t t' ∧ SOk G t' (S ++ [.lst xs]) ∧ EOk G t' env σ ∧ RepV G t' v (.ref S.length) := by
  obtain ⟨a, vs, rfl, hη, nρ, nκ, hH, rv⟩ := r
  have f : Fr t ⟨t.η, t.ρ ++ [a], t.κ, t.H⟩ := ⟨fun b o h => h, ⟨[a], rfl⟩, rfl, fun _ _ => rfl⟩
  refine ⟨⟨t.η, t.ρ ++ [a], t.κ, t.H⟩, rfl, f, ⟨by simp [so.len], ?_, so.tr, fun b hb => ⟨(so.ka b hb).1, fun z => ?_⟩, fun n o b h1 h2 => ?_⟩, eo.mono f, ⟨a, ?_, rfl⟩⟩
  · show (t.ρ ++ [a]).Nodup
    rw [List.nodup_append]
    refine ⟨so.nd, by simp, fun x hx y hy e => ?_⟩
    rw [List.mem_singleton] at hy
    exact nρ (by rw [← hy, ← e]; exact hx)
  · rcases List.mem_append.mp z with z | z
    · exact (so.ka b hb).2 z
    · exact nκ (by rw [← List.mem_singleton.mp z]; exact hb)
  · by_cases hn : n < S.length
    · rw [List.getElem?_append_left hn] at h1
      have h2 : (t.ρ ++ [a])[n]? = some b := h2
      rw [List.getElem?_append_left (by rw [so.len]; exact hn)] at h2
      exact (so.ob n o b h1 h2).mono f (fun z => z) (fun _ => rfl)
    · have e : n = S.length := by
        have := (List.getElem?_eq_some_iff.mp h1).1
        simp at this; omega
      subst e
      have h2 : (t.ρ ++ [a])[S.length]? = some b := h2
      rw [List.getElem?_append_right (by rw [so.len]; exact Nat.le_refl _), so.len, Nat.sub_self] at h2
      rw [List.getElem?_append_right (Nat.le_refl _), Nat.sub_self] at h1
      cases h1; cases h2
      exact ⟨hη, vs, hH, rv.mono f⟩
  · show (t.ρ ++ [a])[S.length]? = some a
    rw [List.getElem?_append_right (by rw [so.len]; exact Nat.le_refl _), so.len, Nat.sub_self]
    rfl

/-! ### a new object -/
theorem SOk.tracked {G : Gx} {s : Sx} {S : Sto} (so : SOk G s S) {a : Addr} (h : a ∈ s.ρ) : ∃ o, s.H a = some o := by
  obtain ⟨n, hn, e⟩ := List.getElem_of_mem h
  have hn' : n < S.length := by rw [← so.len]; exact hn
  have h2 := so.ob n S[n] a (List.getElem?_eq_getElem hn') (by rw [List.getElem?_eq_getElem hn, e])
  cases q : S[n] with
  | lst xs => rw [q] at h2; obtain ⟨_, vs, h, _⟩ := h2; exact ⟨_, h⟩
  | dic kvs => rw [q] at h2; obtain ⟨_, vs, h, _⟩ := h2; exact ⟨_, h⟩
  | ins c fs => rw [q] at h2; obtain ⟨_, dx, vs, h, _⟩ := h2; exact ⟨_, h⟩
  | gone => rw [q] at h2; obtain ⟨o, h⟩ := h2; exact ⟨o, vis_all _ _ h⟩
  | exc k d => rw [q] at h2; obtain ⟨dd, u, h, _⟩ := h2; exact ⟨_, vis_all _ _ h⟩
section
variable {G : Gx} {s : Sx} {S : Sto} {p : Addr}
theorem SOk.notρ (so : SOk G s S) (hp : s.H p = none) : p ∉ s.ρ := fun z => by
  obtain ⟨o, e⟩ := so.tracked z
  rw [hp] at e; cases e
theorem SOk.notη (so : SOk G s S) (hp : s.H p = none) : p ∉ s.η := fun z => by
  obtain ⟨o, e⟩ := so.tr p z
  rw [hp] at e; cases e
/-- a new object that all may see -/
def Sx.put (s : Sx) (p : Addr) (o : HO) : Sx := ⟨s.η, s.ρ, s.κ, upd s.H p o⟩
theorem SOk.notκ (so : SOk G s S) (hp : s.H p = none) : p ∉ s.κ := fun z => so.notη hp (so.ka p z).1
theorem fr_grow (so : SOk G s S) (hp : s.H p = none) (o : HO) : Fr s (s.put p o) := by
  refine ⟨fun b u h => ?_, ⟨[], by simp [Sx.put]⟩, rfl, fun a ha => upd_ne (fun z => so.notκ hp (by rw [← z]; exact ha))⟩
  obtain ⟨h1, h2⟩ := hid_some.mp h
  exact hid_some.mpr ⟨h1, by
    show upd s.H p o b = some u
    rw [upd_ne (ne_of_none h2 hp)]; exact h2⟩
theorem SOk.grow (so : SOk G s S) (hp : s.H p = none) (o : HO) : SOk G (s.put p o) S := by
  refine ⟨so.len, so.nd, fun a ha => ?_, so.ka, fun n u a h1 h2 => ?_⟩
  · obtain ⟨u, e⟩ := so.tr a ha
    exact ⟨u, by show upd s.H p o a = some u; rw [upd_ne (ne_of_none e hp)]; exact e⟩
  · refine (so.ob n u a h1 h2).mono (fr_grow so hp o) (fun z => z) (fun z => ?_)
    obtain ⟨w, e⟩ := so.tr a z
    exact upd_ne (ne_of_none e hp)
/-- a new object that is hidden -/
def Sx.putH (s : Sx) (p : Addr) (o : HO) : Sx := ⟨p :: s.η, s.ρ, s.κ, upd s.H p o⟩
theorem fr_growH (so : SOk G s S) (hp : s.H p = none) (o : HO) : Fr s (s.putH p o) := by
  refine ⟨fun b u h => ?_, ⟨[], by simp [Sx.putH]⟩, rfl, fun a ha => upd_ne (fun z => so.notκ hp (by rw [← z]; exact ha))⟩
  obtain ⟨h1, h2⟩ := hid_some.mp h
  refine hid_some.mpr ⟨fun z => ?_, ?_⟩
  · rcases List.mem_cons.mp z with e | z
    · rw [e, hp] at h2; cases h2
    · exact h1 z
  · show upd s.H p o b = some u
    rw [upd_ne (ne_of_none h2 hp)]; exact h2
theorem SOk.growH (so : SOk G s S) (hp : s.H p = none) (o : HO) : SOk G (s.putH p o) S := by
  refine ⟨so.len, so.nd, fun a ha => ?_, fun a ha => ⟨List.mem_cons_of_mem _ (so.ka a ha).1, (so.ka a ha).2⟩, fun n u a h1 h2 => ?_⟩
  · rcases List.mem_cons.mp ha with e | ha
    · exact ⟨o, by rw [e]; exact upd_same⟩
    · obtain ⟨u, e⟩ := so.tr a ha
      exact ⟨u, by show upd s.H p o a = some u; rw [upd_ne (ne_of_none e hp)]; exact e⟩
  · refine (so.ob n u a h1 h2).mono (fr_growH so hp o) (fun z => List.mem_cons_of_mem _ z) (fun z => ?_)
    obtain ⟨w, e⟩ := so.tr a z
    exact upd_ne (ne_of_none e hp)
/-- a new list, a new tuple -/
theorem SOk.newList (so : SOk G s S) (hp : s.H p = none) {vs : List V} {xs : List Vl} (r : RepVs G s vs xs) : RvOk G (s.putH p (.lst vs)) (.ref p) (.new xs) :=
  ⟨p, vs, rfl, List.mem_cons_self, so.notρ hp, so.notκ hp, upd_same, r.mono (fr_growH so hp _)⟩
theorem SOk.newTup (so : SOk G s S) (hp : s.H p = none) {vs : List V} {ds : List PyData} (r : DlAll G.K s.vis vs ds) : RepV G (s.put p (.tup vs)) (.ref p) (.dat (.tuple ds)) :=
  .tup (xs := vs) (.inl (.inl (hid_some.mpr ⟨so.notη hp, upd_same⟩))) (dlAll_mono (fr_grow so hp _).same ds vs r)
end
end Bk
/-! text BkB -/
set_option Elab.async false
set_option linter.all false
set_option maxRecDepth 100000
set_option maxHeartbeats 2000000
set_option autoImplicit false
/-! BkB: expressions. -/
namespace Bk
open PySem PySem.Spec PyProof.Rows L2

abbrev Op1 := Vl → Sto → Option (Rv × Sto)
abbrev Op2 := Vl → Vl → Sto → Option (Rv × Sto)
abbrev OpN := List Vl → Sto → Option (Rv × Sto)
def lift {α : Type} (x : Option (α × Sto)) : Out α := match x with
  | some (a, S) => .ok a S
  | none => .fail
@[simp] theorem lift_some {α : Type} (a : α) (S : Sto) : lift (some (a, S)) = .ok a S := rfl
@[simp] theorem lift_none {α : Type} : lift (none : Option (α × Sto)) = .fail := rfl

section
variable {X : Cx} {G : Gx} {Wx : WX}
/-- what stands behind an operation by values -/
def Aft (G : Gx) (s : Sx) (S' : Sto) (res : Rv) (Q : VK) : Prop := ∀ t v, Fr s t → SOk G t S' → RvOk G t v res → Q v t.H
def RelOp1 (G : Gx) (r : V → Hp → VK → Prop) (f : Op1) : Prop := ∀ (s : Sx) (S : Sto) (x : V) (a : Vl) (res : Rv) (S' : Sto), SOk G s S → RepV G s x a → f a S = some (res, S') → ∀ Q, Aft G s S' res Q → r x s.H Q
def RelOp2 (G : Gx) (r : R2) (f : Op2) : Prop := ∀ (s : Sx) (S : Sto) (x y : V) (a b : Vl) (res : Rv) (S' : Sto), SOk G s S → RepV G s x a → RepV G s y b → f a b S = some (res, S') → ∀ Q, Aft G s S' res Q → r x y s.H Q
def RelOpN (G : Gx) (r : List V → Hp → VK → Prop) (f : OpN) : Prop := ∀ (s : Sx) (S : Sto) (xs : List V) (as : List Vl) (res : Rv) (S' : Sto), SOk G s S → RepVs G s xs as → f as S = some (res, S') → ∀ Q, Aft G s S' res Q → r xs s.H Q
theorem Post.aft {s : Sx} {env : Ev} {σ : Sg} {x : Option (Rv × Sto)} {Q : VK} (eo : EOk G s env σ) (h : Post G Wx s env σ (RvOk G) (lift x) Q) : ∃ res S', x = some (res, S') ∧ Aft G s S' res Q := by
  cases x with
  | none => exact h.elim
  | some p => exact ⟨p.1, p.2, rfl, fun t v f so r => h t v f so (eo.mono f) r⟩
def m1 (ma : MW) (f : Op1) : ME := fun env S => (ma env S).bind fun x S => lift (f x S)
def m2 (ma mb : MW) (f : Op2) : ME := fun env S => (ma env S).bind fun x S => (mb env S).bind fun y S => lift (f x y S)
def mN (ma : MA) (f : OpN) : ME := fun env S => (ma env S).bind fun x S => lift (f x S)
theorem tUn_imp {r : V → Hp → VK → Prop} {f : Op1} {ma : MW} (hr : RelOp1 G r f) (σ : Sg) (H : Hp) (Q : VK) (h : tE G Wx (m1 ma f) σ H Q) : tUn r (tW G Wx ma) σ H Q := by
  obtain ⟨s, S, env, rfl, so, eo, h⟩ := h
  refine ⟨s, S, env, rfl, so, eo, (Post.bind h).imp fun v H1 ⟨t, a, S1, e, f, so, eo, rv, p⟩ => ?_⟩
  subst e
  obtain ⟨res, S', e, q⟩ := p.aft eo
  exact hr t S1 v a res S' so rv e Q q
theorem tOp_imp {r : R2} {f : Op2} {ma mb : MW} (hr : RelOp2 G r f) (σ : Sg) (H : Hp) (Q : VK) (h : tE G Wx (m2 ma mb f) σ H Q) : tOp r (tW G Wx ma) (tW G Wx mb) σ H Q := by
  obtain ⟨s, S, env, rfl, so, eo, h⟩ := h
  refine ⟨s, S, env, rfl, so, eo, (Post.bind h).imp fun v H1 ⟨t, a, S1, e, f, so, eo, rv, p⟩ => ?_⟩
  subst e
  refine ⟨t, S1, env, rfl, so, eo, (Post.bind p).imp fun w H2 ⟨u, b, S2, e, f2, so, eo, rw', p⟩ => ?_⟩
  subst e
  obtain ⟨res, S', e, q⟩ := p.aft eo
  exact hr u S2 v w a b res S' so (rv.mono f2) rw' e Q q
theorem tCB_imp {r : List V → Hp → VK → Prop} {f : OpN} {ma : MA} (hr : RelOpN G r f) (σ : Sg) (H : Hp) (Q : VK) (h : tE G Wx (mN ma f) σ H Q) : tCB r (tA G Wx ma) σ H Q := by
  obtain ⟨s, S, env, rfl, so, eo, h⟩ := h
  refine ⟨s, S, env, rfl, so, eo, (Post.bind h).imp fun v H1 ⟨t, a, S1, e, f, so, eo, rv, p⟩ => ?_⟩
  subst e
  obtain ⟨res, S', e, q⟩ := p.aft eo
  exact hr t S1 v a res S' so rv e Q q

/-! ### a result as a value -/
def argw : Rv → Sto → Option (Vl × Sto)
  | .val w, S => some (w, S)
  | .new xs, S => match allDat xs with
    | some ds => some (.dat (.list ds), S)
    | none => some (.ref S.length, S ++ [.lst xs])
@[simp] theorem argw_val (w : Vl) (S : Sto) : argw (.val w) S = some (w, S) := rfl
@[simp] theorem argw_new (ds : List PyData) (S : Sto) : argw (.new (ds.map Vl.dat)) S = some (.dat (.list ds), S) := by simp [argw]
theorem Post.arg {s : Sx} {env : Ev} {σ : Sg} {r : Rv} {S : Sto} {v : V} {Q : VK} (so : SOk G s S) (eo : EOk G s env σ) (rv : RvOk G s v r) (h : Post G Wx s env σ (RepV G) (lift (argw r S)) Q) : Q v s.H := by
  cases r with
  | val w => exact h s v (Fr.refl s) so eo rv
  | new xs =>
    cases e : allDat xs with
    | some ds =>
      simp only [argw, e] at h
      rw [allDat_eq e] at rv
      obtain ⟨t, eH, f, so', eo', r'⟩ := freeze rv so eo
      rw [← eH]
      exact h t v f so' eo' r'
    | none =>
      simp only [argw, e] at h
      obtain ⟨t, eH, f, so', eo', r'⟩ := thaw rv so eo
      rw [← eH]
      exact h t v f so' eo' r'
def mw (m : ME) : MW := fun env S => (m env S).bind fun r S => lift (argw r S)
theorem RE.rw {e : Expr} {m : ME} (h : RE X G Wx e m) : RW X G Wx e (mw m) := ⟨h.pe.imp fun σ H Q h => by
  obtain ⟨s, S, env, rfl, so, eo, h⟩ := h
  refine ⟨s, S, env, rfl, so, eo, (Post.bind h).imp fun v H1 ⟨t, a, S1, e, f, so, eo, rv, p⟩ => ?_⟩
  subst e
  exact Post.arg so eo rv p⟩
def me (m : MW) : ME := fun env S => (m env S).bind fun w S => .ok (.val w) S
theorem RW.re {e : Expr} {m : MW} (h : RW X G Wx e m) : RE X G Wx e (me m) := ⟨h.pe.imp fun σ H Q h => by
  obtain ⟨s, S, env, rfl, so, eo, h⟩ := h
  refine ⟨s, S, env, rfl, so, eo, (Post.bind h).imp fun v H1 ⟨t, a, S1, e, f, so, eo, rv, p⟩ => ?_⟩
  subst e
  exact p t v (Fr.refl t) so eo rv⟩

/-! ### names, constants -/
def mVar (i : Nat) : MW := fun env S => match env[i]? with
  | some (some w) => .ok w S
  | _ => .fail
theorem rw_var (i : Nat) {x : Str} {pos : Pos} (hN : X.N[i]? = some x := by rfl) (hv : Vis X.env.scope x := by first | exact Or.inl rfl | exact Or.inr (Or.inl rfl) | exact Or.inr (Or.inr rfl)) (hd : (x == ("__debug__" : Str)) = false := by decide)
    (hcd : (x == ("__classdict__" : Str)) = false := by decide) : RW X G Wx (.Name x pos) (mVar i) := ⟨(pe_var hN hv hd hcd).imp fun σ H Q h => by
  obtain ⟨s, S, env, rfl, so, eo, h⟩ := h
  unfold mVar at h
  split at h
  · rename_i w e
    obtain ⟨v, e2, r⟩ := eo.at_ i w e
    exact ⟨v, e2, h s v (Fr.refl s) so eo r⟩
  · exact h.elim⟩
def mC (d : PyData) : MW := fun _ S => .ok (.dat d) S
theorem tC_imp {v : V} {d : PyData} (hd : ∀ H, Dl G.K H v d) (σ : Sg) (H : Hp) (Q : VK) (h : tW G Wx (mC d) σ H Q) : tC v σ H Q := by
  obtain ⟨s, S, env, rfl, so, eo, h⟩ := h
  exact h s v (Fr.refl s) so eo (hd _)
theorem rw_int {i : Int} {j pos} : RW X G Wx (.Constant (.int i) j pos) (mC (.int i)) := ⟨pe_int.imp (tC_imp fun _ => .int i)⟩
theorem rw_bl {b : Bool} {j pos} : RW X G Wx (.Constant (.bool b) j pos) (mC (.bool b)) := ⟨pe_bl.imp (tC_imp fun _ => .bl b)⟩
theorem rw_non {j pos} : RW X G Wx (.Constant .none j pos) (mC .none) := ⟨pe_non.imp (tC_imp fun _ => .non)⟩
theorem rw_str {x : Str} {j pos} : RW X G Wx (.Constant (.str x) j pos) (mC (.str x)) := ⟨pe_str.imp (tC_imp fun _ => .str x)⟩
/-- a module's constant -/
structure GCon (X : Cx) (G : Gx) (x : Str) (d : PyData) : Prop where
  ex : ∃ (v : V) (u : Value), X.mg x = some u ∧ RelV v u ∧ ∀ H, Dl G.K H v d
theorem rw_glob {x : Str} {d : PyData} {pos : Pos} (hg : Gl X x) (c : GCon X G x d) (hd : (x == ("__debug__" : Str)) = false := by decide) : RW X G Wx (.Name x pos) (mC d) := by
  obtain ⟨v, u, h1, h2, h3⟩ := c.ex
  exact ⟨(pe_glob hg h1 h2 hd).imp (tC_imp h3)⟩

/-! ### operators -/
theorem re_bin {op : Operator} {r : R2} {f : Op2} {a b : Expr} {ma mb : MW} {pos : Pos} (ho : OpR X (binaryOp op) r) (hr : RelOp2 G r f) (ha : RW X G Wx a ma) (hb : RW X G Wx b mb) : RE X G Wx (.BinOp a op b pos) (m2 ma mb f) :=
  ⟨(pe_op ho ha.pe hb.pe).imp (tOp_imp hr)⟩
theorem re_un {op : UnaryOp} {r : V → Hp → VK → Prop} {f : Op1} {a : Expr} {ma : MW} {pos : Pos} (ho : UnR X (unaryOp op) r) (hr : RelOp1 G r f) (ha : RW X G Wx a ma) : RE X G Wx (.UnaryOp op a pos) (m1 ma f) :=
  ⟨(pe_un ho ha.pe).imp (tUn_imp hr)⟩
theorem re_cmp {op : CmpOp} {r : R2} {f : Op2} {a b : Expr} {ma mb : MW} {pos : Pos} (ho : OpR X (compareOp op) r) (hr : RelOp2 G r f) (ha : RW X G Wx a ma) (hb : RW X G Wx b mb) (hm : behindInMarks op b = false := by first | exact nobehind _ (by decide) (by decide) | rfl) :
    RE X G Wx (.Compare a [op] [b] pos) (m2 ma mb f) := ⟨(pe_cmpR ho ha.pe hb.pe hm).imp (tOp_imp hr)⟩
theorem RelOp2.or {r r' : R2} {f f' : Op2} (h : RelOp2 G r f) (h' : RelOp2 G r' f') : RelOp2 G (fun x y H Q => r x y H Q ∨ r' x y H Q) (fun a b S => (f a b S).or (f' a b S)) := by
  intro s S x y a b res S' so ra rb e Q q
  have e : (f a b S).or (f' a b S) = some (res, S') := e
  cases e1 : f a b S with
  | some p =>
    rw [e1] at e
    cases e
    exact .inl (h s S x y a b res S' so ra rb e1 Q q)
  | none =>
    rw [e1] at e
    exact .inr (h' s S x y a b res S' so ra rb e Q q)
end
end Bk
/-! text BkC -/
set_option Elab.async false
set_option linter.all false
set_option maxRecDepth 100000
set_option maxHeartbeats 2000000
set_option autoImplicit false
/-! BkC: operators by values, tests, displays, calls. -/
namespace Bk
open PySem PySem.Spec PyProof.Rows L2
section
variable {X : Cx} {G : Gx} {Wx : WX} {k : Nat}

/-! ### ints -/
def iop (c : Int → Int → Bool) (f : Int → Int → PyData) : Op2 := fun a b S => match a, b with
  | .dat (.int i), .dat (.int j) => if c i j = true then some (.val (.dat (f i j)), S) else none
  | _, _ => none
@[simp] theorem iop_ii (c : Int → Int → Bool) (f : Int → Int → PyData) (i j : Int) (S : Sto) : iop c f (.dat (.int i)) (.dat (.int j)) S = if c i j = true then some (.val (.dat (f i j)), S) else none := rfl
theorem rel_iop {C : Int → Int → Prop} {g : Int → Int → V} {c : Int → Int → Bool} {f : Int → Int → PyData} (hc : ∀ i j, c i j = true → C i j) (hg : ∀ i j H, Dl G.K H (g i j) (f i j)) : RelOp2 G (rI C g) (iop c f) := by
  intro s S x y a b res S' so ra rb e Q q
  unfold iop at e
  split at e
  · rename_i i j
    split at e
    · rename_i h
      cases e
      cases ra; cases rb
      exact ⟨i, j, rfl, rfl, hc i j h, q s _ (Fr.refl s) so (hg i j _)⟩
    · cases e
  · cases e
/-- a comparison by values -/
structure Cm (X : Cx) (G : Gx) (op : CmpOp) (f : Op2) : Prop where
  ex : ∃ r, OpR X (compareOp op) r ∧ RelOp2 G r f
theorem re_c {op : CmpOp} {f : Op2} {a b : Expr} {ma mb : MW} {pos : Pos} (c : Cm X G op f) (ha : RW X G Wx a ma) (hb : RW X G Wx b mb) (hm : behindInMarks op b = false := by first | exact nobehind _ (by decide) (by decide) | rfl) : RE X G Wx (.Compare a [op] [b] pos) (m2 ma mb f) := by
  obtain ⟨r, h1, h2⟩ := c.ex
  exact re_cmp h1 h2 ha hb hm
abbrev yesC : Int → Int → Bool := fun _ _ => true
theorem rel_iop0 {g : Int → Int → V} {f : Int → Int → PyData} (hg : ∀ i j H, Dl G.K H (g i j) (f i j)) : RelOp2 G (rI0 g) (iop yesC f) := by
  intro s S x y a b res S' so ra rb e Q q
  unfold iop at e
  split at e
  · rename_i i j
    rw [if_pos rfl] at e
    cases e
    cases ra; cases rb
    exact ⟨i, j, rfl, rfl, q s _ (Fr.refl s) so (hg i j _)⟩
  · cases e
def mulC (i j : Int) : Bool := decide (i.natAbs.log2 + j.natAbs.log2 < 1000000)
def divC (_ j : Int) : Bool := decide (0 < j ∧ j.natAbs.log2 < 9000)
def modC (_ j : Int) : Bool := decide (0 < j)
def powC (i j : Int) : Bool := decide (0 ≤ j ∧ j ≤ 1000000 ∧ i.natAbs < 2 ^ 64)
def isub : Op2 := iop yesC fun i j => .int (i - j)
def imul : Op2 := iop mulC fun i j => .int (i * j)
def idiv : Op2 := iop divC fun i j => .int (i / j)
def imod : Op2 := iop modC fun i j => .int (i % j)
def ipow : Op2 := iop powC fun i j => .int (i ^ j.toNat)
def ilt : Op2 := iop yesC fun i j => .bool (decide (i < j))
def ile : Op2 := iop yesC fun i j => .bool (decide (i ≤ j))
def igt : Op2 := iop yesC fun i j => .bool (decide (j < i))
def ige : Op2 := iop yesC fun i j => .bool (decide (j ≤ i))
theorem re_sub {a b : Expr} {ma mb : MW} {pos : Pos} (ha : RW X G Wx a ma) (hb : RW X G Wx b mb) : RE X G Wx (.BinOp a .Sub b pos) (m2 ma mb isub) := re_bin op_sub (rel_iop0 fun i j _ => .int _) ha hb
theorem re_mul {a b : Expr} {ma mb : MW} {pos : Pos} (ha : RW X G Wx a ma) (hb : RW X G Wx b mb) : RE X G Wx (.BinOp a .Mult b pos) (m2 ma mb imul) :=
  re_bin op_mulW (rel_iop (fun i j h => show CMulW i j from of_decide_eq_true (p := i.natAbs.log2 + j.natAbs.log2 < 1000000) h) fun i j _ => .int _) ha hb
theorem re_div {a b : Expr} {ma mb : MW} {pos : Pos} (ha : RW X G Wx a ma) (hb : RW X G Wx b mb) : RE X G Wx (.BinOp a .FloorDiv b pos) (m2 ma mb idiv) :=
  re_bin op_fdivW (rel_iop (fun i j h => show CDivW i j from of_decide_eq_true (p := 0 < j ∧ j.natAbs.log2 < 9000) h) fun i j _ => .int _) ha hb
theorem re_mod {a b : Expr} {ma mb : MW} {pos : Pos} (ha : RW X G Wx a ma) (hb : RW X G Wx b mb) : RE X G Wx (.BinOp a .Mod b pos) (m2 ma mb imod) :=
  re_bin op_mod (rel_iop (fun _ _ h => of_decide_eq_true h) fun i j _ => .int _) ha hb
theorem re_pow {a b : Expr} {ma mb : MW} {pos : Pos} (ha : RW X G Wx a ma) (hb : RW X G Wx b mb) : RE X G Wx (.BinOp a .Pow b pos) (m2 ma mb ipow) :=
  re_bin op_pow (rel_iop (fun i j h => show CPow i j from of_decide_eq_true (p := 0 ≤ j ∧ j ≤ 1000000 ∧ i.natAbs < 2 ^ 64) h) fun i j _ => .int _) ha hb
theorem cm_lt : Cm X G .Lt ilt := ⟨_, op_lt, rel_iop0 fun i j _ => .bl _⟩
theorem cm_le : Cm X G .LtE ile := ⟨_, op_le, rel_iop0 fun i j _ => .bl _⟩
theorem cm_gt : Cm X G .Gt igt := ⟨_, op_gt, rel_iop0 fun i j _ => .bl _⟩
theorem cm_ge : Cm X G .GtE ige := ⟨_, op_ge, rel_iop0 fun i j _ => .bl _⟩
def ineg : Op1 := fun a S => match a with
  | .dat (.int i) => some (.val (.dat (.int (-i))), S)
  | _ => none
theorem re_neg {a : Expr} {ma : MW} {pos : Pos} (ha : RW X G Wx a ma) : RE X G Wx (.UnaryOp .USub a pos) (m1 ma ineg) := re_un un_neg (by
  intro s S x a res S' so ra e Q q
  unfold ineg at e
  split at e
  · rename_i i
    cases e; cases ra
    exact ⟨i, rfl, q s _ (Fr.refl s) so (.int _)⟩
  · cases e) ha

/-! ### data looked at -/
def pyOf (S : Sto) : Vl → Option PyData
  | .dat d => some d
  | .ref n => match S[n]? with
    | some (.lst xs) => (allDat xs).map .list
    | _ => none
  | .fn _ => none
  | .ro ds => some (.list ds)
@[simp] theorem pyOf_dat (S : Sto) (d : PyData) : pyOf S (.dat d) = some d := rfl
theorem dlAll_of {s : Sx} {vs : List V} {ds : List PyData} (h : RepVs G s vs (ds.map Vl.dat)) : DlAll G.K s.H vs ds := dlAll_mono vis_all ds vs (repVs_dat h)
theorem pyOf_ok {s : Sx} {S : Sto} (so : SOk G s S) {v : V} : ∀ {w : Vl} {d : PyData}, RepV G s v w → pyOf S w = some d → Dp G.K s.H v d
  | .dat d, d', r, e => by
    cases e
    exact dl_dp d v (dl_mono vis_all d v r)
  | .ref n, d, ⟨a, h, ev⟩, e => by
    simp only [pyOf] at e
    split at e
    · rename_i xs hx
      cases hd : allDat xs with
      | none => rw [hd] at e; cases e
      | some ds =>
        rw [hd] at e
        cases e
        rw [allDat_eq hd] at hx
        obtain ⟨_, vs, hH, rv⟩ := so.ob n _ a hx h
        rw [ev]
        exact .lst (.inl (.inl hH)) (dlAll_dp ds vs (dlAll_of rv))
    · cases e
  | .fn _, _, _, e => by cases e
  | .ro ds, d, ⟨a, ns, ev, h1, h2⟩, e => by
    cases e
    rw [ev]
    exact .lst (seqL_mono vis_all h1) (dlAll_dp ds ns (dlAll_mono vis_all ds ns h2))
def eqv (neg : Bool) : Op2 := fun a b S => match pyOf S a, pyOf S b with
  | some d, some e => if (SeqAt.shaped d && SeqAt.shaped e) = true then some (.val (.dat (.bool (PyData.eqv d e != neg))), S) else none
  | _, _ => none
@[simp] theorem eqv_dd (neg : Bool) (d e : PyData) (S : Sto) : eqv neg (.dat d) (.dat e) S = if (SeqAt.shaped d && SeqAt.shaped e) = true then some (.val (.dat (.bool (PyData.eqv d e != neg))), S) else none := rfl
theorem cm_eq (hr : Room k X.A) (hK : G.K = X.K := by rfl) : Cm X G .Eq (eqv false) := ⟨_, op_eqD hr.units, by
  intro s S x y a b res S' so ra rb e Q q
  unfold eqv at e
  split at e
  · rename_i d d' h1 h2
    split at e
    · rename_i hs
      cases e
      obtain ⟨s1, s2⟩ := Bool.and_eq_true_iff.mp hs
      refine ⟨d, d', hK ▸ pyOf_ok so ra h1, hK ▸ pyOf_ok so rb h2, s1, s2, ?_⟩
      refine q s _ (Fr.refl s) so ?_
      show Dl G.K s.vis (.bl (PyData.eqv d d')) (.bool (PyData.eqv d d' != false))
      rw [show (PyData.eqv d d' != false) = PyData.eqv d d' by simp]
      exact .bl _
    · cases e
  · cases e⟩
theorem cm_ne (hr : Room k X.A) (hK : G.K = X.K := by rfl) : Cm X G .NotEq (eqv true) := ⟨_, op_neD hr.units, by
  intro s S x y a b res S' so ra rb e Q q
  unfold eqv at e
  split at e
  · rename_i d d' h1 h2
    split at e
    · rename_i hs
      cases e
      obtain ⟨s1, s2⟩ := Bool.and_eq_true_iff.mp hs
      refine ⟨d, d', hK ▸ pyOf_ok so ra h1, hK ▸ pyOf_ok so rb h2, s1, s2, ?_⟩
      refine q s _ (Fr.refl s) so ?_
      show Dl G.K s.vis (.bl (!PyData.eqv d d')) (.bool (PyData.eqv d d' != true))
      rw [show (PyData.eqv d d' != true) = !PyData.eqv d d' by simp]
      exact .bl _
    · cases e
  · cases e⟩
/-- is None, is not None -/
def isNone : Vl → Bool
  | .dat .none => true
  | _ => false
theorem isNone_ok {s : Sx} {v : V} : ∀ {w : Vl}, RepV G s v w → decide (v = .non) = isNone w
  | .dat .none, h => by cases h; rfl
  | .dat (.bool _), h => by cases h; rfl
  | .dat (.int _), h => by cases h; rfl
  | .dat (.str _), h => by cases h; rfl
  | .dat (.list _), h => by cases h; rfl
  | .dat (.tuple _), h => by cases h; rfl
  | .dat (.dict _), h => by cases h
  | .ref _, ⟨_, _, e⟩ => by rw [e]; rfl
  | .fn _, h => by rw [show v = _ from h]; rfl
  | .ro _, ⟨_, _, e, _⟩ => by rw [e]; rfl
def opIsN (neg : Bool) : Op2 := fun a b S => match b with
  | .dat .none => some (.val (.dat (.bool (isNone a != neg))), S)
  | _ => none
theorem cm_isN : Cm X G .Is (opIsN false) := ⟨_, op_isN, by
  intro s S x y a b res S' so ra rb e Q q
  unfold opIsN at e
  split at e
  · cases e
    cases rb
    refine ⟨rfl, ?_⟩
    rw [isNone_ok ra]
    refine q s _ (Fr.refl s) so ?_
    rw [show (isNone a != false) = isNone a by simp]
    exact Dl.bl _
  · cases e⟩
theorem cm_notN : Cm X G .IsNot (opIsN true) := ⟨_, op_notN, by
  intro s S x y a b res S' so ra rb e Q q
  unfold opIsN at e
  split at e
  · cases e
    cases rb
    refine ⟨rfl, ?_⟩
    rw [isNone_ok ra]
    refine q s _ (Fr.refl s) so ?_
    rw [show (isNone a != true) = !isNone a by simp]
    exact Dl.bl _
  · cases e⟩

/-! ### sums of ints, texts, tuples, lists -/
def lstOf (S : Sto) : Vl → Option (List Vl)
  | .dat (.list ds) => some (ds.map .dat)
  | .ref n => match S[n]? with
    | some (.lst xs) => some xs
    | _ => none
  | _ => none
theorem lstOf_ok {s : Sx} {S : Sto} (so : SOk G s S) {v : V} : ∀ {w : Vl} {xs : List Vl}, RepV G s v w → lstOf S w = some xs → ∃ a vs, v = .ref a ∧ s.H a = some (.lst vs) ∧ RepVs G s vs xs
  | .dat (.list ds), _, r, e => by
    cases e
    cases r with
    | lst h1 h2 => exact ⟨_, _, rfl, vis_all _ _ h1, repVs_of h2⟩
  | .ref n, xs, ⟨a, h, ev⟩, e => by
    simp only [lstOf] at e
    split at e
    · rename_i ys hx
      cases e
      obtain ⟨_, vs, hH, rv⟩ := so.ob n _ a hx h
      exact ⟨a, vs, ev, hH, rv⟩
    · cases e
  | .dat .none, _, _, e => by cases e
  | .dat (.bool _), _, _, e => by cases e
  | .dat (.int _), _, _, e => by cases e
  | .dat (.str _), _, _, e => by cases e
  | .dat (.tuple _), _, _, e => by cases e
  | .dat (.dict _), _, _, e => by cases e
  | .fn _, _, _, e => by cases e
  | .ro _, _, _, e => by cases e
def addV : Op2 := fun a b S => match a, b with
  | .dat (.int i), .dat (.int j) => some (.val (.dat (.int (i + j))), S)
  | .dat (.str x), .dat (.str y) => if x.length + y.length ≤ sizeLine then some (.val (.dat (.str (x ++ y))), S) else none
  | .dat (.tuple x), .dat (.tuple y) => if x.length + y.length ≤ sizeLine then some (.val (.dat (.tuple (x ++ y))), S) else none
  | _, _ => match lstOf S a, lstOf S b with
    | some x, some y => if x.length + y.length ≤ sizeLine then some (.new (x ++ y), S) else none
    | _, _ => none
theorem dlAll_len {K : PySem.W.Frag} {H : Hp} : ∀ {vs : List V} {ds : List PyData}, DlAll K H vs ds → vs.length = ds.length
  | _, [], h => by cases h; rfl
  | _, d :: ds, h => by
    cases h with
    | cons h1 h2 => simp [dlAll_len h2]
theorem dlAll_append {K : PySem.W.Frag} {H : Hp} {us : List V} {es : List PyData} (h' : DlAll K H us es) : ∀ {vs : List V} {ds : List PyData}, DlAll K H vs ds → DlAll K H (vs ++ us) (ds ++ es)
  | _, [], h => by cases h; exact h'
  | _, d :: ds, h => by
    cases h with
    | cons h1 h2 => exact .cons h1 (dlAll_append h' h2)
theorem Paired.app {α β : Type} {F : α → β → Prop} : ∀ {xs us : List α} {ys ws : List β}, Paired F xs ys → Paired F us ws → Paired F (xs ++ us) (ys ++ ws)
  | _, _, _, _, .nil, h => h
  | _, _, _, _, .cons a b, h => .cons a (Paired.app b h)
theorem re_add {a b : Expr} {ma mb : MW} {pos : Pos} (ha : RW X G Wx a ma) (hb : RW X G Wx b mb) (hK : G.K = X.K := by rfl) : RE X G Wx (.BinOp a .Add b pos) (m2 ma mb addV) :=
  re_bin (OpR.or (OpR.or op_add op_add_str) (OpR.or op_catA op_cat)) (by
  intro s S x y a b res S' so ra rb e Q q
  unfold addV at e
  split at e
  · rename_i i j
    cases e; cases ra; cases rb
    exact .inl (.inl ⟨i, j, rfl, rfl, q s _ (Fr.refl s) so (.int _)⟩)
  · rename_i u w
    split at e
    · rename_i hl
      cases e; cases ra; cases rb
      exact .inl (.inr ⟨u, w, rfl, rfl, hl, q s _ (Fr.refl s) so (.str _)⟩)
    · cases e
  · rename_i u w
    split at e
    · rename_i hl
      cases e
      cases ra with
      | tup h1 h2 =>
        cases rb with
        | tup h3 h4 =>
          rename_i a1 vs1 a2 vs2
          refine .inr (.inl ⟨a1, a2, vs1, vs2, rfl, rfl, hK ▸ seqT_mono vis_all h1, hK ▸ seqT_mono vis_all h3, by rw [dlAll_len h2, dlAll_len h4]; exact hl, fun z => ?_, fun z z2 => ?_, fun z z2 p hp => ?_⟩)
          · subst z
            cases h2
            exact q s _ (Fr.refl s) so (.tup h3 h4)
          · subst z2
            cases h4
            rw [List.append_nil] at q
            exact q s _ (Fr.refl s) so (.tup h1 h2)
          · exact q _ _ (fr_grow so hp _) (so.grow hp _) (so.newTup hp (dlAll_append h4 h2))
    · cases e
  · split at e
    · rename_i u w h1 h2
      split at e
      · rename_i hl
        cases e
        obtain ⟨a1, vs1, e1, hH1, r1⟩ := lstOf_ok so ra h1
        obtain ⟨a2, vs2, e2, hH2, r2⟩ := lstOf_ok so rb h2
        refine .inr (.inr ⟨a1, a2, vs1, vs2, e1, e2, hH1, hH2, by rw [r1.length, r2.length]; exact hl, fun p hp => ?_⟩)
        exact q _ _ (fr_growH so hp _) (so.growH hp _) (so.newList hp (Paired.app r1 r2))
      · cases e
    · cases e) ha hb
end
end Bk
/-! text BkD -/
set_option Elab.async false
set_option linter.all false
set_option maxRecDepth 100000
set_option maxHeartbeats 2000000
set_option autoImplicit false
/-! BkD: tests, displays, arguments, subscripts, slices, calls, built-ins. -/
namespace Bk
open PySem PySem.Spec PyProof.Rows L2
section
variable {X : Cx} {G : Gx} {Wx : WX} {k : Nat}

/-! ### tests -/
def boolOf : Vl → Option Bool
  | .dat (.bool b) => some b
  | _ => none
def mb (m : MW) : MT := fun env S => (m env S).bind fun w S => match boolOf w with
  | some b => .ok b S
  | none => .fail
theorem boolOf_ok {s : Sx} {v : V} {w : Vl} {b : Bool} (r : RepV G s v w) (e : boolOf w = some b) : v = .bl b := by
  unfold boolOf at e
  split at e
  · cases e; cases r; rfl
  · cases e
theorem tB_imp {m : MW} (σ : Sg) (H : Hp) (Q : Bool → Hp → Prop) (h : tT G Wx (mb m) σ H Q) : tW G Wx m σ H fun x H' => ∃ b, x = .bl b ∧ Q b H' := by
  obtain ⟨s, S, env, rfl, so, eo, h⟩ := h
  refine ⟨s, S, env, rfl, so, eo, (Post.bind h).imp fun v H1 ⟨t, a, S1, e, f, so, eo, rv, p⟩ => ?_⟩
  subst e
  cases e2 : boolOf a with
  | none => simp only [e2] at p; exact p.elim
  | some b =>
    simp only [e2] at p
    exact ⟨b, boolOf_ok rv e2, p t b (Fr.refl t) so eo rfl⟩
/-- any expression that is no comparison, not, and, or -/
theorem rt_val {e : Expr} {m : MW} (h : RW X G Wx e m) (he : ∀ whole, isTrue e X.env whole = (do let v ← whole; standAt e.pos; holding [v] (truthy v)) := by intro _; rfl) : RT X G Wx e (mb m) := ⟨(pt_val h.pe he).imp tB_imp⟩
theorem rt_c {op : CmpOp} {f : Op2} {a b : Expr} {ma mb' : MW} {pos : Pos} (c : Cm X G op f) (ha : RW X G Wx a ma) (hb : RW X G Wx b mb') (hm : behindInMarks op b = false := by first | exact nobehind _ (by decide) (by decide) | rfl) :
    RT X G Wx (.Compare a [op] [b] pos) (mb (mw (m2 ma mb' f))) := by
  obtain ⟨r, ho, hr⟩ := c.ex
  refine ⟨(pt_cmpR ho ha.pe hb.pe hm).imp fun σ H Q h => ?_⟩
  have h1 := tB_imp σ H Q h
  have h2 : tE G Wx (m2 ma mb' f) σ H fun x H' => ∃ b, x = .bl b ∧ Q b H' := by
    obtain ⟨s, S, env, rfl, so, eo, h⟩ := h1
    refine ⟨s, S, env, rfl, so, eo, (Post.bind h).imp fun v H1 ⟨t, a, S1, e, f, so, eo, rv, p⟩ => ?_⟩
    subst e
    exact Post.arg so eo rv p
  exact tOp_imp hr σ H _ h2
def mnot (m : MT) : MT := fun env S => (m env S).bind fun b S => .ok (!b) S
theorem rt_not {a : Expr} {m : MT} {pos : Pos} (h : RT X G Wx a m) : RT X G Wx (.UnaryOp .Not a pos) (mnot m) := ⟨(pt_not h.pe).imp fun σ H Q h => by
  obtain ⟨s, S, env, rfl, so, eo, h⟩ := h
  refine ⟨s, S, env, rfl, so, eo, (Post.bind h).imp fun b H1 ⟨t, a, S1, e, f, so, eo, rv, p⟩ => ?_⟩
  subst e; cases rv
  exact p t _ (Fr.refl t) so eo rfl⟩
/-- a test whatever its whole is -/
structure RP (X : Cx) (G : Gx) (Wx : WX) (e : Expr) (m : MT) : Prop where
  pe : PW X e (tT G Wx m)
theorem _root_.L2.PW.imp {X : Cx} {e : Expr} {t u : TT} (h : PW X e t) (i : ∀ σ H Q, u σ H Q → t σ H Q) : PW X e u := ⟨fun w pins s σ H Q I q => h.run w pins s σ H Q I (i σ H Q q)⟩
theorem RP.rt {e : Expr} {m : MT} (h : RP X G Wx e m) : RT X G Wx e m := ⟨h.pe.pt⟩
def mand (ma mb : MT) : MT := fun env S => (ma env S).bind fun b S => if b = true then mb env S else .ok false S
def mor (ma mb : MT) : MT := fun env S => (ma env S).bind fun b S => if b = true then .ok true S else mb env S
theorem rp_and1 {a : Expr} {m : MT} {pos : Pos} (h : RT X G Wx a m) : RP X G Wx (.BoolOp .And [a] pos) m := ⟨pw_and1 h.pe⟩
theorem rp_or1 {a : Expr} {m : MT} {pos : Pos} (h : RT X G Wx a m) : RP X G Wx (.BoolOp .Or [a] pos) m := ⟨pw_or1 h.pe⟩
theorem rp_and {a b : Expr} {rest : List Expr} {ma mb : MT} {pos : Pos} (ha : RT X G Wx a ma) (hb : RP X G Wx (.BoolOp .And (b :: rest) pos) mb) : RP X G Wx (.BoolOp .And (a :: b :: rest) pos) (mand ma mb) := ⟨(pw_and ha.pe hb.pe).imp fun σ H Q h => by
  obtain ⟨s, S, env, rfl, so, eo, h⟩ := h
  refine ⟨s, S, env, rfl, so, eo, (Post.bind h).imp fun c H1 ⟨t, a, S1, e, f, so, eo, rv, p⟩ => ?_⟩
  subst e; cases rv
  cases c with
  | true => exact ⟨t, S1, env, rfl, so, eo, p⟩
  | false => exact p t _ (Fr.refl t) so eo rfl⟩
theorem rp_or {a b : Expr} {rest : List Expr} {ma mb : MT} {pos : Pos} (ha : RT X G Wx a ma) (hb : RP X G Wx (.BoolOp .Or (b :: rest) pos) mb) : RP X G Wx (.BoolOp .Or (a :: b :: rest) pos) (mor ma mb) := ⟨(pw_or ha.pe hb.pe).imp fun σ H Q h => by
  obtain ⟨s, S, env, rfl, so, eo, h⟩ := h
  refine ⟨s, S, env, rfl, so, eo, (Post.bind h).imp fun c H1 ⟨t, a, S1, e, f, so, eo, rv, p⟩ => ?_⟩
  subst e; cases rv
  cases c with
  | true => exact p t _ (Fr.refl t) so eo rfl
  | false => exact ⟨t, S1, env, rfl, so, eo, p⟩⟩
/-- as values, of bools -/
def mandV (ma mb : MW) : MW := fun env S => (ma env S).bind fun x S => match boolOf x with
  | some true => mb env S
  | some false => .ok (.dat (.bool false)) S
  | none => .fail
def morV (ma mb : MW) : MW := fun env S => (ma env S).bind fun x S => match boolOf x with
  | some true => .ok (.dat (.bool true)) S
  | some false => mb env S
  | none => .fail
theorem rw_one {a : Expr} {m : MW} {op : BoolOp} {pos : Pos} (h : RW X G Wx a m) : RW X G Wx (.BoolOp op [a] pos) m := ⟨pe_one h.pe⟩
theorem rw_and {a b : Expr} {rest : List Expr} {ma mb : MW} {pos : Pos} (ha : RW X G Wx a ma) (hb : RW X G Wx (.BoolOp .And (b :: rest) pos) mb) : RW X G Wx (.BoolOp .And (a :: b :: rest) pos) (mandV ma mb) := ⟨(pe_and ha.pe hb.pe).imp fun σ H Q h => by
  obtain ⟨s, S, env, rfl, so, eo, h⟩ := h
  refine ⟨s, S, env, rfl, so, eo, (Post.bind h).imp fun c H1 ⟨t, a, S1, e, f, so, eo, rv, p⟩ => ?_⟩
  subst e
  cases e2 : boolOf a with
  | none => simp only [e2] at p; exact p.elim
  | some b =>
    refine ⟨b, boolOf_ok rv e2, ?_⟩
    cases b with
    | true => simp only [e2] at p; exact ⟨t, S1, env, rfl, so, eo, p⟩
    | false => simp only [e2] at p; exact p t _ (Fr.refl t) so eo (.bl _)⟩
theorem rw_or {a b : Expr} {rest : List Expr} {ma mb : MW} {pos : Pos} (ha : RW X G Wx a ma) (hb : RW X G Wx (.BoolOp .Or (b :: rest) pos) mb) : RW X G Wx (.BoolOp .Or (a :: b :: rest) pos) (morV ma mb) := ⟨(pe_or ha.pe hb.pe).imp fun σ H Q h => by
  obtain ⟨s, S, env, rfl, so, eo, h⟩ := h
  refine ⟨s, S, env, rfl, so, eo, (Post.bind h).imp fun c H1 ⟨t, a, S1, e, f, so, eo, rv, p⟩ => ?_⟩
  subst e
  cases e2 : boolOf a with
  | none => simp only [e2] at p; exact p.elim
  | some b =>
    refine ⟨b, boolOf_ok rv e2, ?_⟩
    cases b with
    | false => simp only [e2] at p; exact ⟨t, S1, env, rfl, so, eo, p⟩
    | true => simp only [e2] at p; exact p t _ (Fr.refl t) so eo (.bl _)⟩
def mnotV (m : MW) : MW := fun env S => (m env S).bind fun x S => match boolOf x with
  | some b => .ok (.dat (.bool (!b))) S
  | none => .fail
theorem rw_not {a : Expr} {m : MW} {pos : Pos} (ha : RW X G Wx a m) : RW X G Wx (.UnaryOp .Not a pos) (mnotV m) := ⟨(pe_not ha.pe).imp fun σ H Q h => by
  obtain ⟨s, S, env, rfl, so, eo, h⟩ := h
  refine ⟨s, S, env, rfl, so, eo, (Post.bind h).imp fun c H1 ⟨t, a, S1, e, f, so, eo, rv, p⟩ => ?_⟩
  subst e
  cases e2 : boolOf a with
  | none => simp only [e2] at p; exact p.elim
  | some b =>
    simp only [e2] at p
    exact ⟨b, boolOf_ok rv e2, p t _ (Fr.refl t) so eo (.bl _)⟩⟩
/-- a if t else b -/
def mif (mt : MT) (ma mb : ME) : ME := fun env S => (mt env S).bind fun b S => if b = true then ma env S else mb env S
theorem re_ifExp {c a b : Expr} {mt : MT} {ma mb : ME} {pos : Pos} (hc : RT X G Wx c mt) (ha : RE X G Wx a ma) (hb : RE X G Wx b mb) : RE X G Wx (.IfExp c a b pos) (mif mt ma mb) := ⟨(pe_ifExp hc.pe ha.pe hb.pe).imp fun σ H Q h => by
  obtain ⟨s, S, env, rfl, so, eo, h⟩ := h
  refine ⟨s, S, env, rfl, so, eo, (Post.bind h).imp fun c H1 ⟨t, a, S1, e, f, so, eo, rv, p⟩ => ?_⟩
  subst e; cases rv
  cases c with
  | true => exact ⟨t, S1, env, rfl, so, eo, p⟩
  | false => exact ⟨t, S1, env, rfl, so, eo, p⟩⟩
/-- a ≤ b ≤ c and its like -/
def mchain (ma mb mc : MW) (f g : Op2) : ME := fun env S => (ma env S).bind fun x S => (mb env S).bind fun y S => (lift (f x y S)).bind fun r S => match r with
  | .val (.dat (.bool true)) => (mc env S).bind fun z S => lift (g y z S)
  | .val (.dat (.bool false)) => .ok (.val (.dat (.bool false))) S
  | _ => .fail
theorem chain_imp {r r' : R2} {f g : Op2} {ma mb mc : MW} (hf : RelOp2 G r f) (hg : RelOp2 G r' g) (σ : Sg) (H : Hp) (Q : VK) (h : tE G Wx (mchain ma mb mc f g) σ H Q) : tChain r r' (tW G Wx ma) (tW G Wx mb) (tW G Wx mc) σ H Q := by
  obtain ⟨s, S, env, rfl, so, eo, h⟩ := h
  refine ⟨s, S, env, rfl, so, eo, (Post.bind h).imp fun v H1 ⟨t, a, S1, e, f1, so, eo, rv, p⟩ => ?_⟩
  subst e
  refine ⟨t, S1, env, rfl, so, eo, (Post.bind p).imp fun w H2 ⟨u, b, S2, e, f2, so, eo, rw', p⟩ => ?_⟩
  subst e
  cases e1 : f a b S2 with
  | none => simp only [e1] at p; exact p.elim
  | some res =>
    obtain ⟨res, S3⟩ := res
    simp only [e1, lift_some, Out.bind_ok] at p
    refine hf u S2 v w a b res S3 so (rv.mono f2) rw' e1 _ fun t3 z f3 so3 rz => ?_
    split at p
    · cases rz
      refine ⟨true, rfl, ?_⟩
      rw [if_pos rfl]
      have p := Post.mono (x := (mc env S3).bind fun z S => lift (g b z S)) p f3
      refine ⟨t3, S3, env, rfl, so3, eo.mono f3, (Post.bind p).imp fun w H3 ⟨u4, b4, S4, e, f4, so4, eo4, rw4, p⟩ => ?_⟩
      subst e
      obtain ⟨res, S', e, q⟩ := p.aft eo4
      exact hg u4 S4 _ w b b4 res S' so4 (rw'.mono (f3.trans f4)) rw4 e Q q
    · cases rz
      refine ⟨false, rfl, ?_⟩
      rw [if_neg Bool.false_ne_true]
      exact p t3 _ f3 so3 (eo.mono f3) (.bl _)
    · exact p.elim
theorem re_leLe {a b c : Expr} {ma mb mc : MW} {pos : Pos} (ha : RW X G Wx a ma) (hb : RW X G Wx b mb) (hc : RW X G Wx c mc) (hm : lastMarks [.LtE, .LtE] [b, c] = false := by with_unfolding_all rfl) : RE X G Wx (.Compare a [.LtE, .LtE] [b, c] pos) (mchain ma mb mc ile ile) :=
  ⟨(pe_chain op_le op_le ha.pe hb.pe hc.pe hm).imp (chain_imp (rel_iop0 fun i j _ => .bl _) (rel_iop0 fun i j _ => .bl _))⟩

/-! ### arguments, displays -/
def mnil : MA := fun _ S => .ok [] S
def mcons (ma : MW) (mr : MA) : MA := fun env S => (ma env S).bind fun w S => (mr env S).bind fun ws S => .ok (w :: ws) S
theorem ra_nil : RA X G Wx [] mnil := ⟨PA.imp pa_nil fun σ H Q h => by
  obtain ⟨s, S, env, rfl, so, eo, h⟩ := h
  exact h s [] (Fr.refl s) so eo .nil⟩
theorem ra_cons {e : Expr} {es : List Expr} {ma : MW} {mr : MA} (ha : RW X G Wx e ma) (hr : RA X G Wx es mr) (hs : starEach (e :: es) X.env = (false, eval e X.env) :: starEach es X.env := by rfl) : RA X G Wx (e :: es) (mcons ma mr) := ⟨(pa_cons ha.pe hr.pe hs).imp fun σ H Q h => by
  obtain ⟨s, S, env, rfl, so, eo, h⟩ := h
  refine ⟨s, S, env, rfl, so, eo, (Post.bind h).imp fun v H1 ⟨t, a, S1, e, f1, so, eo, rv, p⟩ => ?_⟩
  subst e
  refine ⟨t, S1, env, rfl, so, eo, (Post.bind p).imp fun vs H2 ⟨u, b, S2, e, f2, so, eo, rvs, p⟩ => ?_⟩
  subst e
  exact p u (v :: vs) (Fr.refl u) so eo (.cons (rv.mono f2) rvs)⟩
theorem nd_ix {α : Type} : ∀ {l : List α} {i j : Nat} {x : α}, l.Nodup → l[i]? = some x → l[j]? = some x → i = j
  | [], _, _, _, _, h, _ => by simp at h
  | y :: l, 0, 0, _, _, _, _ => rfl
  | y :: l, 0, j + 1, x, n, h, h2 => by
    simp at h h2
    subst h
    exact absurd (List.mem_of_getElem? h2) (List.nodup_cons.mp n).1
  | y :: l, i + 1, 0, x, n, h, h2 => by
    simp at h h2
    subst h2
    exact absurd (List.mem_of_getElem? h) (List.nodup_cons.mp n).1
  | y :: l, i + 1, j + 1, x, n, h, h2 => by
    simp at h h2
    rw [nd_ix (List.nodup_cons.mp n).2 h h2]
/-- a list of the store is data from now on -/
theorem freezeRef {s : Sx} {S : Sto} {n : Nat} {a : Addr} {ds : List PyData} (so : SOk G s S) (hx : S[n]? = some (.lst (ds.map .dat))) (h : s.ρ[n]? = some a) :
    ∃ t : Sx, t.H = s.H ∧ Fr s t ∧ SOk G t (S.set n .gone) ∧ RepV G t (.ref a) (.dat (.list ds)) := by
  obtain ⟨hη, vs, hH, rv⟩ := so.ob n _ a hx h
  have f := fr_show s a
  have vis : (s.show a).vis a = some (.lst vs) := Sx.show_at hH
  refine ⟨s.show a, rfl, f, ⟨by simp [so.len, Sx.show], so.nd, fun b hb => so.tr b (List.mem_filter.mp hb).1, fun b hb => ⟨Sx.show_mem (so.ka b hb).1 (fun z => (so.ka b hb).2 (by rw [z]; exact List.mem_of_getElem? h)), (so.ka b hb).2⟩, fun m o b h1 h2 => ?_⟩, .lst vis (repVs_dat (rv.mono f))⟩
  by_cases hm : n = m
  · subst hm
    have hn : n < S.length := (List.getElem?_eq_some_iff.mp hx).1
    rw [List.getElem?_set_self hn] at h1
    cases h1
    have h2 : s.ρ[n]? = some b := h2
    rw [h] at h2; cases h2
    exact ⟨_, vis⟩
  · rw [List.getElem?_set_ne hm] at h1
    have hb : b ≠ a := fun z => hm (nd_ix so.nd h (by rw [← z]; exact h2))
    exact (so.ob m o b h1 h2).mono f (fun z => Sx.show_mem z hb) (fun _ => rfl)
def toDats : List Vl → Sto → Option (List PyData × Sto)
  | [], S => some ([], S)
  | .dat d :: r, S => (toDats r S).map fun p => (d :: p.1, p.2)
  | .ref n :: r, S => match S[n]? with
    | some (.lst xs) => match allDat xs with
      | some ds => (toDats r (S.set n .gone)).map fun p => (.list ds :: p.1, p.2)
      | none => none
    | _ => none
  | _ :: _, _ => none
@[simp] theorem toDats_nil (S : Sto) : toDats [] S = some ([], S) := rfl
@[simp] theorem toDats_dat (d : PyData) (r : List Vl) (S : Sto) : toDats (.dat d :: r) S = (toDats r S).map fun p => (d :: p.1, p.2) := rfl
theorem toDats_ok : ∀ {ws : List Vl} {s : Sx} {S S' : Sto} {vs : List V} {ds : List PyData}, SOk G s S → RepVs G s vs ws → toDats ws S = some (ds, S') → ∃ t : Sx, t.H = s.H ∧ Fr s t ∧ SOk G t S' ∧ DlAll G.K t.vis vs ds
  | [], s, S, S', vs, ds, so, r, e => by
    cases e; cases r
    exact ⟨s, rfl, Fr.refl s, so, .nil⟩
  | .dat d :: ws, s, S, S', vs, ds, so, r, e => by
    cases r with
    | cons r1 r2 =>
      rw [toDats_dat] at e
      cases e2 : toDats ws S with
      | none => rw [e2] at e; cases e
      | some p =>
        obtain ⟨ds2, S2⟩ := p
        rw [e2] at e; cases e
        obtain ⟨t, eH, f, so2, q⟩ := toDats_ok so r2 e2
        exact ⟨t, eH, f, so2, .cons (dl_mono f.same _ _ r1) q⟩
  | .ref n :: ws, s, S, S', vs, ds, so, r, e => by
    cases r with
    | cons r1 r2 =>
      obtain ⟨a, h, ev⟩ := r1
      simp only [toDats] at e
      split at e
      · rename_i xs hx
        cases hd : allDat xs with
        | none => simp only [hd] at e; cases e
        | some ds1 =>
          simp only [hd] at e
          rw [allDat_eq hd] at hx
          obtain ⟨t, eH, f, so2, q⟩ := freezeRef so hx h
          cases e2 : toDats ws (S.set n .gone) with
          | none => rw [e2] at e; cases e
          | some p =>
            obtain ⟨ds2, S2⟩ := p
            rw [e2] at e; cases e
            obtain ⟨u, eH2, f2, so3, q2⟩ := toDats_ok so2 (RepVs.mono f r2) e2
            exact ⟨u, eH2.trans eH, f.trans f2, so3, .cons (by rw [ev]; exact dl_mono f2.same _ _ q) q2⟩
      · cases e
  | .fn _ :: _, _, _, _, _, _, _, _, e => by cases e
  | .ro _ :: _, _, _, _, _, _, _, _, e => by cases e
theorem line_big {n : Nat} (h : n ≤ 1000) : n ≤ sizeLine := Nat.le_of_lt (small1000 h)
def mtup (ma : MA) : MW := fun env S => (ma env S).bind fun ws S => match toDats ws S with
  | some (ds, S') => if ds.length ≤ 1000 then .ok (.dat (.tuple ds)) S' else .fail
  | none => .fail
theorem rw_tup {es : List Expr} {ma : MA} {x1 : Nat} {pos : Pos} (ha : RA X G Wx es ma) : RW X G Wx (.Tuple es x1 pos) (mtup ma) := ⟨(pe_tup ha.pe).imp fun σ H Q h => by
  obtain ⟨s, S, env, rfl, so, eo, h⟩ := h
  refine ⟨s, S, env, rfl, so, eo, (Post.bind h).imp fun vs H1 ⟨t, ws, S1, e, f, so, eo, rv, p⟩ => ?_⟩
  subst e
  cases e2 : toDats ws S1 with
  | none => simp only [e2] at p; exact p.elim
  | some q =>
    obtain ⟨ds, S2⟩ := q
    simp only [e2] at p
    split at p
    · rename_i hl
      obtain ⟨u, eH, f2, so2, q2⟩ := toDats_ok so rv e2
      refine ⟨line_big (by rw [dlAll_len q2]; exact hl), fun p1 hp => ?_⟩
      rw [← eH] at hp ⊢
      exact p _ _ (f2.trans (fr_grow so2 hp _)) (so2.grow hp _) (eo.mono (f2.trans (fr_grow so2 hp _))) (so2.newTup hp q2)
    · exact p.elim⟩
def mlst (ma : MA) : ME := fun env S => (ma env S).bind fun ws S => if ws.length ≤ 1000 then .ok (.new ws) S else .fail
theorem re_lst {es : List Expr} {ma : MA} {pos : Pos} (ha : RA X G Wx es ma) : RE X G Wx (.List es pos) (mlst ma) := ⟨(pe_lst ha.pe).imp fun σ H Q h => by
  obtain ⟨s, S, env, rfl, so, eo, h⟩ := h
  refine ⟨s, S, env, rfl, so, eo, (Post.bind h).imp fun vs H1 ⟨t, ws, S1, e, f, so, eo, rv, p⟩ => ?_⟩
  subst e
  split at p
  · rename_i hl
    refine ⟨line_big (by rw [rv.length]; exact hl), fun p1 hp => ?_⟩
    exact p _ _ (fr_growH so hp _) (so.growH hp _) (eo.mono (fr_growH so hp _)) (so.newList hp rv)
  · exact p.elim⟩
end
end Bk
/-! text BkE -/
set_option Elab.async false
set_option linter.all false
set_option maxRecDepth 100000
set_option maxHeartbeats 2000000
set_option autoImplicit false
/-! BkE: subscripts, slices, calls of defs and of built-ins by values. -/
namespace Bk
open PySem PySem.Spec PyProof.Rows L2
section
variable {X : Cx} {G : Gx} {Wx : WX} {k : Nat}

/-! ### items -/
def itemsOf (S : Sto) : Vl → Option (List Vl)
  | .dat (.list ds) => some (ds.map .dat)
  | .dat (.tuple ds) => some (ds.map .dat)
  | .ref n => match S[n]? with
    | some (.lst xs) => some xs
    | _ => none
  | .ro ds => some (ds.map .dat)
  | _ => none
theorem itemsOf_ok {s : Sx} {S : Sto} (so : SOk G s S) {v : V} : ∀ {w : Vl} {xs : List Vl}, RepV G s v w → itemsOf S w = some xs → ∃ a vs, v = .ref a ∧ (SqL G.K s.H a vs ∨ SqT G.K s.H a vs) ∧ RepVs G s vs xs
  | .dat (.list ds), _, r, e => by
    cases e
    cases r with
    | lst h1 h2 => exact ⟨_, _, rfl, .inl (.inl (.inl (vis_all _ _ h1))), repVs_of h2⟩
  | .dat (.tuple ds), _, r, e => by
    cases e
    cases r with
    | tup h1 h2 => exact ⟨_, _, rfl, .inr (seqT_mono vis_all h1), repVs_of h2⟩
  | .ref n, xs, ⟨a, h, ev⟩, e => by
    simp only [itemsOf] at e
    split at e
    · rename_i ys hx
      cases e
      obtain ⟨_, vs, hH, rv⟩ := so.ob n _ a hx h
      exact ⟨a, vs, ev, .inl (.inl (.inl hH)), rv⟩
    · cases e
  | .ro ds, _, ⟨a, ns, ev, h1, h2⟩, e => by
    cases e
    exact ⟨a, ns, ev, .inl (seqL_mono vis_all h1), repVs_of h2⟩
  | .dat .none, _, _, e => by cases e
  | .dat (.bool _), _, _, e => by cases e
  | .dat (.int _), _, _, e => by cases e
  | .dat (.str _), _, _, e => by cases e
  | .dat (.dict _), _, _, e => by cases e
  | .fn _, _, _, e => by cases e
theorem Paired.get' {α β : Type} {F : α → β → Prop} : ∀ {xs : List α} {ys : List β} {i : Nat} {y : β}, Paired F xs ys → ys[i]? = some y → ∃ x, xs[i]? = some x ∧ F x y
  | _, _, _, _, .nil, e => by simp at e
  | _, _, 0, _, .cons r _, e => by simp at e; subst e; exact ⟨_, rfl, r⟩
  | _, _, i + 1, y, .cons _ t, e => by
    obtain ⟨u, h1, h2⟩ := Paired.get' (i := i) (y := y) t (by simpa using e)
    exact ⟨u, by simpa using h1, h2⟩
theorem Paired.drop' {α β : Type} {F : α → β → Prop} : ∀ {xs : List α} {ys : List β} (n : Nat), Paired F xs ys → Paired F (xs.drop n) (ys.drop n)
  | _, _, 0, h => by simpa using h
  | _, _, _ + 1, .nil => .nil
  | _, _, n + 1, .cons _ t => by simpa using Paired.drop' n t
theorem Paired.take' {α β : Type} {F : α → β → Prop} : ∀ {xs : List α} {ys : List β} (n : Nat), Paired F xs ys → Paired F (xs.take n) (ys.take n)
  | _, _, 0, _ => by simpa using Paired.nil
  | _, _, _ + 1, .nil => .nil
  | _, _, n + 1, .cons r t => by simpa using Paired.cons r (Paired.take' n t)
theorem atI_rep {s : Sx} {vs : List V} {xs : List Vl} (r : RepVs G s vs xs) {i : Int} {w : Vl} (e : atI xs i = some w) : ∃ v, atI vs i = some v ∧ RepV G s v w := by
  unfold atI at e ⊢
  rw [r.length]
  cases h : ixN xs.length i with
  | none => rw [h] at e; cases e
  | some j =>
    rw [h] at e
    exact Paired.get' r e
def ixV : Op2 := fun a b S => match b with
  | .dat (.int i) => match a with
    | .dat (.str z) => if z.length ≤ sizeLine then (atI z.cps.toList i).map fun c => (.val (.dat (.str ⟨#[c]⟩)), S) else none
    | a => (itemsOf S a).bind fun xs => (atI xs i).map fun w => (.val w, S)
  | _ => none
theorem re_ix {a b : Expr} {ma mb : MW} {pos : Pos} (ha : RW X G Wx a ma) (hb : RW X G Wx b mb) (hs : PlainIx b := by intro _ _; rfl) (hK : G.K = X.K := by rfl) : RE X G Wx (.Subscript a b pos) (m2 ma mb ixV) :=
  ⟨(pe_ix ix_seq ha.pe hb.pe hs).imp (tOp_imp (by
  intro s S x y a b res S' so ra rb e Q q
  unfold ixV at e
  split at e
  · rename_i i
    cases rb
    split at e
    · rename_i z
      cases ra
      split at e
      · rename_i hz
        cases h : atI z.cps.toList i with
        | none => rw [h] at e; cases e
        | some c =>
          rw [h] at e; cases e
          exact .inr (.inr ⟨z, i, c, rfl, rfl, hz, h, q s _ (Fr.refl s) so (.str _)⟩)
      · cases e
    · cases h : itemsOf S a with
      | none => rw [h] at e; cases e
      | some xs =>
        rw [h] at e
        simp only [Option.bind_some] at e
        cases h2 : atI xs i with
        | none => rw [h2] at e; cases e
        | some w =>
          rw [h2] at e; cases e
          obtain ⟨p, vs, ev, hq, rv⟩ := itemsOf_ok so ra h
          obtain ⟨v, e1, r1⟩ := atI_rep rv h2
          rcases hq with hq | hq
          · exact .inl ⟨p, vs, i, v, ev, rfl, hK ▸ hq, e1, q s _ (Fr.refl s) so r1⟩
          · exact .inr (.inl ⟨p, vs, i, v, ev, rfl, hK ▸ hq, e1, q s _ (Fr.refl s) so r1⟩)
  · cases e))⟩

/-! ### slices -/
def cutG {α : Type} (xs : List α) (lo hi : Option Int) : List α := (xs.drop (HT.sIx xs.length 0 lo)).take (HT.sIx xs.length xs.length hi - HT.sIx xs.length 0 lo)
theorem cut_rep {s : Sx} {vs : List V} {xs : List Vl} (r : RepVs G s vs xs) (lo hi : Option Int) : RepVs G s (cutV vs lo hi) (cutG xs lo hi) := by
  unfold cutV cutG
  rw [r.length]
  exact Paired.take' _ (Paired.drop' _ r)
theorem dlAll_iff {s : Sx} {vs : List V} {ds : List PyData} : DlAll G.K s.vis vs ds ↔ RepVs G s vs (ds.map Vl.dat) := ⟨repVs_of, repVs_dat⟩
theorem cutG_map {α β : Type} (f : α → β) (xs : List α) (lo hi : Option Int) : cutG (xs.map f) lo hi = (cutG xs lo hi).map f := by
  unfold cutG
  rw [List.length_map, List.map_take, List.map_drop]
abbrev MO := MM (Option Int)
def RO (X : Cx) (G : Gx) (Wx : WX) (e : Option Expr) (m : MO) : Prop := PO X e (tP G Wx (fun _ (b c : Option Int) => b = c) m)
def moN : MO := fun _ S => .ok none S
def moS (m : MW) : MO := fun env S => (m env S).bind fun w S => match w with
  | .dat (.int i) => .ok (some i) S
  | _ => .fail
theorem _root_.L2.PO.imp {X : Cx} {e : Option Expr} {t u : TO} (h : PO X e t) (i : ∀ σ H Q, u σ H Q → t σ H Q) : PO X e u := ⟨fun pins s σ H Q I q => h.run pins s σ H Q I (i σ H Q q)⟩
theorem ro_none : RO X G Wx none moN := PO.imp po_none fun σ H Q h => by
  obtain ⟨s, S, env, rfl, so, eo, h⟩ := h
  exact h s none (Fr.refl s) so eo rfl
theorem ro_some {e : Expr} {m : MW} (h : RW X G Wx e m) : RO X G Wx (some e) (moS m) := PO.imp (po_some h.pe) fun σ H Q h => by
  obtain ⟨s, S, env, rfl, so, eo, h⟩ := h
  refine ⟨s, S, env, rfl, so, eo, (Post.bind h).imp fun v H1 ⟨t, a, S1, e, f, so, eo, rv, p⟩ => ?_⟩
  subst e
  split at p
  · rename_i i
    cases rv
    exact ⟨i, rfl, p t _ (Fr.refl t) so eo rfl⟩
  · exact p.elim
def slV (a : Vl) (lo hi : Option Int) (S : Sto) : Option (Rv × Sto) := match a with
  | .dat (.tuple ds) => some (.val (.dat (.tuple (cutG ds lo hi))), S)
  | .dat (.str z) => if z.length ≤ sizeLine then some (.val (.dat (.str (cutS z lo hi))), S) else none
  | .dat (.list ds) => some (.new ((cutG ds lo hi).map .dat), S)
  | .ro ds => some (.new ((cutG ds lo hi).map .dat), S)
  | .ref n => match S[n]? with
    | some (.lst xs) => some (.new (cutG xs lo hi), S)
    | _ => none
  | _ => none
def mslice (ma : MW) (ml mh : MO) : ME := fun env S => (ma env S).bind fun x S => (ml env S).bind fun lo S => (mh env S).bind fun hi S => lift (slV x lo hi S)
theorem newCut {s : Sx} {S : Sto} {Q : VK} {p : Addr} {vs : List V} {xs : List Vl} {lo hi : Option Int} (so : SOk G s S) (rv : RepVs G s vs xs) (q : Aft G s S (.new (cutG xs lo hi)) Q) (hp : s.H p = none) : Q (.ref p) (upd s.H p (.lst (cutV vs lo hi))) :=
  q _ _ (fr_growH so hp _) (so.growH hp _) (so.newList hp (cut_rep rv lo hi))
def rSlAll (K : PySem.W.Frag) : V → Option Int → Option Int → Hp → VK → Prop := fun x lo hi H Q => (rSlA K x lo hi H Q ∨ rSlL K x lo hi H Q) ∨ rSlS x lo hi H Q
theorem sl_all : SlR X (rSlAll X.K) := SlR.or (SlR.or sl_tupA sl_list) sl_str
theorem rel_sl {s : Sx} {S : Sto} {v : V} {l u : Option Int} (so : SOk G s S) : ∀ {w : Vl} {res : Rv} {S' : Sto}, RepV G s v w → slV w l u S = some (res, S') → ∀ Q, Aft G s S' res Q → rSlAll G.K v l u s.H Q
  | .dat (.tuple ds), res, S', rv, e, Q, q => by
    simp only [slV] at e
    cases e
    cases rv with
    | @tup a vs _ h1 h2 =>
      have h1' := seqT_mono vis_all h1
      refine .inl (.inl ⟨a, vs, rfl, h1', fun hw => ?_, fun hw p1 hp => ?_⟩)
      · refine q s _ (Fr.refl s) so (.tup h1 ?_)
        have ew : cutV vs l u = vs := by
          unfold cutV
          rw [hw.1, hw.2, List.drop_zero, Nat.sub_zero, List.take_length]
        have z := cut_rep (dlAll_iff.mp h2) l u
        rw [ew, cutG_map] at z
        exact dlAll_iff.mpr z
      · refine q _ _ (fr_grow so hp _) (so.grow hp _) (so.newTup hp (dlAll_iff.mpr ?_))
        have z := cut_rep (dlAll_iff.mp h2) l u
        rw [cutG_map] at z
        exact z
  | .dat (.str z), res, S', rv, e, Q, q => by
    simp only [slV] at e
    split at e
    · rename_i hz
      cases e; cases rv
      exact .inr ⟨z, rfl, hz, q s _ (Fr.refl s) so (.str _)⟩
    · cases e
  | .dat (.list ds), res, S', rv, e, Q, q => by
    simp only [slV] at e
    cases e
    cases rv with
    | @lst a vs _ h1 h2 =>
      rw [← cutG_map] at q
      exact .inl (.inr ⟨a, vs, rfl, .inl (.inl (vis_all _ _ h1)), fun p1 hp => newCut so (dlAll_iff.mp h2) q hp⟩)
  | .ro ds, res, S', ⟨a, vs, ev, h1, h2⟩, e, Q, q => by
    simp only [slV] at e
    cases e
    rw [← cutG_map] at q
    exact .inl (.inr ⟨a, vs, ev, seqL_mono vis_all h1, fun p1 hp => newCut so (dlAll_iff.mp h2) q hp⟩)
  | .ref n, res, S', ⟨a, h, ev⟩, e, Q, q => by
    simp only [slV] at e
    split at e
    · rename_i xs hx
      cases e
      obtain ⟨_, vs, hH, rvs⟩ := so.ob n _ a hx h
      exact .inl (.inr ⟨a, vs, ev, .inl (.inl hH), fun p1 hp => newCut so rvs q hp⟩)
    · cases e
  | .dat .none, _, _, _, e, _, _ => by cases e
  | .dat (.bool _), _, _, _, e, _, _ => by cases e
  | .dat (.int _), _, _, _, e, _, _ => by cases e
  | .dat (.dict _), _, _, _, e, _, _ => by cases e
  | .fn _, _, _, _, e, _, _ => by cases e
theorem re_slice {a : Expr} {lo hi : Option Expr} {ma : MW} {ml mh : MO} {p2 pos : Pos} (ha : RW X G Wx a ma) (hl : RO X G Wx lo ml) (hh : RO X G Wx hi mh) (hK : G.K = X.K := by rfl) : RE X G Wx (.Subscript a (.Slice lo hi none p2) pos) (mslice ma ml mh) :=
  ⟨(pe_slice sl_all ha.pe hl hh).imp fun σ H Q h => by
  obtain ⟨s, S, env, rfl, so, eo, h⟩ := h
  refine ⟨s, S, env, rfl, so, eo, (Post.bind h).imp fun v H1 ⟨t, w, S1, e, f, so, eo, rv, p⟩ => ?_⟩
  subst e
  refine ⟨t, S1, env, rfl, so, eo, (Post.bind p).imp fun l H1 ⟨t2, l', S2, e, f2, so, eo, el, p⟩ => ?_⟩
  subst e; cases el
  refine ⟨t2, S2, env, rfl, so, eo, (Post.bind p).imp fun u H1 ⟨t3, u', S3, e, f3, so, eo, eu, p⟩ => ?_⟩
  subst e; cases eu
  obtain ⟨res, S', e, q⟩ := p.aft eo
  exact hK ▸ rel_sl so (rv.mono (f2.trans f3)) e Q q⟩
/-- xs[::-1] -/
def lsOf (S : Sto) : Vl → Option (List Vl)
  | .dat (.list ds) => some (ds.map .dat)
  | .ref n => match S[n]? with
    | some (.lst xs) => some xs
    | _ => none
  | .ro ds => some (ds.map .dat)
  | _ => none
theorem lsOf_ok {s : Sx} {S : Sto} (so : SOk G s S) {v : V} : ∀ {w : Vl} {xs : List Vl}, RepV G s v w → lsOf S w = some xs → ∃ a vs, v = .ref a ∧ SqL G.K s.H a vs ∧ RepVs G s vs xs
  | .dat (.list ds), _, r, e => by
    cases e
    cases r with
    | lst h1 h2 => exact ⟨_, _, rfl, .inl (.inl (vis_all _ _ h1)), repVs_of h2⟩
  | .ref n, xs, ⟨a, h, ev⟩, e => by
    simp only [lsOf] at e
    split at e
    · rename_i ys hx
      cases e
      obtain ⟨_, vs, hH, rv⟩ := so.ob n _ a hx h
      exact ⟨a, vs, ev, .inl (.inl hH), rv⟩
    · cases e
  | .ro ds, _, ⟨a, ns, ev, h1, h2⟩, e => by
    cases e
    exact ⟨a, ns, ev, seqL_mono vis_all h1, repVs_of h2⟩
  | .dat .none, _, _, e => by cases e
  | .dat (.bool _), _, _, e => by cases e
  | .dat (.int _), _, _, e => by cases e
  | .dat (.str _), _, _, e => by cases e
  | .dat (.tuple _), _, _, e => by cases e
  | .dat (.dict _), _, _, e => by cases e
  | .fn _, _, _, e => by cases e
def revV : Op1 := fun a S => (lsOf S a).map fun xs => (.new xs.reverse, S)
theorem Paired.rev' {α β : Type} {F : α → β → Prop} : ∀ {xs : List α} {ys : List β}, Paired F xs ys → Paired F xs.reverse ys.reverse
  | _, _, .nil => .nil
  | _, _, .cons r t => by
    rw [List.reverse_cons, List.reverse_cons]
    exact Paired.app (Paired.rev' t) (.cons r .nil)
theorem re_rev {a : Expr} {ma : MW} {k : Nat} {p1 p2 p3 pos : Pos} (ha : RW X G Wx a ma) (hK : G.K = X.K := by rfl) : RE X G Wx (.Subscript a (.Slice none none (some (.UnaryOp .USub (.Constant (.int 1) k p1) p2)) p3) pos) (m1 ma revV) :=
  ⟨(pe_revL ha.pe).imp fun σ H Q h => by
  refine tUn_imp (r := fun x H1 Q => ∃ a xs, x = .ref a ∧ SqL X.K H1 a xs ∧ ∀ p, H1 p = none → Q (.ref p) (upd H1 p (.lst xs.reverse))) (f := revV) ?_ σ H Q h
  intro s S x a res S' so ra e Q q
  unfold revV at e
  cases h : lsOf S a with
  | none => rw [h] at e; cases e
  | some xs =>
    rw [h] at e; cases e
    obtain ⟨p, vs, ev, hq, rv⟩ := lsOf_ok so ra h
    exact ⟨p, vs, ev, hK ▸ hq, fun p1 hp => q _ _ (fr_growH so hp _) (so.growH hp _) (so.newList hp (Paired.rev' rv))⟩⟩
end
end Bk
/-! text BkF -/
set_option Elab.async false
set_option linter.all false
set_option maxRecDepth 100000
set_option maxHeartbeats 2000000
set_option autoImplicit false
/-! BkF: calls of defs, of built-ins. -/
namespace Bk
open PySem PySem.Spec PyProof.Rows L2
abbrev Fn := List Vl → Sto → Out Rv
def PostF (G : Gx) (s : Sx) (x : Out Rv) (Q : VK) (E : XK) : Prop := match x with
  | .ok r S => ∀ t v, Fr s t → SOk G t S → RvOk G t v r → Q v t.H
  | .exn k d S => ∀ t cls dd, Fr s t → SOk G t S → ExOk G t cls dd k d → E cls dd t.H
  | .fail => False
def spF (G : Gx) (n : Nat) (F : Fn) : Sp := fun vs H Q E => vs.length = n ∧ ∃ (s : Sx) (S : Sto) (ws : List Vl), s.H = H ∧ SOk G s S ∧ RepVs G s vs ws ∧ PostF G s (F ws S) Q E
/-- a def of the module, by its name: what it does -/
structure Df (P : Program) (w : World) (K : PySem.W.Frag) (mg : Str → Option Value) (base : Heap) (G : Gx) (k : Nat) (x : Str) (n : Nat) (F : Fn) : Prop where
  ex : ∃ f fd ps, mg x = some (.ref f) ∧ PySem.W.keepIn K (.ref f) = true ∧ Binds K fd ps [] ∧ ps.length = n ∧ FnOk P w K mg base (L2.CX P w) k f fd ps (spF G n F)
section
variable {P : Program} {w : World} {K : PySem.W.Frag} {mg : Str → Option Value} {base : Heap} {G : Gx} {j k n : Nat} {x : Str} {F F' : Fn}
theorem Df.lvl (d : Df P w K mg base G j x n F) (h : j ≤ k) : Df P w K mg base G k x n F := by
  obtain ⟨f, fd, ps, h1, h2, h3, h4, h5⟩ := d.ex
  exact ⟨f, fd, ps, h1, h2, h3, h4, h5.mono h⟩
/-- told by another function: where that tells anything, it is the same -/
theorem Df.by (d : Df P w K mg base G k x n F) (h : ∀ ws S, ws.length = n → F' ws S ≠ .fail → F ws S = F' ws S) : Df P w K mg base G k x n F' := by
  obtain ⟨f, fd, ps, h1, h2, h3, h4, h5⟩ := d.ex
  refine ⟨f, fd, ps, h1, h2, h3, h4, h5.imp fun vs H Q E ⟨hl, s, S, ws, e, so, r, p⟩ => ⟨hl, s, S, ws, e, so, r, ?_⟩⟩
  rw [h ws S (by rw [← r.length]; exact hl) (fun z => by rw [z] at p; exact p)]
  exact p
end
section
variable {X : Cx} {G : Gx} {Wx : WX} {k j : Nat}
/-- a call, so many arguments -/
def mcall (n : Nat) (F : Fn) (ma : MA) : ME := fun env S => (ma env S).bind fun ws S => if ws.length = n then F ws S else .fail
theorem call_imp {n : Nat} {F : Fn} {ma : MA} (σ : Sg) (H : Hp) (Q : VK) (h : tE G Wx (mcall n F ma) σ H Q) : tCallS (spF G n F) (WE Wx) (tA G Wx ma) σ H Q := by
  obtain ⟨s, S, env, rfl, so, eo, h⟩ := h
  refine ⟨s, S, env, rfl, so, eo, (Post.bind h).imp fun vs H1 ⟨t, ws, S1, e, f, so, eo, rv, p⟩ => ?_⟩
  subst e
  split at p
  · rename_i hn
    refine ⟨by rw [rv.length]; exact hn, t, S1, ws, rfl, so, rv, ?_⟩
    cases q : F ws S1 with
    | ok r S2 =>
      rw [q] at p
      exact fun u v f2 so2 r2 => p u v f2 so2 (eo.mono f2) r2
    | exn k d S2 =>
      rw [q] at p
      exact fun u c dd f2 so2 r2 => p u c dd f2 so2 (eo.mono f2) r2
    | fail => rw [q] at p; exact p
  · exact p.elim
theorem re_call {x : Str} {n : Nat} {F : Fn} {e : Expr} {es : List Expr} {ma : MA} {p pos : Pos} (d : Df X.prog X.w X.K X.mg X.base G k x n F) (hr : Room j X.A) (hk : k ≤ j) (hg : Gl X x) (tk : Takes X Wx) (ha : RA X G Wx (e :: es) ma) (hdb : (x == ("__debug__" : Str)) = false := by decide)
    (he : starEach (e :: es) X.env = (false, eval e X.env) :: starEach es X.env := by rfl) (hpl : (backTo pos (starEach es X.env)).any (·.1) = false := by rfl) : RE X G Wx (.Call (.Name x p) (e :: es) [] pos) (mcall n F ma) := by
  obtain ⟨f, fd, ps, h1, h2, h3, h4, h5⟩ := d.ex
  exact ⟨(pe_callS h5 (hr.mono hk) hg h1 h2 h3 (fun σ => passAt tk σ) ha.pe hdb he hpl).imp call_imp⟩

/-! ### built-ins by values -/
/-- facts of the module: a name that it does not hold -/
theorem re_bltn {x : Str} {id : String} {r : List V → Hp → VK → Prop} {f : OpN} {e : Expr} {es : List Expr} {ma : MA} {p pos : Pos} (hc : CallR X (.builtin id) r) (hr : RelOpN G r f) (hg : Gl X x) (hm : X.mg x = none) (hv : bootBuiltins x = some (.builtin id)) (ha : RA X G Wx (e :: es) ma)
    (hn : x ≠ "__name__" := by decide) (hdb : (x == ("__debug__" : Str)) = false := by decide)
    (he : starEach (e :: es) X.env = (false, eval e X.env) :: starEach es X.env := by rfl) (hpl : (backTo pos (starEach es X.env)).any (·.1) = false := by rfl) : RE X G Wx (.Call (.Name x p) (e :: es) [] pos) (mN ma f) :=
  ⟨(pe_callB hc hg hm hv ha.pe hn hdb he hpl).imp (tCB_imp hr)⟩
theorem re_type {x : Str} {T : String} {r : List V → Hp → VK → Prop} {f : OpN} {e : Expr} {es : List Expr} {ma : MA} {p pos : Pos} (hc : CallR X (.type T) r) (hr : RelOpN G r f) (hg : Gl X x) (hm : X.mg x = none) (hv : bootBuiltins x = some (.type T)) (ha : RA X G Wx (e :: es) ma)
    (hn : x ≠ "__name__" := by decide) (hdb : (x == ("__debug__" : Str)) = false := by decide)
    (he : starEach (e :: es) X.env = (false, eval e X.env) :: starEach es X.env := by rfl) (hpl : (backTo pos (starEach es X.env)).any (·.1) = false := by rfl) : RE X G Wx (.Call (.Name x p) (e :: es) [] pos) (mN ma f) :=
  ⟨(pe_callTy hc hg hm hv ha.pe hn hdb he hpl).imp (tCB_imp hr)⟩
theorem re_fun {x : Str} {id : String} {r : List V → Hp → VK → Prop} {f : OpN} {e : Expr} {es : List Expr} {ma : MA} {p pos : Pos} (hc : CallR X (.builtin id) r) (hr : RelOpN G r f) (hg : Gl X x) (hm : X.mg x = some (.builtin id)) (ha : RA X G Wx (e :: es) ma)
    (hdb : (x == ("__debug__" : Str)) = false := by decide)
    (he : starEach (e :: es) X.env = (false, eval e X.env) :: starEach es X.env := by rfl) (hpl : (backTo pos (starEach es X.env)).any (·.1) = false := by rfl) : RE X G Wx (.Call (.Name x p) (e :: es) [] pos) (mN ma f) :=
  ⟨(pe_callBfun hc hg hm ha.pe hdb he hpl).imp (tCB_imp hr)⟩
theorem rep1 {s : Sx} {xs : List V} {a : Vl} (r : RepVs G s xs [a]) : ∃ x, xs = [x] ∧ RepV G s x a := by
  cases r with
  | cons h t => cases t; exact ⟨_, rfl, h⟩
theorem rep2 {s : Sx} {xs : List V} {a b : Vl} (r : RepVs G s xs [a, b]) : ∃ x y, xs = [x, y] ∧ RepV G s x a ∧ RepV G s y b := by
  cases r with
  | cons h t =>
    obtain ⟨y, e, h2⟩ := rep1 t
    subst e
    exact ⟨_, _, rfl, h, h2⟩
/-- len -/
def lenV : OpN := fun as S => match as with
  | [.dat (.str z)] => if z.length ≤ sizeLine then some (.val (.dat (.int z.length)), S) else none
  | [a] => (itemsOf S a).map fun xs => (.val (.dat (.int xs.length)), S)
  | _ => none
theorem rel_len : RelOpN G (fun xs H Q => (∃ p ys, xs = [.ref p] ∧ (SqL G.K H p ys ∨ SqT G.K H p ys) ∧ Q (.int ys.length) H) ∨ ∃ z, xs = [.str z] ∧ z.length ≤ sizeLine ∧ Q (.int z.length) H) lenV := by
  intro s S xs as res S' so ra e Q q
  unfold lenV at e
  split at e
  · rename_i z
    obtain ⟨x, ex, r⟩ := rep1 ra
    split at e
    · rename_i hz
      cases e; cases r
      exact .inr ⟨z, ex, hz, q s _ (Fr.refl s) so (.int _)⟩
    · cases e
  · rename_i a _
    obtain ⟨x, ex, r⟩ := rep1 ra
    cases h : itemsOf S a with
    | none => rw [h] at e; cases e
    | some ys =>
      rw [h] at e; cases e
      obtain ⟨p, vs, ev, hq, rv⟩ := itemsOf_ok so r h
      refine .inl ⟨p, vs, by rw [ex, ev], hq, ?_⟩
      rw [rv.length]
      exact q s _ (Fr.refl s) so (.int _)
  · cases e
theorem re_len {e : Expr} {ma : MA} {p pos : Pos} (hg : Gl X "len") (hm : X.mg "len" = none) (ha : RA X G Wx [e] ma) (hK : G.K = X.K := by rfl) (he : starEach [e] X.env = (false, eval e X.env) :: starEach [] X.env := by rfl) : RE X G Wx (.Call (.Name "len" p) [e] [] pos) (mN ma lenV) :=
  re_bltn (CallR.or call_len_seq call_len_str) (hK ▸ rel_len) hg hm PySem.boot_len ha (he := he)
/-- all, any of a list of bools -/
def boolsOf : List Vl → Option (List Bool)
  | [] => some []
  | .dat (.bool b) :: r => (boolsOf r).map (b :: ·)
  | _ :: _ => none
@[simp] theorem boolsOf_map (bs : List Bool) : boolsOf (bs.map fun b => Vl.dat (.bool b)) = some bs := by
  induction bs with
  | nil => rfl
  | cons b r ih => simp [boolsOf, ih]
theorem boolsOf_eq : ∀ {xs : List Vl} {bs : List Bool}, boolsOf xs = some bs → xs = bs.map fun b => Vl.dat (.bool b)
  | [], bs, h => by cases h; rfl
  | .dat (.bool b) :: r, bs, h => by
    simp only [boolsOf] at h
    cases e : boolsOf r with
    | none => rw [e] at h; cases h
    | some q => rw [e] at h; cases h; rw [boolsOf_eq e]; rfl
  | .dat .none :: _, _, h => by cases h
  | .dat (.int _) :: _, _, h => by cases h
  | .dat (.str _) :: _, _, h => by cases h
  | .dat (.list _) :: _, _, h => by cases h
  | .dat (.tuple _) :: _, _, h => by cases h
  | .dat (.dict _) :: _, _, h => by cases h
  | .ref _ :: _, _, h => by cases h
  | .fn _ :: _, _, h => by cases h
  | .ro _ :: _, _, h => by cases h
theorem repBools {s : Sx} : ∀ {bs : List Bool} {vs : List V}, RepVs G s vs (bs.map fun b => Vl.dat (.bool b)) → vs = bs.map V.bl
  | [], _, h => by cases h; rfl
  | b :: bs, _, h => by
    cases h with
    | cons h1 h2 => cases h1; rw [repBools h2]; rfl
def allV (f : List Bool → Bool) : OpN := fun as S => match as with
  | [a] => (lsOf S a).bind fun xs => (boolsOf xs).map fun bs => (.val (.dat (.bool (f bs))), S)
  | _ => none
theorem rel_all (f : List Bool → Bool) : RelOpN G (fun vs H Q => ∃ (a : Addr) (bs : List Bool), vs = [V.ref a] ∧ SqL G.K H a (bs.map V.bl) ∧ Q (.bl (f bs)) H) (allV f) := by
  intro s S xs as res S' so ra e Q q
  unfold allV at e
  split at e
  · rename_i a
    obtain ⟨x, ex, r⟩ := rep1 ra
    cases h : lsOf S a with
    | none => rw [h] at e; cases e
    | some ys =>
      rw [h] at e
      simp only [Option.bind_some] at e
      cases h2 : boolsOf ys with
      | none => rw [h2] at e; cases e
      | some bs =>
        rw [h2] at e; cases e
        obtain ⟨p, vs, ev, hq, rv⟩ := lsOf_ok so r h
        rw [boolsOf_eq h2] at rv
        rw [repBools rv] at hq
        exact ⟨p, bs, by rw [ex, ev], hq, q s _ (Fr.refl s) so (.bl _)⟩
  · cases e
theorem re_all {e : Expr} {ma : MA} {p pos : Pos} (hc : X.calm = true) (hg : Gl X "all") (hm : X.mg "all" = none) (ha : RA X G Wx [e] ma) (hK : G.K = X.K := by rfl) (he : starEach [e] X.env = (false, eval e X.env) :: starEach [] X.env := by rfl) : RE X G Wx (.Call (.Name "all" p) [e] [] pos) (mN ma (allV fun bs => bs.all id)) :=
  re_bltn (cr_all hc) (hK ▸ rel_all _) hg hm PyProof.Rows.boot_all ha (he := he)
theorem re_any {e : Expr} {ma : MA} {p pos : Pos} (hc : X.calm = true) (hg : Gl X "any") (hm : X.mg "any" = none) (ha : RA X G Wx [e] ma) (hK : G.K = X.K := by rfl) (he : starEach [e] X.env = (false, eval e X.env) :: starEach [] X.env := by rfl) : RE X G Wx (.Call (.Name "any" p) [e] [] pos) (mN ma (allV fun bs => bs.any id)) :=
  re_bltn (cr_any hc) (hK ▸ rel_all _) hg hm PyProof.Rows.boot_any ha (he := he)
/-- tuple(xs), list(xs) -/
def tupV : OpN := fun as S => match as with
  | [.dat (.tuple ds)] => some (.val (.dat (.tuple ds)), S)
  | [a] => (lsOf S a).bind fun xs => (allDat xs).map fun ds => (.val (.dat (.tuple ds)), S)
  | _ => none
theorem re_tuple {e : Expr} {ma : MA} {p pos : Pos} (hg : Gl X "tuple") (hm : X.mg "tuple" = none) (ha : RA X G Wx [e] ma) (hK : G.K = X.K := by rfl) (he : starEach [e] X.env = (false, eval e X.env) :: starEach [] X.env := by rfl) : RE X G Wx (.Call (.Name "tuple" p) [e] [] pos) (mN ma tupV) :=
  re_type call_tuple_of (by
  intro s S xs as res S' so ra e Q q
  unfold tupV at e
  split at e
  · rename_i ds
    obtain ⟨x, ex, r⟩ := rep1 ra
    cases e
    cases r with
    | @tup a vs _ h1 h2 => exact ⟨a, vs, ex, .inr ⟨hK ▸ seqT_mono vis_all h1, q s _ (Fr.refl s) so (.tup h1 h2)⟩⟩
  · rename_i a _
    obtain ⟨x, ex, r⟩ := rep1 ra
    cases h : lsOf S a with
    | none => rw [h] at e; cases e
    | some ys =>
      rw [h] at e
      simp only [Option.bind_some] at e
      cases h2 : allDat ys with
      | none => rw [h2] at e; cases e
      | some ds =>
        rw [h2] at e; cases e
        obtain ⟨p, vs, ev, hq, rv⟩ := lsOf_ok so r h
        rw [allDat_eq h2] at rv
        exact ⟨p, vs, by rw [ex, ev], .inl ⟨hK ▸ hq, fun p1 hp => q _ _ (fr_grow so hp _) (so.grow hp _) (so.newTup hp (repVs_dat rv))⟩⟩
  · cases e) hg hm PyProof.Rows.boot_tuple ha (he := he)
def listV : OpN := fun as S => match as with
  | [a] => (itemsOf S a).map fun xs => (.new xs, S)
  | _ => none
theorem re_list {e : Expr} {ma : MA} {p pos : Pos} (hg : Gl X "list") (hm : X.mg "list" = none) (ha : RA X G Wx [e] ma) (hK : G.K = X.K := by rfl) (he : starEach [e] X.env = (false, eval e X.env) :: starEach [] X.env := by rfl) : RE X G Wx (.Call (.Name "list" p) [e] [] pos) (mN ma listV) :=
  re_type call_list_of (by
  intro s S xs as res S' so ra e Q q
  unfold listV at e
  split at e
  · rename_i a
    obtain ⟨x, ex, r⟩ := rep1 ra
    cases h : itemsOf S a with
    | none => rw [h] at e; cases e
    | some ys =>
      rw [h] at e; cases e
      obtain ⟨p, vs, ev, hq, rv⟩ := itemsOf_ok so r h
      exact ⟨p, vs, by rw [ex, ev], hK ▸ hq, fun p1 hp => q _ _ (fr_growH so hp _) (so.growH hp _) (so.newList hp rv)⟩
  · cases e) hg hm PyProof.Rows.boot_list ha (he := he)
/-- abs, int, str of ints; gcd -/
def absV : OpN := fun as S => match as with
  | [.dat (.int i)] => some (.val (.dat (.int (if i < 0 then -i else i))), S)
  | _ => none
theorem re_abs {e : Expr} {ma : MA} {p pos : Pos} (hg : Gl X "abs") (hm : X.mg "abs" = none) (ha : RA X G Wx [e] ma) (he : starEach [e] X.env = (false, eval e X.env) :: starEach [] X.env := by rfl) : RE X G Wx (.Call (.Name "abs" p) [e] [] pos) (mN ma absV) :=
  re_bltn call_abs (by
  intro s S xs as res S' so ra e Q q
  unfold absV at e
  split at e
  · rename_i i
    obtain ⟨x, ex, r⟩ := rep1 ra
    cases e; cases r
    exact ⟨i, ex, q s _ (Fr.refl s) so (.int _)⟩
  · cases e) hg hm PyProof.Rows.boot_abs ha (he := he)
def intV : OpN := fun as S => match as with
  | [.dat (.int i)] => some (.val (.dat (.int i)), S)
  | [.dat (.bool b)] => some (.val (.dat (.int (if b then 1 else 0))), S)
  | _ => none
theorem re_int {e : Expr} {ma : MA} {p pos : Pos} (hg : Gl X "int") (hm : X.mg "int" = none) (ha : RA X G Wx [e] ma) (he : starEach [e] X.env = (false, eval e X.env) :: starEach [] X.env := by rfl) : RE X G Wx (.Call (.Name "int" p) [e] [] pos) (mN ma intV) :=
  re_type call_int1 (by
  intro s S xs as res S' so ra e Q q
  unfold intV at e
  split at e
  · rename_i i
    obtain ⟨x, ex, r⟩ := rep1 ra
    cases e; cases r
    exact .inl ⟨i, ex, q s _ (Fr.refl s) so (.int _)⟩
  · rename_i b
    obtain ⟨x, ex, r⟩ := rep1 ra
    cases e; cases r
    exact .inr ⟨b, ex, q s _ (Fr.refl s) so (.int _)⟩
  · cases e) hg hm PyProof.Rows.boot_int ha (he := he)
def gcdV : OpN := fun as S => match as with
  | [.dat (.int i), .dat (.int j)] => some (.val (.dat (.int ((Nat.gcd i.natAbs j.natAbs : Nat) : Int))), S)
  | _ => none
theorem re_gcd {e1 e2 : Expr} {ma : MA} {p pos : Pos} (hg : Gl X "gcd") (hm : X.mg "gcd" = some (.builtin "math.gcd")) (ha : RA X G Wx [e1, e2] ma) (he : starEach [e1, e2] X.env = (false, eval e1 X.env) :: starEach [e2] X.env := by rfl) (hpl : (backTo pos (starEach [e2] X.env)).any (·.1) = false := by rfl) :
    RE X G Wx (.Call (.Name "gcd" p) [e1, e2] [] pos) (mN ma gcdV) :=
  re_fun cr_gcd (by
  intro s S xs as res S' so ra e Q q
  unfold gcdV at e
  split at e
  · rename_i i j
    obtain ⟨x, y, ex, r1, r2⟩ := rep2 ra
    cases e; cases r1; cases r2
    exact ⟨i, j, ex, q s _ (Fr.refl s) so (.int _)⟩
  · cases e) hg hm ha (he := he) (hpl := hpl)
/-- isinstance(x, a built-in class) -/
def tyName (S : Sto) : Vl → Option String
  | .dat .none => some "NoneType"
  | .dat (.bool _) => some "bool"
  | .dat (.int _) => some "int"
  | .dat (.str _) => some "str"
  | .dat (.list _) => some "list"
  | .dat (.tuple _) => some "tuple"
  | .ref n => match S[n]? with
    | some (.lst _) => some "list"
    | _ => none
  | _ => none
theorem sqT_ty {K : PySem.W.Frag} {H : Hp} {a : Addr} {xs : List V} (h : SqT K H a xs) : TyX K H (.ref a) (.type "tuple") := by
  rcases h with (h | ⟨o, h⟩) | ⟨o, its, n, h1, h2, _⟩
  · exact .base (.tup h)
  · exact .fTuple h
  · exact .kTuple h1 h2
theorem tyName_ok {s : Sx} {S : Sto} (so : SOk G s S) {v : V} : ∀ {w : Vl} {T : String}, RepV G s v w → tyName S w = some T → TyX G.K s.H v (.type T)
  | .dat .none, _, r, e => by cases r; cases e; exact .base .non
  | .dat (.bool _), _, r, e => by cases r; cases e; exact .base (.bl _)
  | .dat (.int _), _, r, e => by cases r; cases e; exact .base (.int _)
  | .dat (.str _), _, r, e => by cases r; cases e; exact .base (.str _)
  | .dat (.list _), _, r, e => by
    cases e
    cases r with
    | lst h1 h2 => exact .base (.lst (vis_all _ _ h1))
  | .dat (.tuple _), _, r, e => by
    cases e
    cases r with
    | tup h1 h2 => exact sqT_ty (seqT_mono vis_all h1)
  | .ref n, T, ⟨a, h, ev⟩, e => by
    simp only [tyName] at e
    split at e
    · rename_i xs hx
      cases e
      obtain ⟨_, vs, hH, rv⟩ := so.ob n _ a hx h
      rw [ev]
      exact .base (.lst hH)
    · cases e
  | .dat (.dict _), _, _, e => by cases e
  | .fn _, _, _, e => by cases e
  | .ro _, _, _, e => by cases e
/-- T: the class asked for; as a Bool -/
def isB (a T : String) : Bool := a == T || (a == "bool" && T == "int")
theorem kit_isB {K : PySem.W.Frag} {a T : String} (ha : a ∈ ["NoneType", "bool", "int", "str", "list", "tuple"]) (hT : T ∈ ["bool", "int", "str", "list", "tuple"]) : PySem.W.kitOne K (.type a) (.type T) = some (isB a T) := by
  have h : ∀ a ∈ ["NoneType", "bool", "int", "str", "list", "tuple"], ∀ T ∈ ["bool", "int", "str", "list", "tuple"], kitB a T = some (isB a T) := by decide +kernel
  exact kit_ty (h a ha T hT)
theorem tyName_mem {S : Sto} {w : Vl} {T : String} (e : tyName S w = some T) : T ∈ ["NoneType", "bool", "int", "str", "list", "tuple"] := by
  unfold tyName at e
  split at e <;> first
    | (cases e; decide)
    | (split at e <;> cases e; decide)
    | cases e
def misi (T : String) (m : MW) : MW := fun env S => (m env S).bind fun w S => match tyName S w with
  | some a => .ok (.dat (.bool (isB a T))) S
  | none => .fail
theorem rw_isi {x : Str} {T : String} {e : Expr} {m : MW} {p p2 pos : Pos} (hT : T ∈ ["bool", "int", "str", "list", "tuple"]) (hv : bootBuiltins x = some (.type T)) (hg : Gl X "isinstance") (hm : X.mg "isinstance" = none) (hgx : Gl X x) (hmx : X.mg x = none) (ha : RW X G Wx e m) (hK : G.K = X.K := by rfl)
    (hn : x ≠ "__name__" := by decide) (hdb : (x == ("__debug__" : Str)) = false := by decide)
    (h1 : starEach [e, .Name x p2] X.env = (false, eval e X.env) :: starEach [.Name x p2] X.env := by rfl) : RW X G Wx (.Call (.Name "isinstance" p) [e, .Name x p2] [] pos) (misi T m) :=
  ⟨(pe_callB call_isi hg hm PyProof.Rows.boot_isinstance (pa_cons ha.pe (pa_cons (pe_bltn hgx hmx hv (v := .ty T) rfl hn hdb) pa_nil) h1) (by decide) (by decide) h1 rfl).imp fun σ H Q h => by
  obtain ⟨s, S, env, rfl, so, eo, h⟩ := h
  refine ⟨s, S, env, rfl, so, eo, (Post.bind h).imp fun v H1 ⟨t, w, S1, e, f, so, eo, rv, p⟩ => ?_⟩
  subst e
  cases h2 : tyName S1 w with
  | none => simp only [h2] at p; exact p.elim
  | some a =>
    simp only [h2] at p
    exact ⟨v, .ty T, .type a, .type T, isB a T, rfl, .ty T, hK ▸ tyName_ok so rv h2, kit_isB (tyName_mem h2) hT, p t _ (Fr.refl t) so eo (.bl _)⟩⟩
end
end Bk
/-! text BkG -/
set_option Elab.async false
set_option linter.all false
set_option maxRecDepth 100000
set_option maxHeartbeats 2000000
set_option autoImplicit false
/-! BkG: statements, targets, loops. -/
namespace Bk
open PySem PySem.Spec PyProof.Rows L2
/-- how a statement ends -/
inductive Fl where
  | next (env : Ev) (S : Sto) | ret (r : Rv) (S : Sto) | exn (k : Nat) (d : PyData) (env : Ev) (S : Sto) | fail
abbrev MS := Ev → Sto → Fl
def Fl.bind (x : Fl) (f : MS) : Fl := match x with
  | .next env S => f env S
  | .ret r S => .ret r S
  | .exn k d env S => .exn k d env S
  | .fail => .fail
def Out.fl {α : Type} (x : Out α) (env : Ev) (f : α → Sto → Fl) : Fl := match x with
  | .ok a S => f a S
  | .exn k d S => .exn k d env S
  | .fail => .fail
@[simp] theorem Fl.bind_next (env : Ev) (S : Sto) (f : MS) : (Fl.next env S).bind f = f env S := rfl
@[simp] theorem Fl.bind_ret (r : Rv) (S : Sto) (f : MS) : (Fl.ret r S).bind f = .ret r S := rfl
@[simp] theorem Fl.bind_exn (k : Nat) (d : PyData) (env : Ev) (S : Sto) (f : MS) : (Fl.exn k d env S).bind f = .exn k d env S := rfl
@[simp] theorem Fl.bind_fail (f : MS) : Fl.fail.bind f = .fail := rfl
@[simp] theorem Out.fl_ok {α : Type} (a : α) (S : Sto) (env : Ev) (f : α → Sto → Fl) : (Out.ok a S).fl env f = f a S := rfl
@[simp] theorem Out.fl_exn {α : Type} (k : Nat) (d : PyData) (S : Sto) (env : Ev) (f : α → Sto → Fl) : (Out.exn k d S : Out α).fl env f = .exn k d env S := rfl
@[simp] theorem Out.fl_fail {α : Type} (env : Ev) (f : α → Sto → Fl) : (Out.fail : Out α).fl env f = .fail := rfl
def PostS (G : Gx) (Wx : WX) (s : Sx) (x : Fl) (D : Ends) : Prop := match x with
  | .next env S => ∀ t σ, Fr s t → SOk G t S → EOk G t env σ → D.nx σ t.H
  | .ret r S => ∀ t v, Fr s t → SOk G t S → RvOk G t v r → D.rt v t.H
  | .exn k d env S => ∀ t σ cls dd, Fr s t → SOk G t S → EOk G t env σ → ExOk G t cls dd k d → Wx cls dd σ t.H
  | .fail => False
def tS (G : Gx) (Wx : WX) (m : MS) : TS := fun D σ H => ∃ (s : Sx) (S : Sto) (env : Ev), s.H = H ∧ SOk G s S ∧ EOk G s env σ ∧ PostS G Wx s (m env S) D
structure RS (X : Cx) (G : Gx) (Wx : WX) (st : Stmt) (m : MS) : Prop where
  ps : PS X st (tS G Wx m)
structure RSs (X : Cx) (G : Gx) (Wx : WX) (st : List Stmt) (m : MS) : Prop where
  ps : PSs X st (tS G Wx m)
theorem PostS.mono {G : Gx} {Wx : WX} {s t : Sx} {x : Fl} {D : Ends} (h : PostS G Wx s x D) (f : Fr s t) : PostS G Wx t x D := by
  cases x with
  | next env S => exact fun u σ f2 => h u σ (f.trans f2)
  | ret r S => exact fun u v f2 => h u v (f.trans f2)
  | exn k d env S => exact fun u σ c dd f2 => h u σ c dd (f.trans f2)
  | fail => exact h
section
variable {X : Cx} {G : Gx} {Wx : WX} {k j : Nat}
theorem PostS.bindE {α β : Type} {s : Sx} {env : Ev} {σ : Sg} {rel : Sx → β → α → Prop} {x : Out α} {f : α → Sto → Fl} {D : Ends} (h : PostS G Wx s (x.fl env f) D) :
    Post G Wx s env σ rel x fun b H1 => ∃ t a S1, t.H = H1 ∧ Fr s t ∧ SOk G t S1 ∧ EOk G t env σ ∧ rel t b a ∧ PostS G Wx t (f a S1) D := by
  cases x with
  | ok r S => exact fun t v f1 so eo r' => ⟨t, r, S, rfl, f1, so, eo, r', PostS.mono (x := f r S) h f1⟩
  | exn k d S => exact fun t c dd f so eo ex => h t σ c dd f so eo ex
  | fail => exact h
/-- a block's rest -/
theorem PostS.bind {s : Sx} {x : Fl} {f : MS} {D : Ends} (h : PostS G Wx s (x.bind f) D) : PostS G Wx s x { D with nx := tS G Wx f D } := by
  cases x with
  | next env S => exact fun t σ f1 so eo => ⟨t, S, env, rfl, so, eo, PostS.mono (x := f env S) h f1⟩
  | ret r S => exact h
  | exn k d env S => exact h
  | fail => exact h
def mnext : MS := fun env S => .next env S
def mseq (a b : MS) : MS := fun env S => (a env S).bind b
theorem rs_nil : RSs X G Wx [] mnext := ⟨PSs.imp pss_nil fun D σ H ⟨s, S, env, e, so, eo, h⟩ => by subst e; exact h s σ (Fr.refl s) so eo⟩
theorem rs_cons {st : Stmt} {rest : List Stmt} {a b : MS} (h1 : RS X G Wx st a) (h2 : RSs X G Wx rest b) : RSs X G Wx (st :: rest) (mseq a b) := ⟨(pss_cons h1.ps h2.ps).imp fun D σ H ⟨s, S, env, e, so, eo, h⟩ => ⟨s, S, env, e, so, eo, h.bind⟩⟩
theorem rs_one {st : Stmt} {a : MS} (h1 : RS X G Wx st a) : RSs X G Wx [st] a := ⟨pss_one h1.ps⟩
theorem rs_pass {pos : Pos} : RS X G Wx (.Pass pos) mnext := ⟨PS.imp ps_pass fun D σ H ⟨s, S, env, e, so, eo, h⟩ => by subst e; exact h s σ (Fr.refl s) so eo⟩
def mexpr (m : ME) : MS := fun env S => (m env S).fl env fun _ S => .next env S
theorem dropRv {s : Sx} {S : Sto} {env : Ev} {σ : Sg} {v : V} {r : Rv} (so : SOk G s S) (eo : EOk G s env σ) (rv : RvOk G s v r) : ∃ t : Sx, t.H = s.H ∧ Fr s t ∧ SOk G t S ∧ EOk G t env σ := ⟨s, rfl, Fr.refl s, so, eo⟩
theorem rs_expr {e : Expr} {m : ME} {pos : Pos} (he : RE X G Wx e m) (hs : swapsWith e none pos.line X.env = pure false := by rfl) : RS X G Wx (.Expr e pos) (mexpr m) := ⟨(ps_expr he.pe hs).imp fun D σ H h => by
  obtain ⟨s, S, env, rfl, so, eo, h⟩ := h
  refine ⟨s, S, env, rfl, so, eo, (PostS.bindE h).imp fun v H1 ⟨t, a, S1, e, f, so, eo, rv, p⟩ => ?_⟩
  subst e
  exact p t σ (Fr.refl t) so eo⟩
def mret (m : ME) : MS := fun env S => (m env S).fl env fun r S => .ret r S
theorem rs_ret {e : Expr} {m : ME} {pos : Pos} (he : RE X G Wx e m) : RS X G Wx (.Return (some e) pos) (mret m) := ⟨(ps_ret he.pe).imp fun D σ H h => by
  obtain ⟨s, S, env, rfl, so, eo, h⟩ := h
  refine ⟨s, S, env, rfl, so, eo, (PostS.bindE h).imp fun v H1 ⟨t, a, S1, e, f, so, eo, rv, p⟩ => ?_⟩
  subst e
  exact p t v (Fr.refl t) so rv⟩
def mretN : MS := fun _ S => .ret (.val (.dat .none)) S
theorem rs_retN {pos : Pos} : RS X G Wx (.Return none pos) mretN := ⟨PS.imp ps_retN fun D σ H ⟨s, S, env, e, so, eo, h⟩ => by subst e; exact h s .non (Fr.refl s) so .non⟩
def mIf (c : MT) (a b : MS) : MS := fun env S => (c env S).fl env fun t S => if t = true then a env S else b env S
theorem rs_if {c : Expr} {a b : List Stmt} {mc : MT} {ma mb : MS} {pos : Pos} (hc : RT X G Wx c mc) (ha : RSs X G Wx a ma) (hb : RSs X G Wx b mb) : RS X G Wx (.If c a b pos) (mIf mc ma mb) := ⟨(ps_if hc.pe ha.ps hb.ps).imp fun D σ H h => by
  obtain ⟨s, S, env, rfl, so, eo, h⟩ := h
  refine ⟨s, S, env, rfl, so, eo, (PostS.bindE h).imp fun v H1 ⟨t, a, S1, e, f, so, eo, rv, p⟩ => ?_⟩
  subst e; cases rv
  cases v with
  | true => rw [if_pos rfl]; exact ⟨t, S1, env, rfl, so, eo, p⟩
  | false => rw [if_neg Bool.false_ne_true]; exact ⟨t, S1, env, rfl, so, eo, p⟩⟩

/-! ### names stored -/
/-- a fresh list that may change: always put into the store -/
def argm : Rv → Sto → Option (Vl × Sto)
  | .val w, S => some (w, S)
  | .new xs, S => some (.ref S.length, S ++ [.lst xs])
theorem Post.argm {s : Sx} {env : Ev} {σ : Sg} {r : Rv} {S : Sto} {v : V} {Q : VK} (so : SOk G s S) (eo : EOk G s env σ) (rv : RvOk G s v r) (h : Post G Wx s env σ (RepV G) (lift (argm r S)) Q) : Q v s.H := by
  cases r with
  | val w => exact h s v (Fr.refl s) so eo rv
  | new xs =>
    obtain ⟨t, eH, f, so', eo', r'⟩ := thaw rv so eo
    rw [← eH]
    exact h t v f so' eo' r'
def mwM (m : ME) : MW := fun env S => (m env S).bind fun r S => lift (argm r S)
theorem RE.rwM {e : Expr} {m : ME} (h : RE X G Wx e m) : RW X G Wx e (mwM m) := ⟨h.pe.imp fun σ H Q h => by
  obtain ⟨s, S, env, rfl, so, eo, h⟩ := h
  refine ⟨s, S, env, rfl, so, eo, (Post.bind h).imp fun v H1 ⟨t, a, S1, e, f, so, eo, rv, p⟩ => ?_⟩
  subst e
  exact Post.argm so eo rv p⟩
def mset (i : Nat) (m : MW) : MS := fun env S => (m env S).fl env fun w S => .next (env.set i (some w)) S
theorem rs_set (i : Nat) {x : Str} {e : Expr} {m : MW} {pos pos' : Pos} (hN : X.N.Nodup) (he : RW X G Wx e m) (hi : X.N[i]? = some x := by rfl) (hx : Loc X.env.scope x := by first | exact Or.inl rfl | exact Or.inr rfl) (hs : swapsWith e (some (.Name x pos')) pos.line X.env = pure false := by rfl)
    (hf : X.fn x = true ∨ X.env.scope.names.lookup x = some .local := by first | exact .inl rfl | exact .inr rfl | assumption) : RS X G Wx (.Assign [.Name x pos'] e pos) (mset i m) := ⟨(ps_set hN hi hx he.pe hs hf).imp fun D σ H h => by
  obtain ⟨s, S, env, rfl, so, eo, h⟩ := h
  refine ⟨s, S, env, rfl, so, eo, (PostS.bindE h).imp fun v H1 ⟨t, a, S1, e, f, so, eo, rv, p⟩ => ?_⟩
  subst e
  exact p t _ (Fr.refl t) so (eo.set rv i)⟩
/-- a, b = x, y: plain local names -/
def mpar (i j : Nat) (m : MA) : MS := fun env S => (m env S).fl env fun ws S => match ws with
  | [a, b] => .next ((env.set i (some a)).set j (some b)) S
  | _ => .fail
theorem rs_par (i j : Nat) {x y : Str} {a b : Expr} {m : MA} {px py pt pos : Pos} {kt k2 : Nat} {pt2 : Pos} (hc : X.calm = true) (hN : X.N.Nodup) (ha : RA X G Wx [a, b] m) (hi : X.N[i]? = some x := by rfl) (hj : X.N[j]? = some y := by rfl) (hij : i ≠ j := by decide)
    (hx : X.env.scope.names.lookup x = some .local := by rfl) (hy : X.env.scope.names.lookup y = some .local := by rfl)
    (hw : swappedStores [.Tuple [.Name x px, .Name y py] kt pt] (.Tuple [a, b] k2 pt2) X.env = pure (some [x, y]) := by rfl)
    (hs : swapsWithSole [.Tuple [.Name x px, .Name y py] kt pt] (.Tuple [a, b] k2 pt2) pos.line X.env = pure false := by rfl) :
    RS X G Wx (.Assign [.Tuple [.Name x px, .Name y py] kt pt] (.Tuple [a, b] k2 pt2) pos) (mpar i j m) := ⟨(ps_par hc hN hi hj hij hx hy ha.pe hw hs).imp fun D σ H h => by
  obtain ⟨s, S, env, rfl, so, eo, h⟩ := h
  refine ⟨s, S, env, rfl, so, eo, (PostS.bindE h).imp fun vs H1 ⟨t, ws, S1, e, f, so, eo, rv, p⟩ => ?_⟩
  subst e
  split at p
  · obtain ⟨v, w, e, r1, r2⟩ := rep2 rv
    exact ⟨v, w, e, p t _ (Fr.refl t) so ((eo.set r1 i).set r2 j)⟩
  · exact p.elim⟩
def mpar3 (i j l : Nat) (m : MA) : MS := fun env S => (m env S).fl env fun ws S => match ws with
  | [a, b, c] => .next (((env.set i (some a)).set j (some b)).set l (some c)) S
  | _ => .fail
theorem rs_par3 (i j l : Nat) {x y z : Str} {a b c : Expr} {m : MA} {px py pz pt pos : Pos} {kt k2 : Nat} {pt2 : Pos} (hc : X.calm = true) (hN : X.N.Nodup) (ha : RA X G Wx [a, b, c] m) (hi : X.N[i]? = some x := by rfl) (hj : X.N[j]? = some y := by rfl) (hl : X.N[l]? = some z := by rfl) (hij : i ≠ j := by decide) (hil : i ≠ l := by decide) (hjl : j ≠ l := by decide)
    (hx : X.env.scope.names.lookup x = some .local := by rfl) (hy : X.env.scope.names.lookup y = some .local := by rfl) (hz : X.env.scope.names.lookup z = some .local := by rfl)
    (hw : swappedStores [.Tuple [.Name x px, .Name y py, .Name z pz] kt pt] (.Tuple [a, b, c] k2 pt2) X.env = pure (some [x, y, z]) := by rfl)
    (hs : swapsWithSole [.Tuple [.Name x px, .Name y py, .Name z pz] kt pt] (.Tuple [a, b, c] k2 pt2) pos.line X.env = pure false := by rfl) :
    RS X G Wx (.Assign [.Tuple [.Name x px, .Name y py, .Name z pz] kt pt] (.Tuple [a, b, c] k2 pt2) pos) (mpar3 i j l m) := ⟨(ps_par3 hc hN hi hj hl hij hil hjl hx hy hz ha.pe hw (hs := hs)).imp fun D σ H h => by
  obtain ⟨s, S, env, rfl, so, eo, h⟩ := h
  refine ⟨s, S, env, rfl, so, eo, (PostS.bindE h).imp fun vs H1 ⟨t, ws, S1, e, f, so, eo, rv, p⟩ => ?_⟩
  subst e
  split at p
  · cases rv with
    | cons r0 rv =>
      obtain ⟨v, w, e, r1, r2⟩ := rep2 rv
      subst e
      exact ⟨_, v, w, rfl, p t _ (Fr.refl t) so (((eo.set r0 i).set r1 j).set r2 l)⟩
  · exact p.elim⟩

/-! ### targets -/
abbrev MG := Vl → Ev → Sto → Fl
abbrev MGs := List Vl → Ev → Sto → Fl
theorem wipe_set {σ : Sg} {i : Nat} {x : Option V} : ∀ {vs : List Nat}, i ∈ vs → wipe (σ.set i x) vs = wipe σ vs
  | [], h => by cases h
  | v :: vs, h => by
    show (wipe (σ.set i x) vs).set v none = (wipe σ vs).set v none
    by_cases hv : i ∈ vs
    · rw [wipe_set hv]
    · have e : i = v := (List.mem_cons.mp h).resolve_right hv
      subst e
      have q : ∀ vs : List Nat, i ∉ vs → wipe (σ.set i x) vs = (wipe σ vs).set i x := by
        intro vs
        induction vs with
        | nil => intro _; rfl
        | cons u us ih =>
          intro hn
          rw [List.mem_cons, not_or] at hn
          show (wipe (σ.set i x) us).set u none = ((wipe σ us).set u none).set i x
          rw [ih hn.2, List.set_comm _ _ hn.1]
      rw [q vs hv, List.set_set]
/-- only a plain end; slots other than vs stay -/
def PostG (G : Gx) (vs : List Nat) (σ0 : Sg) (s : Sx) (x : Fl) (Q : Sg → Hp → Prop) : Prop := match x with
  | .next env S => ∀ t σ, wipe σ vs = wipe σ0 vs → Fr s t → SOk G t S → EOk G t env σ → Q σ t.H
  | _ => False
theorem PostG.mono {G : Gx} {vs : List Nat} {σ0 : Sg} {s t : Sx} {x : Fl} {Q : Sg → Hp → Prop} (h : PostG G vs σ0 s x Q) (f : Fr s t) : PostG G vs σ0 t x Q := by
  cases x with
  | next env S => exact fun u σ w f2 => h u σ w (f.trans f2)
  | _ => exact h
theorem PostG.at {G : Gx} {vs : List Nat} {σ0 σ1 : Sg} {s : Sx} {x : Fl} {Q : Sg → Hp → Prop} (h : PostG G vs σ0 s x Q) (e : wipe σ1 vs = wipe σ0 vs) : PostG G vs σ1 s x Q := by
  cases x with
  | next env S => exact fun u σ w f2 => h u σ (w.trans e) f2
  | _ => exact h
def tG (G : Gx) (vs : List Nat) (m : MG) : TG := fun v σ H Q => ∃ (s : Sx) (S : Sto) (env : Ev) (w : Vl), s.H = H ∧ SOk G s S ∧ EOk G s env σ ∧ RepV G s v w ∧ PostG G vs σ s (m w env S) Q
def tGs (G : Gx) (vs : List Nat) (m : MGs) : TGs := fun us σ H Q => ∃ (s : Sx) (S : Sto) (env : Ev) (ws : List Vl), s.H = H ∧ SOk G s S ∧ EOk G s env σ ∧ RepVs G s us ws ∧ PostG G vs σ s (m ws env S) Q
structure RG (X : Cx) (G : Gx) (vs : List Nat) (tg : Expr) (m : MG) : Prop where
  pg : PG X tg (tG G vs m)
structure RGs (X : Cx) (G : Gx) (vs : List Nat) (tgs : List Expr) (m : MGs) : Prop where
  pg : PGs X tgs (tGs G vs m)
theorem _root_.L2.PG.imp {X : Cx} {e : Expr} {t u : TG} (h : PG X e t) (i : ∀ v σ H Q, u v σ H Q → t v σ H Q) : PG X e u := ⟨fun pins s σ H v u' Q I r q => h.run pins s σ H v u' Q I r (i v σ H Q q)⟩
theorem _root_.L2.PGs.imp {X : Cx} {e : List Expr} {t u : TGs} (h : PGs X e t) (i : ∀ v σ H Q, u v σ H Q → t v σ H Q) : PGs X e u := ⟨fun pins s σ H v u' Q I r q => h.run pins s σ H v u' Q I r (i v σ H Q q)⟩
theorem _root_.L2.PG.or {X : Cx} {e : Expr} {t u : TG} (h : PG X e t) (h' : PG X e u) : PG X e fun v σ H Q => t v σ H Q ∨ u v σ H Q := ⟨fun pins s σ H v u' Q I r q => q.elim (h.run pins s σ H v u' Q I r) (h'.run pins s σ H v u' Q I r)⟩
def mgN (i : Nat) : MG := fun w env S => .next (env.set i (some w)) S
theorem rg_name (i : Nat) {vs : List Nat} {x : Str} {pos : Pos} (hN : X.N.Nodup) (hv : i ∈ vs := by decide) (hi : X.N[i]? = some x := by rfl) (hx : Loc X.env.scope x := by first | exact Or.inl rfl | exact Or.inr rfl) (hf : X.fn x = true ∨ X.env.scope.names.lookup x = some .local := by first | exact .inl rfl | exact .inr rfl | assumption) : RG X G vs (.Name x pos) (mgN i) :=
  ⟨(pg_name hN hi hx hf).imp fun v σ H Q h => by
  obtain ⟨s, S, env, w, rfl, so, eo, r, p⟩ := h
  exact p s _ (wipe_set hv) (Fr.refl s) so (eo.set r i)⟩
def mgnil : MGs := fun ws env S => match ws with
  | [] => .next env S
  | _ => .fail
def mgcons (m : MG) (ms : MGs) : MGs := fun ws env S => match ws with
  | w :: r => (m w env S).bind (ms r)
  | [] => .fail
theorem rg_nil {vs : List Nat} : RGs X G vs [] mgnil := ⟨PGs.imp pgs_nil fun us σ H Q h => by
  obtain ⟨s, S, env, ws, rfl, so, eo, r, p⟩ := h
  unfold mgnil at p
  split at p
  · cases r
    exact ⟨rfl, p s _ rfl (Fr.refl s) so eo⟩
  · exact p.elim⟩
theorem rg_cons {vs : List Nat} {e : Expr} {es : List Expr} {m : MG} {ms : MGs} (h1 : RG X G vs e m) (h2 : RGs X G vs es ms) (hs : (assignEach (e :: es) X.env).map (·.2) = assign e X.env :: (assignEach es X.env).map (·.2) := by rfl) : RGs X G vs (e :: es) (mgcons m ms) :=
  ⟨(pgs_cons h1.pg h2.pg hs).imp fun us σ H Q h => by
  obtain ⟨s, S, env, ws, rfl, so, eo, r, p⟩ := h
  unfold mgcons at p
  split at p
  · rename_i w ws'
    cases r with
    | cons r1 r2 =>
      refine ⟨_, _, rfl, s, S, env, w, rfl, so, eo, r1, ?_⟩
      cases q : m w env S with
      | next env' S' =>
        rw [q] at p
        exact fun t σ' ew f so' eo' => ⟨t, S', env', ws', rfl, so', eo', RepVs.mono f r2, (PostG.mono (x := ms ws' env' S') p f).at ew⟩
      | ret r S' => rw [q] at p; exact p.elim
      | exn k d env' S' => rw [q] at p; exact p.elim
      | fail => rw [q] at p; exact p.elim
  · exact p.elim⟩
/-- (a, b, ..) = a tuple or a list of that length -/
def mgtup (n : Nat) (ms : MGs) : MG := fun w env S => match itemsOf S w with
  | some xs => if xs.length = n then ms xs env S else .fail
  | none => .fail
theorem rg_tup {vs : List Nat} {es : List Expr} {kk n : Nat} {ms : MGs} {pos : Pos} (hc : X.calm = true) (h : RGs X G vs es ms) (hK : G.K = X.K := by rfl) (hn : (assignEach es X.env).length = n := by rfl) (hst : (assignEach es X.env).findIdx? (·.1) = none := by rfl) : RG X G vs (.Tuple es kk pos) (mgtup n ms) :=
  ⟨(PG.or (pg_tup hc h.pg hn hst) (pg_unl hc h.pg hn hst)).imp fun v σ H Q h => by
  obtain ⟨s, S, env, w, rfl, so, eo, r, p⟩ := h
  unfold mgtup at p
  cases e : itemsOf S w with
  | none => simp only [e] at p; exact p.elim
  | some xs =>
    simp only [e] at p
    split at p
    · rename_i hl
      obtain ⟨a, us, ev, hq, rv⟩ := itemsOf_ok so r e
      rcases hq with hq | hq
      · exact .inr ⟨a, us, ev, hK ▸ hq, by rw [rv.length]; exact hl, s, S, env, xs, rfl, so, eo, rv, p⟩
      · exact .inl ⟨a, us, ev, hK ▸ hq, by rw [rv.length]; exact hl, s, S, env, xs, rfl, so, eo, rv, p⟩
    · exact p.elim⟩
/-- target = value -/
def masg (m : MW) (mg : MG) : MS := fun env S => (m env S).fl env fun w S => mg w env S
/-- a target's end is plain -/
def Fl.pl : Fl → Fl
  | .next e S => .next e S
  | _ => .fail
theorem PostS.pl {vs : List Nat} {σ : Sg} {s : Sx} {x : Fl} {D : Ends} (h : PostS G Wx s x.pl D) : PostG G vs σ s x D.nx := by
  cases x with
  | next e S => exact fun t σ _ => h t σ
  | _ => exact h
theorem rs_asg {tg e : Expr} {m : MW} {mg : MG} {pos : Pos} (he : RW X G Wx e m) {vs : List Nat} (hg : RG X G vs tg mg) (hs : swapsWithSole [tg] e pos.line X.env = pure false := by rfl) (hw : swappedStores [tg] e X.env = pure none := by rfl)
    (h1 : (assignEach [tg] X.env).map (·.2) = [assign tg X.env] := by rfl) : RS X G Wx (.Assign [tg] e pos) (masg m fun w env S => (mg w env S).pl) := ⟨(ps_asg he.pe hg.pg hs hw h1).imp fun D σ H h => by
  obtain ⟨s, S, env, rfl, so, eo, h⟩ := h
  refine ⟨s, S, env, rfl, so, eo, (PostS.bindE h).imp fun v H1 ⟨t, w, S1, e, f, so, eo, rv, p⟩ => ?_⟩
  subst e
  exact ⟨t, S1, env, w, rfl, so, eo, rv, p.pl⟩⟩
/-- (a, b, ..) = (x, y, ..), the pair made and taken apart -/
def masgT (n : Nat) (m : MA) (mg : MGs) : MS := fun env S => (m env S).fl env fun ws S => if ws.length = n ∧ n ≤ 1000 then (mg ws env S).pl else .fail
theorem rs_asgT {es tgs : List Expr} {n kk x1 : Nat} {m : MA} {mg : MGs} {pos p1 p2 : Pos} (hc : X.calm = true) (ha : RA X G Wx es m) {vs : List Nat} (hg : RGs X G vs tgs mg) (hn : (assignEach tgs X.env).length = n := by rfl) (hst : (assignEach tgs X.env).findIdx? (·.1) = none := by rfl) (hK : G.K = X.K := by rfl)
    (hs : swapsWithSole [.Tuple tgs kk p1] (.Tuple es x1 p2) pos.line X.env = pure false := by rfl) (hw : swappedStores [.Tuple tgs kk p1] (.Tuple es x1 p2) X.env = pure none := by rfl)
    (h1 : (assignEach [.Tuple tgs kk p1] X.env).map (·.2) = [assign (.Tuple tgs kk p1) X.env] := by rfl) : RS X G Wx (.Assign [.Tuple tgs kk p1] (.Tuple es x1 p2) pos) (masgT n m mg) :=
  ⟨(ps_asg (pe_tup ha.pe) (pg_tup hc hg.pg hn hst) hs hw h1).imp fun D σ H h => by
  obtain ⟨s, S, env, rfl, so, eo, h⟩ := h
  refine ⟨s, S, env, rfl, so, eo, (PostS.bindE h).imp fun vs H1 ⟨t, ws, S1, e, f, so, eo, rv, p⟩ => ?_⟩
  subst e
  split at p
  · rename_i hl
    refine ⟨line_big (by rw [rv.length]; omega), fun p1 hp => ?_⟩
    refine ⟨p1, vs, rfl, .inl (.inl upd_same), by rw [rv.length]; exact hl.1, ?_⟩
    have f2 := fr_grow so hp (.tup vs)
    exact ⟨_, S1, env, ws, rfl, so.grow hp _, eo.mono f2, RepVs.mono f2 rv, PostG.mono (x := mg ws env S1) p.pl f2⟩
  · exact p.elim⟩
/-- name op= e -/
def maug (i : Nat) (m : MW) (f : Op2) : MS := fun env S => match env[i]? with
  | some (some x) => (m env S).fl env fun y S => match f x y S with
    | some (.val w, S) => .next (env.set i (some w)) S
    | _ => .fail
  | _ => .fail
end
end Bk
/-! text BkH -/
set_option Elab.async false
set_option linter.all false
set_option maxRecDepth 100000
set_option maxHeartbeats 2000000
set_option autoImplicit false
/-! BkH: what a loop walks, for, while, list comprehensions. -/
namespace Bk
open PySem PySem.Spec PyProof.Rows L2
/-- what is walked: items that stay, or a list of the store as it stands at each turn (and how many turns at most) -/
inductive Src where
  | st (xs : List Vl) | dyn (n m : Nat)
def Src.at : Src → Sto → Nat → Option Vl
  | .st xs, _, i => xs[i]?
  | .dyn n _, S, i => match S[n]? with
    | some (.lst ys) => ys[i]?
    | _ => none
def Src.stop : Src → Sto → Nat → Bool
  | .st xs, _, i => decide (xs.length ≤ i)
  | .dyn n _, S, i => match S[n]? with
    | some (.lst ys) => decide (ys.length ≤ i)
    | _ => false
def Src.len : Src → Nat
  | .st xs => xs.length
  | .dyn _ m => m
def SrcOk (G : Gx) (t : Sx) (J : It) (src : Src) : Prop := ∀ (i : Nat) (u : Sx) (S : Sto), FrV t u → SOk G u S →
  (src.stop S i = true → J.stop i u.H) ∧ ∀ w, src.at S i = some w → J.go i u.H ∧ ∀ x H', J.yld i u.H x H' → ∃ u' : Sx, u'.H = H' ∧ Fr u u' ∧ SOk G u' S ∧ RepV G u' x w
abbrev MI := MM Src
structure RI (X : Cx) (G : Gx) (Wx : WX) (tg iter : Expr) (m : MI) : Prop where
  pi : PI X tg iter (tP G Wx (SrcOk G) m)
theorem _root_.L2.PI.imp {X : Cx} {tg e : Expr} {t u : TI} (h : PI X tg e t) (i : ∀ σ H R, u σ H R → t σ H R) : PI X tg e u := ⟨fun pins s σ H R I q => h.run pins s σ H R I (i σ H R q)⟩
theorem _root_.L2.PI.or {X : Cx} {tg e : Expr} {t u : TI} (h : PI X tg e t) (h' : PI X tg e u) : PI X tg e fun σ H R => t σ H R ∨ u σ H R := ⟨fun pins s σ H R I q => q.elim (h.run pins s σ H R I) (h'.run pins s σ H R I)⟩
section
variable {X : Cx} {G : Gx} {Wx : WX} {k j : Nat}
/-! ### sources -/
theorem sqL_uniq {K : PySem.W.Frag} {H : Hp} {a : Addr} {xs : List V} (h : H a = some (.lst xs)) (nk : True) : Rd H a (.lst xs) := .inl h
def srcOf (S : Sto) : Vl → Option Src
  | .dat (.list ds) => some (.st (ds.map .dat))
  | .dat (.tuple ds) => some (.st (ds.map .dat))
  | .ro ds => some (.st (ds.map .dat))
  | .ref n => match S[n]? with
    | some (.lst xs) => some (.dyn n xs.length)
    | _ => none
  | _ => none
theorem src_tup {s : Sx} {a : Addr} {vs : List V} {xs : List Vl} (h : SqT G.K s.vis a vs) (r : RepVs G s vs xs) : SrcOk G s (Itt G.K a) (.st xs) := by
  intro i u S f so
  have hu : SqT G.K u.H a vs := seqT_mono vis_all (seqT_mono f.same h)
  refine ⟨fun e => ⟨vs, hu, by have := of_decide_eq_true e; rw [r.length]; exact this⟩, fun w e => ?_⟩
  obtain ⟨v, e1, r1⟩ := Paired.get' r (show xs[i]? = some w from e)
  refine ⟨⟨vs, v, hu, e1⟩, fun x H' y => ?_⟩
  obtain ⟨eH, y⟩ := y
  have ex := y vs hu
  rw [e1] at ex; cases ex
  exact ⟨u, eH.symm, Fr.refl u, so, r1.monoV f⟩
theorem src_lst {s : Sx} {a : Addr} {vs : List V} {xs : List Vl} (h : SqL G.K s.vis a vs) (r : RepVs G s vs xs) : SrcOk G s (Itl G.K a) (.st xs) := by
  intro i u S f so
  have hu : SqL G.K u.H a vs := seqL_mono vis_all (seqL_mono f.same h)
  refine ⟨fun e => ⟨vs, hu, by have := of_decide_eq_true e; rw [r.length]; exact this⟩, fun w e => ?_⟩
  obtain ⟨v, e1, r1⟩ := Paired.get' r (show xs[i]? = some w from e)
  refine ⟨⟨vs, v, hu, e1⟩, fun x H' y => ?_⟩
  obtain ⟨eH, y⟩ := y
  have ex := y vs hu
  rw [e1] at ex; cases ex
  exact ⟨u, eH.symm, Fr.refl u, so, r1.monoV f⟩
theorem src_dyn {s : Sx} {a : Addr} {n m : Nat} (h : s.ρ[n]? = some a) : SrcOk G s (Itl G.K a) (.dyn n m) := by
  intro i u S f so
  have hρ := f.at h
  have look : ∀ ys, S[n]? = some (.lst ys) → ∃ vs, SqL G.K u.H a vs ∧ RepVs G u vs ys := fun ys e => by
    obtain ⟨_, vs, hH, rv⟩ := so.ob n _ a e hρ
    exact ⟨vs, .inl (.inl hH), rv⟩
  refine ⟨fun e => ?_, fun w e => ?_⟩
  · simp only [Src.stop] at e
    split at e
    · rename_i ys hy
      obtain ⟨vs, hq, rv⟩ := look ys hy
      exact ⟨vs, hq, by have := of_decide_eq_true e; rw [rv.length]; exact this⟩
    · cases e
  · simp only [Src.at] at e
    split at e
    · rename_i ys hy
      obtain ⟨vs, hq, rv⟩ := look ys hy
      obtain ⟨v, e1, r1⟩ := Paired.get' rv e
      refine ⟨⟨vs, v, hq, e1⟩, fun x H' y => ?_⟩
      obtain ⟨eH, y⟩ := y
      have ex := y vs hq
      rw [e1] at ex; cases ex
      exact ⟨u, eH.symm, Fr.refl u, so, r1⟩
    · cases e
def misrc (m : MW) : MI := fun env S => (m env S).bind fun w S => match srcOf S w with
  | some c => .ok c S
  | none => .fail
theorem ri_seq {tg e : Expr} {m : MW} (h : RW X G Wx e m) (hK : G.K = X.K := by rfl) : RI X G Wx tg e (misrc m) := ⟨(PI.or (pi_list h.pe) (pi_tup h.pe)).imp fun σ H R h => by
  obtain ⟨s, S, env, rfl, so, eo, h⟩ := h
  unfold misrc at h
  cases q : m env S with
  | fail => rw [q] at h; exact h.elim
  | exn kk d S' =>
    rw [q] at h
    exact .inl ⟨s, S, env, rfl, so, eo, by rw [q]; exact h⟩
  | ok w S1 =>
    rw [q] at h
    simp only [Out.bind_ok] at h
    cases e : srcOf S1 w with
    | none => simp only [e] at h; exact h.elim
    | some c =>
      simp only [e] at h
      unfold srcOf at e
      split at e
      · cases e
        refine .inl ⟨s, S, env, rfl, so, eo, ?_⟩; rw [q]; intro t v f so1 eo1 r
        cases r with
        | @lst a vs ds h1 h2 =>
          refine ⟨a, rfl, ⟨vs, hK ▸ (.inl (.inl (vis_all _ _ h1)) : SqL G.K t.H a vs)⟩, ?_⟩
          rw [← hK]
          exact h t _ f so1 eo1 (src_lst (.inl (.inl h1)) (repVs_of h2))
      · cases e
        refine .inr ⟨s, S, env, rfl, so, eo, ?_⟩; rw [q]; intro t v f so1 eo1 r
        cases r with
        | @tup a vs ds h1 h2 =>
          refine ⟨a, rfl, ⟨vs, hK ▸ seqT_mono vis_all h1⟩, ?_⟩
          rw [← hK]
          exact h t _ f so1 eo1 (src_tup h1 (repVs_of h2))
      · cases e
        refine .inl ⟨s, S, env, rfl, so, eo, ?_⟩; rw [q]; intro t v f so1 eo1 r
        obtain ⟨a, vs, ev, h1, h2⟩ := r
        refine ⟨a, ev, ⟨vs, hK ▸ seqL_mono vis_all h1⟩, ?_⟩
        rw [← hK]
        exact h t _ f so1 eo1 (src_lst h1 (repVs_of h2))
      · rename_i n
        split at e
        · rename_i xs hx
          cases e
          refine .inl ⟨s, S, env, rfl, so, eo, ?_⟩; rw [q]; intro t v f so1 eo1 r
          obtain ⟨a, h1, ev⟩ := r
          obtain ⟨_, vs, hH, rv⟩ := so1.ob n _ a hx h1
          refine ⟨a, ev, ⟨vs, hK ▸ (.inl (.inl hH) : SqL G.K t.H a vs)⟩, ?_⟩
          rw [← hK]
          exact h t _ f so1 eo1 (src_dyn h1)
        · cases e
      · cases e⟩
/-- range -/
def rngV (lo : Int) (n : Nat) : List Vl := (List.range n).map fun i => .dat (.int (lo + (i : Nat)))
theorem rngV_len (lo : Int) (n : Nat) : (rngV lo n).length = n := by simp [rngV]
theorem src_rng {s : Sx} (lo : Int) (n : Nat) : SrcOk G s (Itr lo n) (.st (rngV lo n)) := by
  intro i u S f so
  refine ⟨fun e => by have := of_decide_eq_true e; rw [rngV_len] at this; exact this, fun w e => ?_⟩
  have e : (rngV lo n)[i]? = some w := e
  have hi : i < n := by have := (List.getElem?_eq_some_iff.mp e).1; rw [rngV_len] at this; exact this
  refine ⟨hi, fun x H' y => ?_⟩
  obtain ⟨eH, ex⟩ := y
  refine ⟨u, eH.symm, Fr.refl u, so, ?_⟩
  have : w = .dat (.int (lo + (i : Nat))) := by
    unfold rngV at e
    rw [List.getElem?_map, List.getElem?_range hi] at e
    cases e; rfl
  rw [this, ex]
  exact .int _
def mrng1 (m : MA) : MI := fun env S => (m env S).bind fun ws S => match ws with
  | [.dat (.int j)] => if -(2 ^ 62) ≤ j ∧ j < 2 ^ 62 then .ok (.st (rngV 0 j.toNat)) S else .fail
  | _ => .fail
theorem ri_range1 {tg a : Expr} {m : MA} {p pos : Pos} (hg : Gl X "range") (hm : X.mg "range" = none) (ha : RA X G Wx [a] m) (hs : starEach [a] X.env = [(false, eval a X.env)] := by rfl) : RI X G Wx tg (.Call (.Name "range" p) [a] [] pos) (mrng1 m) :=
  ⟨(pi_range1 hg hm ha.pe hs).imp fun σ H R h => by
  obtain ⟨s, S, env, rfl, so, eo, h⟩ := h
  refine ⟨s, S, env, rfl, so, eo, (Post.bind h).imp fun vs H1 ⟨t, ws, S1, e, f, so, eo, rv, p⟩ => ?_⟩
  subst e
  split at p
  · rename_i j
    split at p
    · rename_i hj
      obtain ⟨x, ex, r⟩ := rep1 rv
      cases r
      exact ⟨j, ex, hj.1, hj.2, p t _ (Fr.refl t) so eo (src_rng 0 j.toNat)⟩
    · exact p.elim
  · exact p.elim⟩
def mrng2 (m : MA) : MI := fun env S => (m env S).bind fun ws S => match ws with
  | [.dat (.int i), .dat (.int j)] => if (-(2 ^ 62) ≤ i ∧ i < 2 ^ 62) ∧ -(2 ^ 62) ≤ j ∧ j < 2 ^ 62 then .ok (.st (rngV i (j - i).toNat)) S else .fail
  | _ => .fail
theorem ri_range2 {tg a b : Expr} {m : MA} {p pos : Pos} (hg : Gl X "range") (hm : X.mg "range" = none) (ha : RA X G Wx [a, b] m) (hs : starEach [a, b] X.env = [(false, eval a X.env), (false, eval b X.env)] := by rfl) (hs2 : starEach [b] X.env = [(false, eval b X.env)] := by rfl) : RI X G Wx tg (.Call (.Name "range" p) [a, b] [] pos) (mrng2 m) :=
  ⟨(pi_range2 hg hm ha.pe hs hs2).imp fun σ H R h => by
  obtain ⟨s, S, env, rfl, so, eo, h⟩ := h
  refine ⟨s, S, env, rfl, so, eo, (Post.bind h).imp fun vs H1 ⟨t, ws, S1, e, f, so, eo, rv, p⟩ => ?_⟩
  subst e
  split at p
  · rename_i i j
    split at p
    · rename_i hj
      obtain ⟨x, y, ex, r1, r2⟩ := rep2 rv
      cases r1; cases r2
      exact ⟨i, j, ex, ⟨hj.1.1, hj.1.2, hj.2.1, hj.2.2⟩, p t _ (Fr.refl t) so eo (src_rng i _)⟩
    · exact p.elim
  · exact p.elim⟩

/-! ### for -/
def loop (c : Src) (body : Vl → MS) : Nat → Nat → MS
  | 0, i => fun env S => if c.stop S i = true then .next env S else .fail
  | m + 1, i => fun env S => match c.at S i with
    | some w => (body w env S).bind (loop c body m (i + 1))
    | none => .fail
def mfor (mi : MI) (mg : MG) (mb : MS) : MS := fun env S => (mi env S).fl env fun c S => loop c (fun w => mseq (fun env S => (mg w env S).pl) mb) c.len 0 env S
theorem rs_for {tg iter : Expr} {body : List Stmt} {mi : MI} {mg : MG} {mb : MS} {pos : Pos} (hp : PassesOwn (model X.prog X.w) X.A X.env X.xe) (hc : X.calm = true) (hi : RI X G Wx tg iter mi) {vs : List Nat} (hg : RG X G vs tg mg) (hb : RSs X G Wx body mb) (hs : ∀ x, foldedSetIterable iter X.env x = pure x := by intro _; rfl) :
    RS X G Wx (.For tg iter body [] pos) (mfor mi mg mb) := ⟨(ps_for hp hc hi.pi hg.pg hb.ps hs).imp fun D σ H h => by
  obtain ⟨s, S, env, rfl, so, eo, h⟩ := h
  refine ⟨s, S, env, rfl, so, eo, (PostS.bindE h).imp fun J H1 ⟨t, c, S1, e, f, so, eo, rc, p⟩ => ?_⟩
  subst e
  let B : Vl → MS := fun w => mseq (fun env S => (mg w env S).pl) mb
  refine ⟨fun i m σ H => ∃ (u : Sx) (S : Sto) (env : Ev), u.H = H ∧ Fr t u ∧ SOk G u S ∧ EOk G u env σ ∧ PostS G Wx u (loop c B m i env S) D, ⟨c.len, t, S1, env, rfl, Fr.refl t, so, eo, p⟩, ?_⟩
  rintro i m σ H ⟨u, S2, env2, rfl, fu, so2, eo2, p2⟩
  cases m with
  | zero =>
    simp only [loop] at p2
    split at p2
    · rename_i hst
      exact .inl ⟨(rc i u S2 fu.v so2).1 hst, p2 u σ (Fr.refl u) so2 eo2⟩
    · exact p2.elim
  | succ m =>
    simp only [loop] at p2
    cases e : c.at S2 i with
    | none => simp only [e] at p2; exact p2.elim
    | some w =>
      simp only [e] at p2
      obtain ⟨hgo, hy⟩ := (rc i u S2 fu.v so2).2 w e
      refine .inr ⟨hgo, fun σ' H' => ∃ (u : Sx) (S : Sto) (env : Ev), u.H = H' ∧ Fr t u ∧ SOk G u S ∧ EOk G u env σ' ∧ PostS G Wx u (loop c B m (i + 1) env S) D, fun σ' H' hN => ⟨m, Nat.lt_succ_self m, hN⟩, fun x H' yl => ?_⟩
      obtain ⟨u', eH, f', so', r'⟩ := hy x H' yl
      subst eH
      have p3 := PostS.mono (x := (B w env2 S2).bind (loop c B m (i + 1))) p2 f'
      refine ⟨u', S2, env2, w, rfl, so', eo2.mono f', r', ?_⟩
      cases q : mg w env2 S2 with
      | next env3 S3 =>
        have eB : B w env2 S2 = mb env3 S3 := by
          show ((mg w env2 S2).pl).bind mb = _
          rw [q]; rfl
        rw [eB] at p3
        refine fun t3 σ3 _ f3 so3 eo3 => ⟨t3, S3, env3, rfl, so3, eo3, ?_⟩
        have p4 := PostS.bind (PostS.mono (x := (mb env3 S3).bind (loop c B m (i + 1))) p3 f3)
        have ft : Fr t t3 := fu.trans (f'.trans f3)
        cases q5 : mb env3 S3 with
        | next env4 S4 =>
          rw [q5] at p3
          exact fun t4 σ4 f4 so4 eo4 => ⟨t4, S4, env4, rfl, ft.trans f4, so4, eo4, PostS.mono (x := loop c B m (i + 1) env4 S4) p3 (f3.trans f4)⟩
        | ret r S4 => rw [q5] at p4; exact p4
        | exn kk d e4 S4 => rw [q5] at p4; exact p4
        | fail => rw [q5] at p4; exact p4
      | ret r S3 =>
        have eB : B w env2 S2 = .fail := by
          show ((mg w env2 S2).pl).bind mb = _
          rw [q]; rfl
        rw [eB] at p3; exact p3.elim
      | exn kk d e3 S3 =>
        have eB : B w env2 S2 = .fail := by
          show ((mg w env2 S2).pl).bind mb = _
          rw [q]; rfl
        rw [eB] at p3; exact p3.elim
      | fail =>
        have eB : B w env2 S2 = .fail := by
          show ((mg w env2 S2).pl).bind mb = _
          rw [q]; rfl
        rw [eB] at p3; exact p3.elim⟩

/-! ### while -/
def wloop (mc : MT) (mb : MS) : Nat → MS
  | 0 => fun _ _ => .fail
  | m + 1 => fun env S => (mc env S).fl env fun b S => if b = true then (mb env S).bind (wloop mc mb m) else .next env S
theorem rs_while (fuel : Nat) {c : Expr} {body : List Stmt} {mc : MT} {mb : MS} {pos : Pos} (hp : PassesOwn (model X.prog X.w) X.A X.env X.xe) (hc : RT X G Wx c mc) (hb : RSs X G Wx body mb) : RS X G Wx (.While c body [] pos) (wloop mc mb fuel) := ⟨(ps_while hp hc.pe hb.ps).imp fun D σ H h => by
  obtain ⟨s, S, env, rfl, so, eo, h⟩ := h
  refine ⟨fun m σ H => ∃ (u : Sx) (S : Sto) (env : Ev), u.H = H ∧ SOk G u S ∧ EOk G u env σ ∧ PostS G Wx u (wloop mc mb m env S) D, ⟨fuel, s, S, env, rfl, so, eo, h⟩, ?_⟩
  rintro m σ H ⟨u, S2, env2, rfl, so2, eo2, p2⟩
  cases m with
  | zero => exact p2.elim
  | succ m =>
    refine ⟨u, S2, env2, rfl, so2, eo2, (PostS.bindE p2).imp fun b H1 ⟨t, a, S3, e, f, so3, eo3, rb, p⟩ => ?_⟩
    subst e; cases rb
    cases b with
    | false => rw [if_neg Bool.false_ne_true] at p ⊢; exact p t σ (Fr.refl t) so3 eo3
    | true =>
      rw [if_pos rfl] at p ⊢
      refine ⟨fun σ' H' => ∃ (u : Sx) (S : Sto) (env : Ev), u.H = H' ∧ SOk G u S ∧ EOk G u env σ' ∧ PostS G Wx u (wloop mc mb m env S) D, fun σ' H' hN => ⟨m, Nat.lt_succ_self m, hN⟩, t, S3, env2, rfl, so3, eo3, ?_⟩
      have p4 := PostS.bind p
      cases q5 : mb env2 S3 with
      | next env4 S4 =>
        rw [q5] at p
        exact fun t4 σ4 f4 so4 eo4 => ⟨t4, S4, env4, rfl, so4, eo4, PostS.mono (x := wloop mc mb m env4 S4) p f4⟩
      | ret r S4 => rw [q5] at p4; exact p4
      | exn kk d e4 S4 => rw [q5] at p4; exact p4
      | fail => rw [q5] at p4; exact p4⟩
end
end Bk
/-! text BkI -/
set_option Elab.async false
set_option linter.all false
set_option maxRecDepth 100000
set_option maxHeartbeats 2000000
set_option autoImplicit false
/-! BkI: list comprehensions, defs. -/
namespace Bk
open PySem PySem.Spec PyProof.Rows L2
def wipeE (env : Ev) : List Nat → Ev
  | [] => env
  | v :: vs => (wipeE env vs).set v none
abbrev W0 : WX := fun _ _ _ _ => False
section
variable {X : Cx} {G : Gx} {Wx : WX} {k j : Nat}
theorem wipeE_len (env : Ev) : ∀ vs, (wipeE env vs).length = env.length
  | [] => rfl
  | v :: vs => by unfold wipeE; rw [List.length_set, wipeE_len env vs]
theorem EOk.wipe {s : Sx} {env : Ev} {σ : Sg} (h : EOk G s env σ) : ∀ vs, EOk G s (wipeE env vs) (wipe σ vs)
  | [] => h
  | v :: vs => by
    have ih := EOk.wipe h vs
    refine ⟨by show ((wipeE env vs).set v none).length = ((L2.wipe σ vs).set v none).length; simp [ih.len], fun i w e => ?_⟩
    have e : ((wipeE env vs).set v none)[i]? = some (some w) := e
    by_cases hv : v = i
    · subst hv
      by_cases hl : v < (wipeE env vs).length
      · rw [List.getElem?_set_self hl] at e; cases e
      · rw [List.getElem?_eq_none (by simpa using hl)] at e; cases e
    · rw [List.getElem?_set_ne hv] at e
      obtain ⟨x, e1, r⟩ := ih.at_ i w e
      exact ⟨x, by show ((L2.wipe σ vs).set v none)[i]? = _; rw [List.getElem?_set_ne hv]; exact e1, r⟩
/-! ### tests of a comprehension -/
structure RTs (X : Cx) (G : Gx) (Wx : WX) (e : List Expr) (m : MT) : Prop where
  pe : PTs X e (tT G Wx m)
def myes : MT := fun _ S => .ok true S
theorem rts_nil : RTs X G Wx [] myes := ⟨⟨fun pins s σ H Q I h => pts_nil.run pins s σ H Q I (by
  obtain ⟨s, S, env, rfl, so, eo, h⟩ := h
  exact h s true (Fr.refl s) so eo rfl)⟩⟩
theorem rts_one {c : Expr} {m : MT} (h : RT X G Wx c m) : RTs X G Wx [c] m := ⟨pts_one h.pe⟩
/-! ### a list comprehension -/
def lcl (c : Src) (env0 : Ev) (mg : MG) (mt : MT) (me : MW) : Nat → Nat → List Vl → Sto → Out Rv
  | 0, i, acc, S => if c.stop S i = true then .ok (.new acc) S else .fail
  | m + 1, i, acc, S => match c.at S i with
    | none => .fail
    | some w => match mg w env0 S with
      | .next env2 S2 => match mt env2 S2 with
        | .ok false S3 => lcl c env0 mg mt me m (i + 1) acc S3
        | .ok true S3 => match me env2 S3 with
          | .ok y S4 => if acc.length < 1000000 then lcl c env0 mg mt me m (i + 1) (acc ++ [y]) S4 else .fail
          | _ => .fail
        | _ => .fail
      | _ => .fail
def mlc (vs : List Nat) (mi : MI) (mg : MG) (mt : MT) (me : MW) : ME := fun env S => (mi env S).bind fun c S => lcl c (wipeE env vs) mg mt me c.len 0 [] S
theorem big_line {n : Nat} (h : n < 1000000) : n < sizeLine := by rw [sizeLine_eq]; omega
/-- the same, a list kept aside -/
def Sx.aside (s : Sx) (D : Addr) : Sx := ⟨s.η, s.ρ, D :: s.κ, s.H⟩
def Sx.back (s : Sx) (κ : List Addr) : Sx := ⟨s.η, s.ρ, κ, s.H⟩
theorem RepV.κ {s : Sx} {κ : List Addr} {v : V} : ∀ {w : Vl}, RepV G s v w → RepV G ⟨s.η, s.ρ, κ, s.H⟩ v w
  | .dat _, h => h
  | .ref _, h => h
  | .fn _, h => h
  | .ro _, h => h
theorem RepVs.κ {s : Sx} {κ : List Addr} {vs : List V} {ws : List Vl} (h : RepVs G s vs ws) : RepVs G ⟨s.η, s.ρ, κ, s.H⟩ vs ws := Paired.mapP h fun _ _ r => r.κ
theorem ObAt.κ {s : Sx} {κ : List Addr} {a : Addr} : ∀ {o : Ob}, ObAt G s a o → ObAt G ⟨s.η, s.ρ, κ, s.H⟩ a o
  | .lst _, ⟨h1, vs, h2, h3⟩ => ⟨h1, vs, h2, h3.κ⟩
  | .dic _, ⟨h1, vs, h2, h3⟩ => ⟨h1, vs, h2, Paired.mapP h3 fun _ _ x => ⟨x.1, x.2.κ⟩⟩
  | .ins _ _, ⟨h1, dx, vs, h2, h3⟩ => ⟨h1, dx, vs, h2, Paired.mapP h3 fun _ _ x => ⟨x.1, x.2.κ⟩⟩
  | .gone, h => h
  | .exc _ _, h => h
theorem EOk.κ {s : Sx} {κ : List Addr} {env : Ev} {σ : Sg} (h : EOk G s env σ) : EOk G ⟨s.η, s.ρ, κ, s.H⟩ env σ := ⟨h.len, fun i w e => let ⟨v, e1, r⟩ := h.at_ i w e; ⟨v, e1, r.κ⟩⟩
theorem wipe_at (σ : Sg) (i : Nat) : ∀ vs : List Nat, (wipe σ vs)[i]? = if i ∈ vs ∧ i < σ.length then some none else σ[i]?
  | [] => by simp [wipe]
  | v :: vs => by
    show ((wipe σ vs).set v none)[i]? = _
    by_cases hv : v = i
    · subst hv
      by_cases hl : v < σ.length
      · rw [List.getElem?_set_self (by rw [wipe_length]; exact hl), if_pos ⟨List.mem_cons_self, hl⟩]
      · rw [List.getElem?_eq_none (by simp [wipe_length]; omega), if_neg (fun z => hl z.2), List.getElem?_eq_none (by omega)]
    · rw [List.getElem?_set_ne hv, wipe_at σ i vs]
      simp only [List.mem_cons, show (i = v) = False from eq_false (fun z => hv z.symm), false_or]
theorem wipe_wipe (σ : Sg) (vs : List Nat) : wipe (wipe σ vs) vs = wipe σ vs := by
  apply List.ext_getElem?
  intro i
  rw [wipe_at, wipe_at, wipe_length]
  by_cases h : i ∈ vs ∧ i < σ.length
  · rw [if_pos h, if_pos h]
  · rw [if_neg h]
/-- the list kept aside grows -/
theorem SOk.asideSet {s : Sx} {S : Sto} {D : Addr} {o : HO} (so : SOk G s S) (hD : D ∈ s.κ) : SOk G ⟨s.η, s.ρ, s.κ, upd s.H D o⟩ S ∧ FrV s ⟨s.η, s.ρ, s.κ, upd s.H D o⟩ := by
  obtain ⟨hη, hρ⟩ := so.ka D hD
  have f : FrV s ⟨s.η, s.ρ, s.κ, upd s.H D o⟩ := by
    refine ⟨fun b u h => ?_, ⟨[], by simp⟩⟩
    obtain ⟨h1, h2⟩ := hid_some.mp h
    refine hid_some.mpr ⟨h1, ?_⟩
    show upd s.H D o b = some u
    rw [upd_ne (fun z => h1 (by rw [z]; exact hη))]; exact h2
  have mono : ∀ {a : Addr} {ob : Ob}, a ≠ D → ObAt G s a ob → ObAt G ⟨s.η, s.ρ, s.κ, upd s.H D o⟩ a ob := fun {a ob} hn h => by
    cases ob with
    | lst xs => obtain ⟨h1, vs, h2, h3⟩ := h; exact ⟨h1, vs, by show upd s.H D o a = _; rw [upd_ne hn]; exact h2, h3.monoV f⟩
    | dic kvs => obtain ⟨h1, vs, h2, h3⟩ := h; exact ⟨h1, vs, by show upd s.H D o a = _; rw [upd_ne hn]; exact h2, Paired.mapP h3 fun _ _ x => ⟨x.1, x.2.monoV f⟩⟩
    | ins c fs => obtain ⟨h1, dx, vs, h2, h3⟩ := h; exact ⟨h1, dx, vs, by show upd s.H D o a = _; rw [upd_ne hn]; exact h2, Paired.mapP h3 fun _ _ x => ⟨x.1, x.2.monoV f⟩⟩
    | gone => obtain ⟨u, h⟩ := h; exact ⟨u, f.same _ _ h⟩
    | exc k d => obtain ⟨dd, u, h1, h2, h3⟩ := h; exact ⟨dd, u, f.same _ _ h1, f.same _ _ h2, dl_mono f.same d u h3⟩
  refine ⟨⟨so.len, so.nd, fun b hb => ?_, so.ka, fun n u b h1 h2 => ?_⟩, f⟩
  · by_cases e : b = D
    · exact ⟨o, by show upd s.H D o b = _; rw [e]; exact upd_same⟩
    · obtain ⟨u, h⟩ := so.tr b hb
      exact ⟨u, by show upd s.H D o b = some u; rw [upd_ne e]; exact h⟩
  · exact mono (fun z => hρ (by rw [← z]; exact List.mem_of_getElem? h2)) (so.ob n u b h1 h2)
theorem SOk.backTo {s : Sx} {S : Sto} {κ : List Addr} (so : SOk G s S) (h : ∀ a ∈ κ, a ∈ s.κ) : SOk G ⟨s.η, s.ρ, κ, s.H⟩ S := ⟨so.len, so.nd, so.tr, fun a ha => so.ka a (h a ha), fun n o a h1 h2 => (so.ob n o a h1 h2).κ⟩
theorem lc_imp {vs : List Nat} {mi : MI} {mg : MG} {mt : MT} {me : MW} : ∀ σ H Q, tE G Wx (mlc vs mi mg mt me) σ H Q → tLc (tP G Wx (SrcOk G) mi) (tG G vs mg) (tT G W0 mt) (tW G W0 me) vs σ H Q := by
  intro σ H Q h
  obtain ⟨s, S, env, rfl, so, eo, h⟩ := h
  refine ⟨s, S, env, rfl, so, eo, (Post.bind h).imp fun J H1 ⟨t, c, S1, e, f, so, eo, rc, p⟩ D hD => ?_⟩
  subst e
  have nDκ : D ∉ t.κ := so.notκ hD
  let u0 : Sx := ⟨D :: t.η, t.ρ, D :: t.κ, upd t.H D (.lst [])⟩
  have g0 := fr_growH so hD (.lst [])
  have so0 : SOk G u0 S1 := by
    have z := so.growH hD (.lst [])
    exact ⟨z.len, z.nd, z.tr, fun a ha => by
      rcases List.mem_cons.mp ha with e | ha
      · rw [e]; exact ⟨List.mem_cons_self, so.notρ hD⟩
      · exact z.ka a ha, fun n o a h1 h2 => (z.ob n o a h1 h2).κ⟩
  refine ⟨fun i m H => ∃ (u : Sx) (S : Sto) (ws : List V) (acc : List Vl), u.H = H ∧ FrV t u ∧ u.κ = D :: t.κ ∧ (∀ a ∈ t.κ, u.H a = t.H a) ∧ SOk G u S ∧ u.H D = some (.lst ws) ∧ RepVs G u ws acc ∧
    Post G Wx ⟨u.η, u.ρ, t.κ, u.H⟩ env σ (RvOk G) (lcl c (wipeE env vs) mg mt me m i acc S) Q, ⟨c.len, u0, S1, [], [], rfl, ⟨g0.same, g0.ext⟩, rfl, fun a ha => g0.kept a ha, so0, upd_same, .nil, Post.mono (x := lcl c (wipeE env vs) mg mt me c.len 0 [] S1) p g0⟩, ?_⟩
  rintro i m H ⟨u, S2, ws, acc, rfl, fu, hκ, kept, so2, hDH, rws, p2⟩
  have hDκ : D ∈ u.κ := by rw [hκ]; exact List.mem_cons_self
  have sub : ∀ a ∈ t.κ, a ∈ u.κ := fun a ha => by rw [hκ]; exact List.mem_cons_of_mem _ ha
  have fuB : Fr t ⟨u.η, u.ρ, t.κ, u.H⟩ := ⟨fu.same, fu.ext, rfl, kept⟩
  cases m with
  | zero =>
    simp only [lcl] at p2
    split at p2
    · rename_i hst
      refine .inl ⟨(rc i u S2 fu so2).1 hst, ?_⟩
      obtain ⟨h1, h2⟩ := so2.ka D hDκ
      exact p2 ⟨u.η, u.ρ, t.κ, u.H⟩ _ (Fr.refl _) (so2.backTo sub) (eo.mono fuB) ⟨D, ws, rfl, h1, h2, nDκ, hDH, rws.κ⟩
    · exact p2.elim
  | succ m =>
    simp only [lcl] at p2
    cases e : c.at S2 i with
    | none => simp only [e] at p2; exact p2.elim
    | some w =>
      simp only [e] at p2
      obtain ⟨hgo, hy⟩ := (rc i u S2 fu so2).2 w e
      refine .inr ⟨hgo, fun H' => ∃ (u : Sx) (S : Sto) (ws : List V) (acc : List Vl), u.H = H' ∧ FrV t u ∧ u.κ = D :: t.κ ∧ (∀ a ∈ t.κ, u.H a = t.H a) ∧ SOk G u S ∧ u.H D = some (.lst ws) ∧ RepVs G u ws acc ∧
        Post G Wx ⟨u.η, u.ρ, t.κ, u.H⟩ env σ (RvOk G) (lcl c (wipeE env vs) mg mt me m (i + 1) acc S) Q, fun H' hN => ⟨m, Nat.lt_succ_self m, hN⟩, fun x H' yl => ?_⟩
      obtain ⟨u', eH, f', so', r'⟩ := hy x H' yl
      subst eH
      refine ⟨u', S2, wipeE env vs, w, rfl, so', (eo.monoV (fu.trans f'.v)).wipe vs, r', ?_⟩
      cases q : mg w (wipeE env vs) S2 with
      | ret r S3 => simp only [q] at p2; exact p2.elim
      | exn kk d e3 S3 => simp only [q] at p2; exact p2.elim
      | fail => simp only [q] at p2; exact p2.elim
      | next env2 S3 =>
        simp only [q] at p2
        refine fun t2 σ2 ew f2 so2' eo2 => ⟨by rw [ew, wipe_wipe], t2, S3, env2, rfl, so2', eo2, ?_⟩
        have fut2 : Fr u t2 := f'.trans f2
        -- what the next turn wants
        have nxt : ∀ {t3 : Sx} {S4 : Sto} {ws' : List V} {acc' : List Vl}, FrV u t3 → t3.κ = u.κ → (∀ a ∈ t.κ, t3.H a = u.H a) → SOk G t3 S4 → t3.H D = some (.lst ws') → RepVs G t3 ws' acc' → Post G Wx ⟨u.η, u.ρ, t.κ, u.H⟩ env σ (RvOk G) (lcl c (wipeE env vs) mg mt me m (i + 1) acc' S4) Q →
            ∃ (u : Sx) (S : Sto) (ws : List V) (acc : List Vl), u.H = t3.H ∧ FrV t u ∧ u.κ = D :: t.κ ∧ (∀ a ∈ t.κ, u.H a = t.H a) ∧ SOk G u S ∧ u.H D = some (.lst ws) ∧ RepVs G u ws acc ∧ Post G Wx ⟨u.η, u.ρ, t.κ, u.H⟩ env σ (RvOk G) (lcl c (wipeE env vs) mg mt me m (i + 1) acc S) Q :=
          fun {t3 S4 ws' acc'} fV ek hk s4 hd rr pp => ⟨t3, S4, ws', acc', rfl, fu.trans fV, ek.trans hκ, fun a ha => (hk a ha).trans (kept a ha), s4, hd, rr, Post.mono (x := lcl c (wipeE env vs) mg mt me m (i + 1) acc' S4) pp ⟨fV.same, fV.ext, rfl, hk⟩⟩
        cases q2 : mt env2 S3 with
        | fail => simp only [q2] at p2; exact p2.elim
        | exn kk d S4 => simp only [q2] at p2; exact p2.elim
        | ok b S4 =>
          intro t3 b' f3 so3 eo3 eb
          cases eb
          have fut3 : Fr u t3 := fut2.trans f3
          have hD3 : t3.H D = some (.lst ws) := (fut3.kept D hDκ).trans hDH
          cases b with
          | false =>
            simp only [q2] at p2
            rw [if_neg Bool.false_ne_true]
            exact nxt fut3.v fut3.aside (fun a ha => fut3.kept a (sub a ha)) so3 hD3 (rws.monoV fut3.v) p2
          | true =>
            simp only [q2] at p2
            rw [if_pos rfl]
            refine ⟨t3, S4, env2, rfl, so3, eo3, ?_⟩
            cases q3 : me env2 S4 with
            | fail => simp only [q3] at p2; exact p2.elim
            | exn kk d S5 => simp only [q3] at p2; exact p2.elim
            | ok y S5 =>
              simp only [q3] at p2
              intro t4 v f4 so4 eo4 rv
              have fut4 : Fr u t4 := fut3.trans f4
              have hD4 : t4.H D = some (.lst ws) := (fut4.kept D hDκ).trans hDH
              split at p2
              · rename_i hlen
                refine ⟨ws, hD4, by rw [rws.length]; exact big_line hlen, ?_⟩
                have hD4κ : D ∈ t4.κ := by rw [fut4.aside]; exact hDκ
                obtain ⟨so5, f5⟩ := so4.asideSet (o := .lst (ws ++ [v])) hD4κ
                refine nxt (fut4.v.trans f5) fut4.aside (fun a ha => ?_) so5 upd_same (Paired.app (rws.monoV (fut4.v.trans f5)) (.cons (rv.monoV f5) .nil)) p2
                show upd t4.H D _ a = u.H a
                rw [upd_ne (fun z => nDκ (by rw [← z]; exact ha))]
                exact fut4.kept a (sub a ha)
              · exact p2.elim
theorem re_lc (own : List (Str × Nat)) {elt tg iter : Expr} {ifs : List Expr} {scope : Scope} {pos : Pos} {mi : MI} {mg : MG} {mt : MT} {me : MW} (hc : X.calm = true) (hN : X.N.Nodup) (hi : RI X G Wx tg iter mi) (ok : BlkOk X.N X.env.scope scope own)
    (hg : ∀ (s : Shared) (H : Hp) (C : Addr) (cl : List (Str × Addr)) (fp : List Addr), RG (X.blk s H scope (compEnvC scope cl C X.env) fp) G (own.map (·.2)) tg mg) (ht : ∀ (s : Shared) (H : Hp) (C : Addr) (cl : List (Str × Addr)) (fp : List Addr), RTs (X.blk s H scope (compEnvC scope cl C X.env) fp) G W0 ifs mt)
    (he : ∀ (s : Shared) (H : Hp) (C : Addr) (cl : List (Str × Addr)) (fp : List Addr), RW (X.blk s H scope (compEnvC scope cl C X.env) fp) G W0 elt me) (hs : ∀ x, foldedSetIterable iter X.env x = pure x := by intro _; rfl) :
    RE X G Wx (.ListComp elt [⟨tg, iter, ifs, 0⟩] scope pos) (mlc (own.map (·.2)) mi mg mt me) :=
  ⟨(pe_lc hc hN hi.pi ok (fun s H C cl fp => (hg s H C cl fp).pg) (fun s H C cl fp => (ht s H C cl fp).pe) (fun s H C cl fp => (he s H C cl fp).pe) hs).imp lc_imp⟩
/-- name = [..], the name a plain local -/
def msetLc (i : Nat) (m : ME) (fr : Bool) : MS := fun env S => (m env S).fl env fun r S => match (if fr = true then argw r S else argm r S) with
  | some (w, S) => .next (env.set i (some w)) S
  | none => .fail
theorem rs_setLc (i : Nat) (fr : Bool) {y : Str} (own : List (Str × Nat)) {elt tg iter : Expr} {ifs : List Expr} {scope : Scope} {py pos spos : Pos} {mi : MI} {mg : MG} {mt : MT} {me : MW} (hc : X.calm = true) (hN : X.N.Nodup) (hi : RI X G Wx tg iter mi) (ok : BlkOk X.N X.env.scope scope own)
    (hg : ∀ (s : Shared) (H : Hp) (C : Addr) (cl : List (Str × Addr)) (fp : List Addr), RG (X.blk s H scope (compEnvC scope cl C X.env) fp) G (own.map (·.2)) tg mg) (ht : ∀ (s : Shared) (H : Hp) (C : Addr) (cl : List (Str × Addr)) (fp : List Addr), RTs (X.blk s H scope (compEnvC scope cl C X.env) fp) G W0 ifs mt)
    (he : ∀ (s : Shared) (H : Hp) (C : Addr) (cl : List (Str × Addr)) (fp : List Addr), RW (X.blk s H scope (compEnvC scope cl C X.env) fp) G W0 elt me)
    (hy : X.N[i]? = some y := by rfl) (hyl : X.env.scope.names.lookup y = some .local := by rfl) (hsw : swapsWith (.ListComp elt [⟨tg, iter, ifs, 0⟩] scope pos) (some (.Name y py)) spos.line X.env = pure true) (hs : ∀ x, foldedSetIterable iter X.env x = pure x := by intro _; rfl) :
    RS X G Wx (.Assign [.Name y py] (.ListComp elt [⟨tg, iter, ifs, 0⟩] scope pos) spos) (msetLc i (mlc (own.map (·.2)) mi mg mt me) fr) :=
  ⟨(ps_setLc hc hN hy hyl hsw hi.pi ok (fun s H C cl fp => (hg s H C cl fp).pg) (fun s H C cl fp => (ht s H C cl fp).pe) (fun s H C cl fp => (he s H C cl fp).pe) hs).imp fun D σ H h => by
  refine lc_imp σ H _ ?_
  obtain ⟨s, S, env, rfl, so, eo, h⟩ := h
  refine ⟨s, S, env, rfl, so, eo, (PostS.bindE h).imp fun v H1 ⟨t, r, S1, e, f, so, eo, rv, p⟩ => ?_⟩
  subst e
  have go : ∀ {t' : Sx} {w : Vl} {S2 : Sto}, t'.H = t.H → Fr t t' → SOk G t' S2 → EOk G t' env σ → RepV G t' v w → PostS G Wx t (.next (env.set i (some w)) S2) D → gName i v σ t.H D.nx := fun {t' w S2} eH ft so' eo' r' pp => by
    show D.nx (σ.set i (some v)) t.H
    rw [← eH]
    exact pp t' _ ft so' (eo'.set r' i)
  cases r with
  | val w =>
    refine go rfl (Fr.refl t) so eo rv ?_
    cases fr <;> exact p
  | new xs =>
    cases fr with
    | true =>
      cases e : allDat xs with
      | some ds =>
        simp only [argw, e, if_pos] at p
        rw [allDat_eq e] at rv
        obtain ⟨t', eH, f, so', eo', r'⟩ := freeze rv so eo
        exact go eH f so' eo' r' p
      | none =>
        simp only [argw, e, if_pos] at p
        obtain ⟨t', eH, f, so', eo', r'⟩ := thaw rv so eo
        exact go eH f so' eo' r' p
    | false =>
      simp only [argm, if_neg Bool.false_ne_true] at p
      obtain ⟨t', eH, f, so', eo', r'⟩ := thaw rv so eo
      exact go eH f so' eo' r' p⟩

/-! ### a def -/
def ev0 (N : Nat) (ws : List Vl) : Ev := ws.map some ++ List.replicate (N - ws.length) none
def runF (N : Nat) (m : MS) : Fn := fun ws S => match m (ev0 N ws) S with
  | .next _ S => .ok (.val (.dat .none)) S
  | .ret r S => .ok r S
  | .exn k d _ S => .exn k d S
  | .fail => .fail
abbrev WxE (E : XK) : WX := fun cls dd _ H => E cls dd H
theorem EOk.start {s : Sx} {N : List Str} {vs : List V} {ws : List Vl} (r : RepVs G s vs ws) : EOk G s (ev0 N.length ws) (start N vs) := by
  unfold ev0 L2.start
  refine ⟨by simp [r.length], fun i w e => ?_⟩
  by_cases hi : i < ws.length
  · rw [List.getElem?_append_left (by simpa using hi), List.getElem?_map] at e
    cases q : ws[i]? with
    | none => rw [q] at e; cases e
    | some w' =>
      rw [q] at e
      have e : w' = w := by simpa using e
      subst e
      obtain ⟨v, e1, r1⟩ := Paired.get' r q
      refine ⟨v, ?_, r1⟩
      rw [List.getElem?_append_left (by simp [r.length, hi]), List.getElem?_map, e1]; rfl
  · rw [List.getElem?_append_right (by simpa using Nat.le_of_not_lt hi)] at e
    have := (List.mem_replicate.mp (List.mem_of_getElem? e)).2
    cases this
end
section
variable {P : Program} {w : World} {K : PySem.W.Frag} {mg : Str → Option Value} {base : Heap} {G : Gx}
theorem run_ok {X : Cx} {N : List Str} {body : List Stmt} {m : MS} {E : XK} {Q : VK} {vs : List V} {H : Hp} {n : Nat} (h : RSs X G (WxE E) body m) (sp : spF G n (runF N.length m) vs H Q E) :
    ∃ t, PSs X body t ∧ t { nx := fun _ H' => Q .non H', rt := Q } (start N vs) H := by
  obtain ⟨hl, s, S, ws, rfl, so, r, p⟩ := sp
  refine ⟨_, h.ps, s, S, _, rfl, so, EOk.start r, ?_⟩
  unfold runF at p
  cases q : m (ev0 N.length ws) S with
  | next env S' => rw [q] at p; exact fun t σ f so' eo => p t .non f so' .non
  | ret r S' => rw [q] at p; exact p
  | exn k d env S' => rw [q] at p; exact fun t σ cls dd f so' eo ex => p t cls dd f so' ex
  | fail => rw [q] at p; exact p
theorem df_ok {x qual : Str} {st : Stmt} {f : Addr} {fd : FuncData} {N ps : List Str} {k : Nat} {m : MS} (F : Fun K x qual st f fd) (hg : mg x = some (.ref f)) (Sc : FnScope N ps (defScope st)) (hb : Binds K fd ps [])
    (body : ∀ (cdv : Value) (A : Around) (outer : List Env) (s : Shared) (H : Hp) (E : XK), Room k (A.deeper (envOfC qual (defScope st) s.heap.objs.size f cdv)) →
      RSs (cxOf (L2.CX P w) P w K mg base N qual (defScope st) f cdv A outer s H E) G (WxE E) (defBody st) m) : Df P w K mg base G (k + 1) x ps.length (runF N.length m) :=
  ⟨f, fd, ps, hg, F.kp, hb, rfl, F.okX Sc (fun vs H Q E h => h.1) fun cdv A outer s H vs Q E hr h => run_ok (body cdv A outer s H E hr) h⟩
end
end Bk
/-! text BkJ -/
set_option Elab.async false
set_option linter.all false
set_option maxRecDepth 100000
set_option maxHeartbeats 2000000
set_option autoImplicit false
/-! BkJ: the module's facts, defs by them, the store cut behind a call. -/
namespace Bk
open PySem PySem.Spec PyProof.Rows L2
/-- what the head tells of the module -/
structure Bs (fa : List He.Fa) (fn : List He.DefD) (ex : PySem.W.Frag → Bool) (K : PySem.W.Frag) (mg : Str → Option Value) : Prop where
  ex : ∃ (h : Heap) (w : World), K.In h ∧ h.Ns mainGlobals mg ∧ He.SaysX fa fn [] [] ex w h K
section
variable {fa : List He.Fa} {fn : List He.DefD} {ex : PySem.W.Frag → Bool} {K : PySem.W.Frag} {mg : Str → Option Value}
theorem Bs.fact (B : Bs fa fn ex K mg) (i : Nat) {f : He.Fa} (h : fa[i]? = some f) : f.ok K = true := by
  obtain ⟨_, _, _, _, c⟩ := B.ex
  exact c.t.d.fact i h
theorem Bs.glo (B : Bs fa fn ex K mg) (i : Nat) {x : Str} (h : fa[i]? = some (.glo x)) : mg x = some (.ref (He.ga K x)) := by
  obtain ⟨_, _, X, G, c⟩ := B.ex
  exact He.glo_ok X G (c.t.d.fact i h)
theorem Bs.free (B : Bs fa fn ex K mg) (i : Nat) {x : Str} (h : fa[i]? = some (.free x)) : mg x = none := by
  obtain ⟨_, _, X, G, c⟩ := B.ex
  exact He.free_ok X G (c.t.d.fact i h)
theorem Bs.def_ (B : Bs fa fn ex K mg) (i : Nat) {d : He.DefD} (h : fn[i]? = some d) : ∃ fd, FunD K d.name d.qual d.params d.body d.scope (d.dvs K) (d.kws K) (He.fAd K d.at_) fd := by
  obtain ⟨_, _, _, _, c⟩ := B.ex
  exact c.t.d.def_ i h
theorem Bs.more (B : Bs fa fn ex K mg) : ex K = true := by
  obtain ⟨_, _, _, _, c⟩ := B.ex
  exact c.more
end
/-! ### the store cut -/
def Vl.cl (n : Nat) : Vl → Bool
  | .ref k => decide (k < n)
  | _ => true
def Ob.cl (n : Nat) : Ob → Bool
  | .lst xs => xs.all (Vl.cl n)
  | .dic kvs => kvs.all fun p => p.2.cl n
  | .ins _ fs => fs.all fun p => p.2.cl n
  | .gone => true
  | .exc _ _ => true
def Rv.cl (n : Nat) : Rv → Bool
  | .val w => w.cl n
  | .new xs => xs.all (Vl.cl n)
def trim (n : Nat) (S : Sto) : Sto := if ((S.take n).all (Ob.cl n)) = true then S.take n else S
theorem trim_le {n : Nat} {S : Sto} (h : S.length ≤ n) : trim n S = S := by
  unfold trim
  rw [List.take_of_length_le h]
  split <;> rfl
@[simp] theorem trim_self (S : Sto) : trim S.length S = S := trim_le (Nat.le_refl _)
@[simp] theorem trim_set (S : Sto) (i : Nat) (o : Ob) : trim S.length (S.set i o) = S.set i o := trim_le (by simp)
def trimO (n : Nat) : Out Rv → Out Rv
  | .ok r S => if r.cl n = true then .ok r (trim n S) else .ok r S
  | .exn k d S => .exn k d (trim n S)
  | .fail => .fail
@[simp] theorem trimO_ok (n : Nat) (r : Rv) (S : Sto) : trimO n (.ok r S) = if r.cl n = true then .ok r (trim n S) else .ok r S := rfl
@[simp] theorem trimO_exn (n k : Nat) (d : PyData) (S : Sto) : trimO n (.exn k d S) = .exn k d (trim n S) := rfl
@[simp] theorem trimO_fail (n : Nat) : trimO n .fail = .fail := rfl
def trimF (F : Fn) : Fn := fun ws S => trimO S.length (F ws S)
section
variable {G : Gx}
theorem RepV.cut {t : Sx} {n : Nat} {v : V} : ∀ {w : Vl}, w.cl n = true → RepV G t v w → RepV G ⟨t.η, t.ρ.take n, t.κ, t.H⟩ v w
  | .dat _, _, h => h
  | .ref k, c, ⟨a, h, e⟩ => ⟨a, by
    show (t.ρ.take n)[k]? = some a
    rw [List.getElem?_take_of_lt (of_decide_eq_true c)]; exact h, e⟩
  | .fn _, _, h => h
  | .ro _, _, h => h
theorem RepVs.cut {t : Sx} {n : Nat} : ∀ {ws : List Vl} {vs : List V}, ws.all (Vl.cl n) = true → RepVs G t vs ws → RepVs G ⟨t.η, t.ρ.take n, t.κ, t.H⟩ vs ws
  | [], _, _, h => by cases h; exact .nil
  | w :: ws, _, c, h => by
    rw [List.all_cons, Bool.and_eq_true] at c
    cases h with
    | cons h1 h2 => exact .cons (RepV.cut c.1 h1) (RepVs.cut c.2 h2)
theorem paired_cut {α : Type} {t : Sx} {n : Nat} : ∀ {ws : List (α × Vl)} {vs : List (α × V)}, (ws.all fun p => p.2.cl n) = true → Paired (fun (p : α × V) (q : α × Vl) => p.1 = q.1 ∧ RepV G t p.2 q.2) vs ws → Paired (fun (p : α × V) (q : α × Vl) => p.1 = q.1 ∧ RepV G ⟨t.η, t.ρ.take n, t.κ, t.H⟩ p.2 q.2) vs ws
  | [], _, _, h => by cases h; exact .nil
  | w :: ws, _, c, h => by
    rw [List.all_cons, Bool.and_eq_true] at c
    cases h with
    | cons h1 h2 => exact .cons ⟨h1.1, RepV.cut c.1 h1.2⟩ (paired_cut c.2 h2)
theorem ObAt.cut {t : Sx} {n : Nat} {a : Addr} : ∀ {o : Ob}, o.cl n = true → ObAt G t a o → ObAt G ⟨t.η, t.ρ.take n, t.κ, t.H⟩ a o
  | .lst _, c, ⟨h1, vs, h2, h3⟩ => ⟨h1, vs, h2, h3.cut c⟩
  | .dic _, c, ⟨h1, vs, h2, h3⟩ => ⟨h1, vs, h2, paired_cut c h3⟩
  | .ins _ _, c, ⟨h1, dx, vs, h2, h3⟩ => ⟨h1, dx, vs, h2, paired_cut c h3⟩
  | .gone, _, h => h
  | .exc _ _, _, h => h
theorem SOk.cut {t : Sx} {S : Sto} {n : Nat} (so : SOk G t S) (c : ((S.take n).all (Ob.cl n)) = true) : SOk G ⟨t.η, t.ρ.take n, t.κ, t.H⟩ (S.take n) := by
  refine ⟨?_, ?_, so.tr, fun a ha => ⟨(so.ka a ha).1, fun z => (so.ka a ha).2 (List.mem_of_mem_take z)⟩, fun i o a h1 h2 => ?_⟩
  · show (t.ρ.take n).length = (S.take n).length
    rw [List.length_take, List.length_take, so.len]
  · exact so.nd.sublist (List.take_sublist _ _)
  · have hm : o.cl n = true := List.all_eq_true.mp c o (List.mem_of_getElem? h1)
    have hi : i < n := by
      have := (List.getElem?_eq_some_iff.mp h1).1
      rw [List.length_take] at this; omega
    have h2 : (t.ρ.take n)[i]? = some a := h2
    rw [List.getElem?_take_of_lt hi] at h1 h2
    exact (so.ob i o a h1 h2).cut hm
theorem Fr.cut {s t : Sx} {S0 : Sto} (so : SOk G s S0) (f : Fr s t) : Fr s ⟨t.η, t.ρ.take S0.length, t.κ, t.H⟩ := by
  refine ⟨f.same, ⟨[], ?_⟩, f.aside, f.kept⟩
  obtain ⟨r, e⟩ := f.ext
  show t.ρ.take S0.length = s.ρ ++ []
  rw [e, ← so.len, List.take_left', List.append_nil]
  rfl
theorem postF_trim {s : Sx} {S0 : Sto} {x : Out Rv} {Q : VK} {E : XK} (so : SOk G s S0) (h : PostF G s (trimO S0.length x) Q E) : PostF G s x Q E := by
  cases x with
  | fail => exact h
  | ok r S =>
    intro t v f st rv
    rw [trimO_ok] at h
    by_cases c : r.cl S0.length = true
    · rw [if_pos c] at h
      unfold trim at h
      by_cases c2 : ((S.take S0.length).all (Ob.cl S0.length)) = true
      · rw [if_pos c2] at h
        refine h ⟨t.η, t.ρ.take S0.length, t.κ, t.H⟩ v (f.cut so) (st.cut c2) ?_
        cases r with
        | val w => exact RepV.cut c rv
        | new xs =>
          obtain ⟨a, vs, e, h1, h2, h3, h4, h5⟩ := rv
          exact ⟨a, vs, e, h1, fun z => h2 (List.mem_of_mem_take z), h3, h4, RepVs.cut c h5⟩
      · rw [if_neg c2] at h
        exact h t v f st rv
    · rw [if_neg c] at h
      exact h t v f st rv
  | exn k d S =>
    intro t cls dd f st ex
    rw [trimO_exn] at h
    unfold trim at h
    by_cases c2 : ((S.take S0.length).all (Ob.cl S0.length)) = true
    · rw [if_pos c2] at h
      exact h ⟨t.η, t.ρ.take S0.length, t.κ, t.H⟩ cls dd (f.cut so) (st.cut c2) ex
    · rw [if_neg c2] at h
      exact h t cls dd f st ex
end
section
variable {P : Program} {w : World} {K : PySem.W.Frag} {mg : Str → Option Value} {base : Heap} {G : Gx}
theorem Df.trim {k : Nat} {x : Str} {n : Nat} {F : Fn} (d : Df P w K mg base G k x n F) : Df P w K mg base G k x n (trimF F) := by
  obtain ⟨f, fd, ps, h1, h2, h3, h4, h5⟩ := d.ex
  exact ⟨f, fd, ps, h1, h2, h3, h4, h5.imp fun vs H Q E ⟨hl, s, S, ws, e, so, r, p⟩ => ⟨hl, s, S, ws, e, so, r, postF_trim so p⟩⟩
/-- a def told by the head -/
theorem df_okD {x : Str} {params : Arguments} {bd : List Stmt} {scope : Scope} {f : Addr} {fd : FuncData} (N ps : List Str) {k n : Nat} {m : MS} (F : FunD K x x params bd scope [] [] f fd) (hg : mg x = some (.ref f)) (Sc : FnScope N ps scope)
    (hb : ∀ (kV doc pm : Value) (an : Option Addr) (cdv ct : Value) (us : List Value), us.length = ps.length → bindArgs (PySem.W.fnOf x x params bd scope .none kV doc pm an cdv ct) ⟨us, []⟩ = pure (ps.zip us)) (hn : ps.length = n)
    (body : ∀ (cdv : Value) (A : Around) (outer : List Env) (s : Shared) (H : Hp) (E : XK), Room k (A.deeper (envOfC x scope s.heap.objs.size f cdv)) →
      RSs (cxOf (L2.CX P w) P w K mg base N x scope f cdv A outer s H E) G (WxE E) bd m) : Df P w K mg base G (k + 1) x n (trimF (runF N.length m)) :=
  Df.trim ⟨f, fd, ps, hg, F.kp, F.bindsN hb, hn, F.ok Sc (fun vs H Q E h => by rw [h.1, hn]) fun cdv A outer s H vs Q E hr h => run_ok (body cdv A outer s H E hr) (hn ▸ h)⟩
end
end Bk
namespace Bk
open PySem PySem.Spec PyProof.Rows L2
theorem Bs.intF {fa : List He.Fa} {fn : List He.DefD} {ex : PySem.W.Frag → Bool} {K : PySem.W.Frag} {mg : Str → Option Value} (B : Bs fa fn ex K mg) (i : Nat) {x : Str} {n : Int} (h : fa[i]? = some (.int x n)) : ∃ t, mg x = some (.int n t) := by
  obtain ⟨_, _, X, G, c⟩ := B.ex
  exact He.int_ok X G (c.t.d.fact i h)
theorem Bs.mgOf {fa : List He.Fa} {fn : List He.DefD} {ex : PySem.W.Frag → Bool} {K : PySem.W.Frag} {mg : Str → Option Value} (B : Bs fa fn ex K mg) {x : Str} {v : Value} (h : PySem.W.nsIn K mainGlobals x = some (some v)) : mg x = some v := by
  obtain ⟨_, _, X, G, c⟩ := B.ex
  exact PySem.W.mg_of X G h
section
variable {X : Cx} {G : Gx} {Wx : WX}
def mskip : MS := fun _ _ => .fail
theorem rs_skip {st : Stmt} : RS X G Wx st mskip := ⟨⟨fun pins s σ H Q I h => by
  obtain ⟨s, S, env, _, so, eo, h⟩ := h
  exact h.elim⟩⟩
end
end Bk
/-! text BkX -/
set_option Elab.async false
set_option linter.all false
set_option maxRecDepth 100000
set_option maxHeartbeats 4000000
set_option autoImplicit false
/-! BkX: own exceptions over ValueError; the base's __init__ says super().__init__(a text), then self.value = value. -/
namespace PySem
namespace SupX
open PySem.W PySem.Calls PyProof.Rows PySem.HandSPX
abbrev iA (p1 p2 : Pos) : Arguments := { posonlyargs := [], args := [{ arg := "self", annotation := none, pos := p1 }, { arg := "value", annotation := none, pos := p2 }], vararg := none, kwonlyargs := [], kw_defaults := [], kwarg := none, defaults := [] }
abbrev iB : List Stmt := [.Expr (.Call (.Attribute (.Call (.Name "super" ⟨6, 8, 6, 13⟩) [] [] ⟨6, 8, 6, 15⟩) "__init__" ⟨6, 8, 6, 24⟩) [.Constant (.str "bucketsalong") 0 ⟨6, 25, 6, 39⟩] [] ⟨6, 8, 6, 40⟩) ⟨6, 8, 6, 40⟩, .Assign [.Attribute (.Name "self" ⟨7, 8, 7, 12⟩) "value" ⟨7, 8, 7, 18⟩] (.Name "value" ⟨7, 21, 7, 26⟩) ⟨7, 8, 7, 26⟩]
abbrev iS : Scope := { kind := .function, names := [("self", .local), ("value", .local), ("__class__", .free), ("super", .globalImplicit)], isGenerator := false, isCoroutine := false, more := [] }
structure Txt (K : Frag) (prog : Program) (C D fI cc cda : Addr) : Prop where
  cls : ∃ nm q N bs bm sn sub ab col dd k0 k1 k2 k3 k5, K.lookup C = some (excClassObj nm q C N bs bm true sn sub ab col dd k0 k1 k2 k3 k5 "ValueError.__new__") ∧ refsVE bm = true
  sa : findIn K (.ref C) "__setattr__" = some (some (.builtin "object.__setattr__"))
  noN : findIn K (.ref C) "value" = some none
  iC : findIn K (.ref C) "__init__" = some (some (.ref fI))
  tC : typeIn K (.ref fI) = some (.type "function")
  kC : keepIn K (.ref C) = true
  exC : subIn K (.ref C) (.type "BaseException") = some true
  veC : subIn K (.ref C) (.type "ValueError") = some true
  tyC : typeIn K (.ref C) = some (.type "type")
  sup : ks_superIn K C D "__init__" = some (some (.builtin "ValueError.__init__"))
  cD : ∃ cdD, clsIn K D = some cdD
  mro : mroIn K C (.ref D) = some true
  cell : ∃ cl cld csl, K.lookup cc = some ⟨cl, cld, .cell (some (.ref D)), csl⟩
  code : ∃ ccl cdd vs ccs file tf, K.lookup cda = some ⟨ccl, cdd, .fields vs, ccs⟩ ∧ vs[2]? = some (.str file tf) ∧ ((prog.main.file : Str) == file) = true
  any : nsIn K cStatics "thirdparty.any" = some none
  top : (prog.main.scope.names.lookup ("super" : Str)).isSome = false
  fn : ∃ (oc : Value) (od : Option Addr) (doc pm : Value) (an : Option Addr) (ct : Value) (osl : Array (Option Value)) (p1 p2 : Pos) (qn : Str),
    K.lookup fI = some ⟨oc, od, .func (ksFn "__init__" qn (iA p1 p2) iB iS .none .none doc pm an (.ref cda) ct cc), osl⟩ ∧ codeIn K (.ref cda) qn = true
/-- what __init__ leaves of a fresh exception at x -/
structure InitEnd (h h' : Heap) (x C dx t1 : Addr) (v : Value) : Prop where
  keep : ∀ b o, b ≠ x → h.get? b = some o → h'.get? b = some o
  obj : h'.get? x = some { cls := .ref C, dict := some dx, data := .fields #[.ref t1, .none, .none, .none, .bool false, .none] }
  dbig : h.objs.size ≤ dx
  dne : dx ≠ x
  ns : h'.Ns1 dx (fun y => if y = "value" then some v else none)
/-- a made exception -/
structure OwnMade (h h' : Heap) (e C d : Addr) (v : Value) : Prop where
  keep : ∀ b o, h.get? b = some o → h'.get? b = some o
  new : h.objs.size ≤ e
  obj : ∃ oe vs, h'.get? e = some oe ∧ oe.cls = .ref C ∧ oe.dict = some d ∧ oe.data = .fields vs ∧ vs[1]? = some .none
  dbig : h.objs.size ≤ d
  dne : d ≠ e
  ns : h'.Ns1 d (fun y => if y = "value" then some v else none)
theorem one_size (v : Value) : [v].length ≤ sizeLine := by
  rw [sizeLine_eq]
  exact (by decide : 1 ≤ 16777216)
section
variable {prog : Program} {w : World} {A : Around} {E : Value → Shared → Prop} {R : Result → Shared → Prop} {s : Shared} {K : Frag} {mg mb : Str → Option Value} {C D fI cc cda : Addr}
theorem cw1 {M : Model} {pos : Pos} {env : Env} {e : Expr} {u x : Addr} {i : String} {Q : Value → Shared → Prop} (h : wpAny M A (spliced (backTo pos (starEach [e] env))) (fun vs s₁ => KxsAt i u x s₁.heap ∧ wpAny M A (call (.ref u) vs) Q E s₁) E s)
    (he : starEach [e] env = (false, eval e env) :: starEach [] env := by rfl) :
    wpAny M A (callWith pos (.ref u) [] (backTo pos (starEach [e] env)) []) Q E s := by
  rw [he] at h ⊢
  refine kxs_callWith (i := i) (x := x) (by rfl) ?_
  exact evalArgs_plain h
theorem sup_init (T : Txt K prog C D fI cc cda) {x t0 : Addr} {v : Value} (X : K.In s.heap) (hg : s.heap.Ns mainGlobals mg) (hb : s.heap.Ns builtinsNs mb) (ng : mg "super" = none) (nb : mb "super" = some (.type "super")) (hlim : s.heap.NoLimit)
    (hx : s.heap.get? x = some (excO C t0)) (hnx : K.lookup x = none) (hroom : A.depth < recursionLimit)
    (hq : ∀ h' tk dx t1, InitEnd s.heap h' x C dx t1 v → R (.ok (.ret .none)) { s with heap := h', toks := tk }) :
    codeAny (model prog w) A (.call (.ref fI) ⟨[.ref x, v], []⟩) R s := by
  obtain ⟨oc, od, doc, pm, an, ct, osl, p1, p2, qn, ho, hcd⟩ := T.fn
  obtain ⟨nm, qq, N, bs, bm, sn, sub, ab, col, dd, k0, k1, k2, k3, k5, hC, hbm⟩ := T.cls
  obtain ⟨cl, cld, csl, hcell⟩ := T.cell
  obtain ⟨ccl, cdd, vs, ccs, file, tf, hcode, hvs, hfile⟩ := T.code
  obtain ⟨cdD, hD⟩ := T.cD
  obtain ⟨hp, g, dr, tk0, os⟩ := s
  have hcl : clsIn K C = some { name := nm, bases := bs, mro := .ref C :: bm, ns := N, qualname := qq, hasDict := true, slotNames := sn, subclasses := sub, abstract := ab, collection := col, hasDel := false } := by unfold clsIn; rw [hC] <;> rfl
  refine ks_codeAny_call_defAt (binds := [("self", .ref x), ("value", v)]) hroom (X _ _ ho) rfl hlim (codeRec_of X hcd) rfl (BindsTo.of_eq (by first | rfl | with_unfolding_all rfl)) (show ∀ x ∈ iS.names, x.2 ≠ .cell by decide) (fun y hy => ?_) (fun h₁ hns hk₁ => ?_) rfl rfl rfl
  · rcases List.mem_cons.mp hy with e | hy
    · rw [e]; rfl
    · rw [List.mem_singleton.mp hy]; rfl
  have X₁ : K.In h₁ := X.keeps hk₁
  have hx₁ := hk₁ _ _ hx
  obtain ⟨oD, hD1, hD2⟩ : ∃ oD, h₁.get? D = some oD ∧ oD.data = .cls cdD := by
    unfold clsIn at hD
    split at hD
    · rename_i c d cd' sl ho
      cases hD
      exact ⟨_, X₁ _ _ ho, rfl⟩
    · cases hD
  have Ix : InstAt h₁ x (excO C t0) C none := ⟨hx₁, rfl, rfl, trivial⟩
  have hxC : x ≠ C := ks_ne X₁ Ix hcl
  have hxL : hp.objs.size ≠ x := Nat.ne_of_gt (Heap.lt_size hx)
  refine ks_wpAt_execs_cons (ks_wpAt_Expr_any (ks_wpAt_MethodCall ?_))
  refine ks_wpAt_super_base (by rfl) (by rfl) rfl rfl (X₁ _ _ ho) rfl rfl rfl (X₁ _ _ hcode) rfl hvs hfile T.top ?_
  refine ks_loadName_global rfl rfl (loadGlobal_builtin (hg.keeps hk₁) ng (hb.keeps hk₁) nb ⟨rfl, ?_⟩)
  refine wpAny_loadName_free rfl rfl rfl ⟨_, X₁ _ _ hcell, rfl⟩ ?_
  refine wpAny_loadName_local (v := .ref x) rfl rfl hns (by rfl) ?_
  refine ks_wpAny_isType_cls hD1 hD2 ⟨rfl, ?_⟩
  refine ks_wpAny_call_super hD1 hD2 hx₁ rfl (fun c e => nomatch e) (looks_mroIn X₁ T.mro) (fun h₂ hso k₂ => ?_)
  have X₂ : K.In h₂ := X₁.keeps k₂
  have hx₂ := k₂ _ _ hx₁
  have Ix₂ : InstAt h₂ x (excO C t0) C none := ⟨hx₂, rfl, rfl, trivial⟩
  have hsup := T.sup
  unfold ks_superIn at hsup
  rw [hcl] at hsup
  refine kxs_getMethod kxs_ValueError hso (looks_opaque X₂ T.any) (l₀ := .ref C :: bm) (fun A Q E s k q => wpAny_bind ((looks_clsIn X₂ hcl) A _ E s k (wpAny_pure q))) rfl X₂ hsup (Ix₂.type.andThen (looks_subIn X₂ T.veC)) hxC rfl ?_
  refine cw1 (i := "ValueError.__init__") (x := x) ?_
  refine Calls.spliced_cons (wpAny_Constant_str (k := 0) (pos := ⟨6, 25, 6, 39⟩) ?_)
  have k₃ : ∀ b o, h₂.get? b = some o → (h₂.push (kxs_mw "ValueError.__init__" x)).get? b = some o := fun b o e => Heap.get?_push_of_some _ e
  have hu : (h₂.push (kxs_mw "ValueError.__init__" x)).get? h₂.objs.size = some (kxs_mw "ValueError.__init__" x) := Heap.get?_push_at rfl rfl
  refine Calls.spliced_nil ⟨hu, ?_⟩
  generalize hh3 : h₂.push (kxs_mw "ValueError.__init__" x) = h₃ at k₃ hu ⊢
  have X₃ : K.In h₃ := X₂.keeps k₃
  have hx₃ := k₃ _ _ hx₂
  have hC₃ := X₃ _ _ hC
  refine wpAny_call (codeAny_of_tree ?_)
  show wpAny _ _ (callAny (.ref h₂.objs.size) ⟨[_], []⟩) _ _ _
  simp only [callAny]
  refine wpAny_bind (wpAny_load hu ?_)
  simp only [kxs_mw, show (Value.type "method-wrapper" == Value.type "method" || Value.type "method-wrapper" == Value.type "builtin_function_or_method" || Value.type "method-wrapper" == Value.type "method-wrapper") = true by decide, if_true]
  refine KFB.if_so (by decide) ?_
  refine wpAny_bind (check_bound_init F.excBase_ValueError.toExcCallFacts hC₃ hx₃ rfl ?_)
  refine wpAny_bind (wpAny_pure (wpAny_pure ?_))
  refine ⟨plainId_quiet F.excBase_ValueError.init.plain _, codeAny_builtin F.excBase_ValueError.initEntry ?_⟩
  refine exc_init_tree (cls := .ref C) (t0 := t0) (dv := none) (c2 := .none) (c3 := .none) (b4 := .bool false) hx₃ (one_size _) fun h₄ k₄ hx₄ _ => ?_
  have k14 : ∀ b o, b ≠ x → h₁.get? b = some o → h₄.get? b = some o := fun b o hb e => k₄ b o hb (k₃ b o (k₂ b o e))
  have X₄ : K.In h₄ := fun b o e => k14 b o (fun z => by rw [z, hnx] at e; cases e) (X₁ _ _ e)
  have hn₄ : h₄.Ns hp.objs.size _ := hns.at fun o e => k14 _ _ hxL e
  show wpAt _ _ _ (execs _ _) _ _ _
  refine wpAt_of_wpAny (wpAny_execs_cons (plainObj_wpAny_Assign_Attribute ?_))
  refine wpAny_Name (wpAny_loadName_local (v := v) rfl rfl hn₄ (by rfl) ?_) (by decide)
  refine wpAny_Name (wpAny_loadName_local (v := .ref x) rfl rfl hn₄ (by rfl) ?_) (by decide)
  refine set_plain X₄ (ox := excO C h₃.objs.size) (od := none) ⟨hx₄, rfl, rfl, trivial⟩ T.sa ?_
  refine HandSPX.exc_osa X₄ hx₄ hcl (show HandSPX.refsVE (.ref C :: bm) = true from hbm) rfl T.noN (fun h₅ tk₅ dx k₅ dn dne hx₅ hn₅ => ?_)
  show wpAny _ _ (execs _ _) _ _ _
  have z : hp.objs.size < h₄.objs.size := hn₄.lt
  exact wpAny_execs_nil (hq h₅ tk₅ dx h₃.objs.size ⟨fun b o hb e => k₅ b o hb (k14 b o hb (hk₁ b o e)), hx₅, Nat.le_of_lt (Nat.lt_of_lt_of_le z dn), dne, hn₅⟩)
theorem sup_made (T : Txt K prog C D fI cc cda) {v : Value} (X : K.In s.heap) (hg : s.heap.Ns mainGlobals mg) (hb : s.heap.Ns builtinsNs mb) (ng : mg "super" = none) (nb : mb "super" = some (.type "super")) (hlim : s.heap.NoLimit) (hroom : A.depth + 1 < recursionLimit)
    (hq : ∀ h' tk e d, OwnMade s.heap h' e C d v → R (.ok (.ret (.ref e))) { s with heap := h', toks := tk }) :
    codeAny (model prog w) A (.call (.ref C) ⟨[v], []⟩) R s := by
  obtain ⟨nm, q, N, bs, bm, sn, sub, ab, col, dd, k0, k1, k2, k3, k5, hC, hbm⟩ := T.cls
  obtain ⟨hp, g, dr, tk, os⟩ := s
  have k : ∀ b o, hp.get? b = some o → ((hp.push (kdv_tup [v])).push (excO C hp.objs.size)).get? b = some o := fun b o e => Heap.get?_push_of_some _ (Heap.get?_push_of_some _ e)
  have hget : ((hp.push (kdv_tup [v])).push (excO C hp.objs.size)).get? (hp.objs.size + 1) = some (excO C hp.objs.size) := by heap_get
  have hnx : K.lookup (hp.objs.size + 1) = none := by
    cases e : K.lookup (hp.objs.size + 1) with
    | none => rfl
    | some o =>
      have z : hp.get? (hp.objs.size + 1) = some o := X _ _ e
      exact absurd (Nat.lt_of_succ_lt (Heap.lt_size z)) (Nat.lt_irrefl _)
  refine HandSPX.call_own F.excBase_ValueError (fun X => HandSPX.refsVE_contains X bm hbm) (X _ _ hC) (looks_findIn X T.iC) (fun self => bind_fn X self T.tC) (one_size v) ?_
  refine sup_init (s := ⟨(hp.push (kdv_tup [v])).push (excO C hp.objs.size), g, dr, tk, os⟩) T (X.keeps k) (hg.keeps k) (hb.keeps k) ng nb (hlim.keeps k) hget hnx ?_ fun h' tk' dx t1 ⟨k', hx, dn, dne, hns⟩ => ?_
  · show A.depth + 1 < recursionLimit
    exact hroom
  · have old : ∀ b o, hp.get? b = some o → h'.get? b = some o := fun b o e => k' b o (Nat.ne_of_lt (Nat.lt_succ_of_lt (Heap.lt_size e))) (k b o e)
    have z : hp.objs.size + 1 + 1 ≤ dx := by
      first
        | (simpa only [Heap.size_push] using dn)
        | exact dn
        | (have q := dn; rw [Heap.size_push, Heap.size_push] at q; exact q)
    exact ⟨rfl, hq h' tk' (hp.objs.size + 1) dx ⟨old, Nat.le_succ _, ⟨_, _, hx, rfl, rfl, rfl, rfl⟩, Nat.le_trans (Nat.le_trans (Nat.le_succ _) (Nat.le_succ _)) z, dne, hns⟩⟩
end
end SupX
end PySem
namespace L2
open PySem PySem.Spec PyProof.Rows
theorem relO_value {v : V} {v' : Value} (r : RelV v v') (f : Str) : RelO (List.lookup f [(("value" : Str), v)]) (if f = "value" then some v' else none) := by
  by_cases hw : f = "value"
  · subst hw
    rw [if_pos rfl]
    have q : List.lookup ("value" : Str) [(("value" : Str), v)] = some v := by simp [List.lookup]
    rw [q]
    exact r
  · rw [if_neg hw]
    have qw : (f == ("value" : Str)) = false := by simpa using hw
    have q2 : List.lookup f [(("value" : Str), v)] = none := by simp [List.lookup, qw]
    rw [q2]
    trivial
section
variable {X : Cx} {C D fI cc cda : Addr}
def tMkV (C : Addr) (ta : TA) : St → Hp → XK → Prop := fun σ H Q => ta σ H fun vs H1 => ∃ v, vs = [v] ∧ ∀ d, H1 d = none → Q (.ref C) (some d) (upd H1 d (.xd [(("value" : Str), v)]))
theorem pmk_value {x : Str} {a : Expr} {ta : TA} {p pos : Pos} {k : Nat} (T : PySem.SupX.Txt X.K X.prog C D fI cc cda) (gC : X.mg x = some (.ref C)) (ng : X.mg "super" = none) (hr : Room k X.A) (ha : PA X [a] ta) (hg : Gl X x) (hd : (x == ("__debug__" : Str)) = false := by decide)
    (he : starEach (a :: []) X.env = (false, eval a X.env) :: starEach [] X.env := by rfl) (hpl : (backTo pos (starEach [] X.env)).any (·.1) = false := by rfl) :
    PMk X (.Call (.Name x p) [a] [] pos) (tMkV C ta) := by
  intro pins s σ H Q I h
  refine wpAny_Call_Name_kw (ld_glob I hg gC ?_ hd)
  refine PySem.W.callWith_K (h₀ := X.base) I.ok.mod.kin T.kC (thn (ha.run pos pins s σ H _ I h) fun us s1 hh => ?_) he hpl
  obtain ⟨vs, H1, I1, r1, v, ev, q1⟩ := hh
  subst ev
  refine ⟨I1.kIn, ?_⟩
  cases r1 with
  | cons rv rn =>
    rename_i v' us'
    cases rn
    show wpAny _ _ (call (.ref C) [v']) _ _ _
    have hlim := I1.nolimit
    obtain ⟨mb, b1, b2⟩ := I1.mod.blt
    have gl := I1.mod.glob.keeps I1.bk
    have bl := b1.keeps I1.bk
    have nb : mb "super" = some (.type "super") := (b2 "super" (by decide)).trans (by decide +kernel)
    obtain ⟨hp, g, dr, tk, os⟩ := s1
    refine wpAny_call (PySem.SupX.sup_made T I1.kIn gl bl ng nb hlim (by have := hr.dp; omega) fun h' tk' e d M => ?_)
    show MkP X pins σ Q (.ref e) ⟨h', g, dr, tk', os⟩
    obtain ⟨oe, fv, hoe, hc, hd, hdat, h1⟩ := M.obj
    have hns := M.ns
    obtain ⟨G', g1, g2⟩ := restrict h' fun b => decide (b ≠ e)
    have gk : ∀ b, b ≠ e → G'.get? b = h'.get? b := fun b hb => g1 b (decide_eq_true hb)
    have ge : G'.get? e = none := g2 e (by simp)
    have old : ∀ b o, hp.get? b = some o → G'.get? b = some o := fun b o q => (gk b (Nat.ne_of_lt (Nat.lt_of_lt_of_le (Heap.lt_size q) M.new))).trans (M.keep b o q)
    have ob : ObjOk X.prog X.w (upd H1 d (.xd [(("value" : Str), v)])) G' d (.xd [(("value" : Str), v)]) :=
      ⟨_, hns.at (fun o q => (gk d M.dne).trans q), fun f => relO_value rv f⟩
    have J : Inv X pins σ (upd H1 d (.xd [(("value" : Str), v)])) ⟨G', g, dr, tk', os⟩ := I1.laid (t' := tk') old M.dbig ob
    refine ⟨e, oe, fv, ⟨G', g, dr, tk', os⟩, _, .ref C, some d, rfl, J, fun b o q => ?_, ge, hoe, ⟨hc, hd⟩, hdat, h1, ?_, rfl, I1.bare, raises_own T.exC T.tyC, q1 d (I1.hok.fresh M.dbig)⟩
    · by_cases hb : b = e
      · have q' : G'.get? b = some o := q
        rw [hb, ge] at q'; cases q'
      · exact (gk b hb).symm.trans q
    · rw [upd_ne (Ne.symm M.dne)]
      exact I1.hok.fresh M.new
end
end L2
/-! text BkY -/
set_option Elab.async false
set_option linter.all false
set_option maxRecDepth 100000
set_option maxHeartbeats 4000000
set_option autoImplicit false
/-! BkY: try: body / except C as e: y = e, the exception kept behind the suite. -/
namespace L2
open PySem PySem.Spec PyProof.Rows
section
variable {X : Cx} {pins : List (Addr × Obj)} {σ : St} {H : Hp} {s : Shared}
/-- an object that nobody told of is told of from now on -/
theorem Inv.track (I : Inv X pins σ H s) {a : Addr} {oa : Obj} {o : HO} (ha : s.heap.get? a = some oa) (hd : ∀ v, oa.data ≠ .cell v) (h0 : X.s_0.heap.get? a = none) (nL : a ≠ X.env.locals) (nH : H a = none) (np : ∀ p ∈ X.pn ++ pins, p.1 ≠ a)
    (new : ObjOk X.prog X.w (upd H a o) s.heap a o) : Inv X pins σ (upd H a o) s := by
  refine ⟨I.ok, I.os, I.bare, ⟨I.base.keep, I.base.slot, fun b ob e n hx => ?_, I.base.there, fun b xs e => ?_, fun b ob u e => ?_, fun b ps e => ?_⟩, I.loc, I.cell, ?_, fun x c e => ?_, fun p hp => ?_, fun b ob e => ?_, I.len⟩
  · have hb : b ≠ a := fun z => by rw [z, h0] at e; cases e
    rw [upd_ne hb]; exact I.base.free b ob e n hx
  · have q := I.base.tups b xs e
    rw [upd_ne (ne_of_none q nH)]; exact q
  · have q := I.base.frzs b ob u e
    rw [upd_ne (ne_of_none q nH)]; exact q
  · obtain ⟨m, q⟩ := I.base.tbls b ps e
    exact ⟨m, by rw [upd_ne (ne_of_none q nH)]; exact q⟩
  · rw [upd_ne (Ne.symm nL)]; exact I.free
  · obtain ⟨v, oc, ec, dc⟩ := I.cell x c e
    have hc : c ≠ a := fun z => by
      rw [z, ha] at ec; cases ec
      exact hd _ dc
    rw [upd_ne hc]; exact I.freeC x c e
  · obtain ⟨e, n, ne, nf, d⟩ := I.pin p hp
    exact ⟨e, by rw [upd_ne (np p hp)]; exact n, ne, nf, d⟩
  · by_cases hb : b = a
    · subst hb; rw [upd_same] at e; cases e; exact new
    · rw [upd_ne hb] at e
      exact (I.hok b ob e).stay (fun c v _ q => q) (fun c q => by rw [upd_ne (ne_of_none q nH)]; exact q) fun c xs q => by rw [upd_ne (ne_of_none q nH)]; exact q
/-- what the clause 'except x as n: y = n' wishes of an exception of the body: the names' slots i, j -/
def wK (K : PySem.W.Frag) (c : Value) (i j : Nat) (D : Ends) : WX := fun cls d σ H =>
  PySem.W.exmOne K cls c = some true ∧ ∀ a, H a = none → D.nx (((σ.set i (some (.ref a))).set j (some (.ref a))).set i none) (upd H a (Bk.exk a cls d))
variable {x n y : Str} {c : Value} {i j : Nat} {body : List Stmt} {np p1 p2 p3 pos pos' : Pos} {tb : WX → TS}
theorem ps_try_keep (hs : X.stack = X.env :: X.outer) (hf : X.env.frame = some X.env.locals) (hex : X.ex = []) (hN : X.N.Nodup) (hi : X.N[i]? = some n) (hln : X.env.kindOf n = some .local) (hj : X.N[j]? = some y) (hy : X.env.scope.names.lookup y = some .local) (hc : Names X x c)
    (hd1 : (n == ("__debug__" : Str)) = false) (hd2 : (n == ("__classdict__" : Str)) = false) (hsw : swapsWith (.Name n p2) (some (.Name y p1)) p3.line X.env = pure false)
    (hb : ∀ (W : WX) (pn : List (Addr × Obj)) (xe : Value → Shared → Prop), Takes (X.tr pn xe) W → PassesOwn (model X.prog X.w) X.A X.env xe → PSs (X.tr pn xe) body (tb W)) :
    PS X (.Try body [.ExceptHandler (some (.Name x np)) (some n) [.Assign [.Name y p1] (.Name n p2) p3] pos'] [] [] pos) (fun D σ H => tb (wK X.K c i j D) D σ H) := by
  refine ⟨fun pins s σ H D I h => ?_⟩
  have ok := I.ok
  have hfr : X.A.frames = some (X.env :: X.outer) := by rw [ok.frames, hs]
  have hloc : Loc X.env.scope n := .inl hln
  have hst : ∀ b, b ≠ X.env.locals → b ∉ X.fs → b ∉ frs X.stack := fun b h1 h2 hm => by
    rw [hs] at hm
    obtain ⟨e, he, q⟩ := List.mem_filterMap.mp hm
    rcases List.mem_cons.mp he with z | z
    · subst z
      rw [hf] at q; cases q
      exact h1 rfl
    · exact h2 (List.mem_filterMap.mpr ⟨e, z, q⟩)
  refine wpAny_Try_except ?_
  refine wpAny_mono ((hb (wK X.K c i j D) (X.pn ++ pins) (fun e s₁ => wpAny (model X.prog X.w) X.A (noteFrame e X.env) (fun _ s₂ => wpAny (model X.prog X.w) X.A (setFlight e none) (fun _ s₃ =>
    wpAny (model X.prog X.w) X.A (handleBy e X.env [.ExceptHandler (some (.Name x np)) (some n) [.Assign [.Name y p1] (.Name n p2) p3] pos']) (SP X pins D) X.xe s₃) X.xe s₂) X.xe s₁) (fun u s' xx => ?_) PassesOwn.looking).run [] s σ H D (I.toTry _) h) (fun f s1 hsp => ?_) (fun e s1 he => he)
  · obtain ⟨a, B, sI, pins', σ', H', cls, d, rfl, J', nb, up, sky, na, os, ag, hb1, hyes⟩ := xx
    have J : Inv X pins σ' H' sI := J'.ofTry ok
    have sky' : Sky B (X.env :: X.outer) a (Zc cls d) X.env.locals s'.heap := by rw [← hs]; exact sky
    show wpAny (model X.prog X.w) X.A (noteFrame (.ref a) X.env) _ _ _
    refine Sky.land Zc.steady hfr hf sky' fun h3 fl3 up3 => ?_
    have J3 : Inv X pins σ' H' { s' with heap := h3 } := J.landed nb fl3.1 (up.trans up3) os ag
    obtain ⟨oe3, vs3, he3, hz3, hd3⟩ := fl3.there
    have nfr : a ∉ frs (X.env :: X.outer) := fun hm => by
      obtain ⟨_, o', e', hnf⟩ := fl3.2.2.1.mem hm
      rw [he3] at e'; cases e'
      exact hnf _ hd3
    have nL : a ≠ X.env.locals := fun z => nfr (List.mem_filterMap.mpr ⟨X.env, List.mem_cons_self, by rw [hf, z]⟩)
    have nF : a ∉ X.fs := fun hm => by
      obtain ⟨e, he, q⟩ := List.mem_filterMap.mp hm
      exact nfr (List.mem_filterMap.mpr ⟨e, List.mem_cons_of_mem _ he, q⟩)
    have Bn : B.get? a = none := fl3.2.1
    have nI : sI.heap.get? a = none := by
      cases e : sI.heap.get? a with
      | none => rfl
      | some o => have := nb a o e (hst a nL nF); rw [Bn] at this; cases this
    have n0 : X.s_0.heap.get? a = none := by
      cases e : X.s_0.heap.get? a with
      | none => rfl
      | some o =>
        obtain ⟨o', e'⟩ := J.base.there a o e (by rw [hex]; simp)
        rw [nI] at e'; cases e'
    have np' : ∀ p ∈ X.pn ++ pins, p.1 ≠ a := fun p hp z => by
      have q := (J.pin p hp).1
      rw [z, nI] at q; cases q
    have S3 := J3.suite he3 hd3 na nL nF
    refine wpAny_handleBy_cons (codeAny_handlers_test ?_) (by intro q; cases q)
    have LT : PySem.W.Looks (model X.prog X.w) h3 (typeOf (.ref a)) cls := fun A Q E s k q => wpAny_typeOf_ref (k _ _ he3) (by rw [hz3.1]; exact q)
    have LM := PySem.W.exm_one (M := model X.prog X.w) (J3.kIn) LT hb1
    have test : ∀ {Q : Value → Shared → Prop} {E : Value → Shared → Prop}, Q c { s' with heap := h3 } → wpAny (model X.prog X.w) (X.A.mark (some (.ref a))) (eval (.Name x np) X.env) Q E { s' with heap := h3 } := fun {Q E} q => by
      obtain ⟨hg, hdbg, hm | ⟨hm, hv, hnn⟩⟩ := hc
      · exact ld_glob (X := X.suite a ((a, oe3) :: (X.pn ++ pins))) S3 hg hm q hdbg
      · exact ld_blt (X := X.suite a ((a, oe3) :: (X.pn ++ pins))) S3 hg hm hv q hnn hdbg
    refine test (LM.here ?_)
    refine codeAny_handlers_suite_as ?_
    refine HandSPX.lands_againZ fl3 fun h4 fl4 up4 => ?_
    have J4 : Inv X pins σ' H' { s' with heap := h4 } := J.landed nb fl4.1 ((up.trans up3).trans up4) os ag
    obtain ⟨oe4, vs4, he4, hz4, hd4⟩ := fl4.there
    have S4 := J4.suite he4 hd4 na nL nF
    refine store_ok (X := X.suite a ((a, oe4) :: (X.pn ++ pins))) (v := .ref a) S4 hN hi hloc rfl (fun s5 S5 => ?_) (.inr hln)
    have PSu : PSs (X.suite a ((a, oe4) :: (X.pn ++ pins))) [.Assign [.Name y p1] (.Name n p2) p3] (tAsg (tVar i) (gName j)) := pss_one (ps_set hN hj (.inl hy) (pe_var hi (.inl hln) hd1 hd2) hsw (.inr hy))
    have hlen : i < (σ'.set i (some (V.ref a))).length := by
      rw [List.length_set, J.len]
      exact (List.getElem?_eq_some_iff.mp hi).1
    refine wpAny_mono (PSu.run [] s5 (σ'.set i (some (.ref a))) H' { nx := fun σ6 H6 => H6 = H' ∧ σ6 = (σ'.set i (some (.ref a))).set j (some (.ref a)), rt := fun _ _ => False, bk := fun _ _ => False, ct := fun _ _ => False } S5 ⟨.ref a, by rw [List.getElem?_set_self (by rw [List.length_set] at hlen; exact hlen)], rfl, rfl⟩) (fun f s6 hsp => ?_) (fun _ _ z => False.elim z)
    cases f with
    | next =>
      obtain ⟨σ6, H6, S6, e1, e2⟩ := hsp
      subst e1; subst e2
      have ha6 := (S6.pin (a, oe4) (by simp)).1
      have J6 := S6.unsuite ok
      have J7 := J6.track (o := Bk.exk a cls d) ha6 (fun v z => by rw [hd4] at z; cases z) n0 nL na np' ⟨⟨oe4, vs4, ha6, hz4.1, hz4.2, hd4⟩, ⟨_, ha6⟩, fun h1 h2 ⟨o, v, e, r⟩ k => ⟨o, v, k _ e, r⟩⟩
      exact gone_ok J7 hN hi hln fun s7 J8 => ⟨_, _, J8, hyes a na⟩
    | brk => obtain ⟨_, _, _, z⟩ := hsp; exact z.elim
    | cont => obtain ⟨_, _, _, z⟩ := hsp; exact z.elim
    | ret u => obtain ⟨_, _, _, _, _, z⟩ := hsp; exact z.elim
  · cases f with
    | next =>
      obtain ⟨σ', H', J', q⟩ := hsp
      exact wpAny_execs_nil ⟨σ', H', J'.ofTry ok, q⟩
    | brk =>
      obtain ⟨σ', H', J', q⟩ := hsp
      exact ⟨σ', H', J'.ofTry ok, q⟩
    | cont =>
      obtain ⟨σ', H', J', q⟩ := hsp
      exact ⟨σ', H', J'.ofTry ok, q⟩
    | ret u =>
      obtain ⟨v, σ', H', J', r, q⟩ := hsp
      exact ⟨v, σ', H', J'.ofTry ok, r, q⟩
end
end L2
/-! text BkZ -/
set_option Elab.async false
set_option linter.all false
set_option maxRecDepth 100000
set_option maxHeartbeats 4000000
set_option autoImplicit false
/-! BkZ: list(zip(xs, ys)), xs and ys lists. -/
namespace PySem.W
open PySem PySem.Calls PyProof.Rows PyProof.V PySem.Spec
theorem lz_nolen : typeLookup (.type "zip") "__len__" = pure none := by rw [typeLookup_type, builtinLookup_eq_fast]; kernel_rfl
theorem lz_nohint : typeLookup (.type "zip") "__length_hint__" = pure none := by rw [typeLookup_type, builtinLookup_eq_fast]; kernel_rfl
structure LzSt (h : Heap) (z TI TO i1 i2 l1 l2 S : Addr) (xs ys : Array Value) (i : Nat) : Prop where
  ti : IsPair h TI (.ref i1) (.ref i2)
  h1 : h.IsListIter i1 l1 i
  h2 : h.IsListIter i2 l2 i
  l1 : h.IsList l1 xs
  l2 : h.IsList l2 ys
  zz : (IsZip h z TI TO .none ∧ ∃ a b, IsPair h TO a b) ∨ ∃ T f oT, IsZipHeld h z TI TO T f ∧ h.get? T = some oT ∧ T ≠ z ∧ T ≠ i1 ∧ T ≠ i2 ∧ T ≠ S
/-- S is none of theirs -/
structure LzOff (z TI TO i1 i2 l1 l2 S : Addr) : Prop where
  z : z ≠ S
  ti : TI ≠ S
  to : TO ≠ S
  i1 : i1 ≠ S
  i2 : i2 ≠ S
  l1 : l1 ≠ S
  l2 : l2 ≠ S
section
variable {prog : Program} {w : World} {A : Around} {E : Value → Shared → Prop} {s : Shared} {R : Result → Shared → Prop} {z TI TO i1 i2 l1 l2 S : Addr} {xs ys : Array Value}
theorem LzSt.keep {h h' : Heap} {i : Nat} (x : LzSt h z TI TO i1 i2 l1 l2 S xs ys i) (o : LzOff z TI TO i1 i2 l1 l2 S) (hk : ∀ b u, b ≠ S → h.get? b = some u → h'.get? b = some u) : LzSt h' z TI TO i1 i2 l1 l2 S xs ys i := by
  obtain ⟨a1, a2, a3, a4, a5, a6⟩ := x
  refine ⟨hk _ _ o.ti a1, a2.at fun u e => hk _ u o.i1 e, a3.at fun u e => hk _ u o.i2 e, a4.at fun u e => hk _ u o.l1 e, a5.at fun u e => hk _ u o.l2 e, ?_⟩
  rcases a6 with ⟨hz, a, b, hTO⟩ | ⟨T, f, oT, hz, hT, r1, r2, r3, r4⟩
  · exact .inl ⟨hk _ _ o.z hz, a, b, hk _ _ o.to hTO⟩
  · exact .inr ⟨T, f, oT, hk _ _ o.z hz, hk _ _ r4 hT, r1, r2, r3, r4⟩
theorem lz_item {i : Nat} {x y : Value} {Q : Option Value → Shared → Prop} (D : ZipApart z TI TO i1 i2 l1 l2) (st : LzSt s.heap z TI TO i1 i2 l1 l2 S xs ys i) (hS : S < s.heap.objs.size) (hx : xs[i]? = some x) (hy : ys[i]? = some y)
    (hQ : ∀ h', LzSt h' z TI TO i1 i2 l1 l2 S xs ys (i + 1) → IsPair h' s.heap.objs.size x y → (∀ c o, c ≠ z → c ≠ TO → c ≠ i1 → c ≠ i2 → s.heap.get? c = some o → h'.get? c = some o) → Q (some (.ref s.heap.objs.size)) { s with heap := h' }) :
    wpAny (model prog w) A (pyNext (.ref z)) Q E s := by
  obtain ⟨hTI, h1, h2, hl1, hl2, hz⟩ := st
  have lt : ∀ {c o}, s.heap.get? c = some o → s.heap.objs.size ≠ c := fun e => Nat.ne_of_gt (Heap.lt_size e)
  have n1 : s.heap.objs.size ≠ i1 := let ⟨_, e, _⟩ := h1; lt e
  have n2 : s.heap.objs.size ≠ i2 := let ⟨_, e, _⟩ := h2; lt e
  rcases hz with ⟨hz, a, b, hTO⟩ | ⟨T, f, oT, hz, hT, r1, r2, r3, r4⟩
  · refine wpAny_pyNext_zip_item D hz hTI hTO h1 h2 hl1 hl2 hx hy fun h' a1 a2 a3 a4 a5 a6 hk => ?_
    exact hQ h' ⟨hk _ _ D.TIz D.TITO D.TIi1 D.TIi2 hTI, a3, a4, hl1.at fun o e => hk _ o D.l1z D.l1TO D.l1i1 D.l1i2 e, hl2.at fun o e => hk _ o D.l2z D.l2TO D.l2i1 D.l2i2 e,
      .inr ⟨s.heap.objs.size, false, _, a1, a5, lt hz, n1, n2, Nat.ne_of_gt hS⟩⟩ a5 hk
  · refine wpAny_pyNext_zip_item_held D hz hT hTI h1 h2 hl1 hl2 hx hy fun h' a1 a3 a4 a5 a6 hk => ?_
    exact hQ h' ⟨hk _ _ D.TIz D.TIi1 D.TIi2 hTI, a3, a4, hl1.at fun o e => hk _ o D.l1z D.l1i1 D.l1i2 e, hl2.at fun o e => hk _ o D.l2z D.l2i1 D.l2i2 e,
      .inr ⟨T, true, oT, a1, hk _ _ r1 r2 r3 hT, r1, r2, r3, r4⟩⟩ a5 fun c o c1 _ c3 c4 e => hk c o c1 c3 c4 e
theorem lz_done {i : Nat} {Q : Option Value → Shared → Prop} (hh : A.handled = none) (D : ZipApart z TI TO i1 i2 l1 l2) (st : LzSt s.heap z TI TO i1 i2 l1 l2 S xs ys i) (hend : xs[i]? = none ∨ ys[i]? = none)
    (hQ : ∀ h', (∀ c o, c ≠ z → c ≠ TO → c ≠ i1 → c ≠ i2 → s.heap.get? c = some o → h'.get? c = some o) → Q none { s with heap := h' }) : wpAny (model prog w) A (pyNext (.ref z)) Q E s := by
  obtain ⟨hTI, h1, h2, hl1, hl2, hz⟩ := st
  rcases hz with ⟨hz, a, b, hTO⟩ | ⟨T, f, oT, hz, hT, r1, r2, r3, r4⟩
  · exact wpAny_pyNext_zip_end hh D hz hTI hTO h1 h2 hl1 hl2 hend hQ
  · exact wpAny_pyNext_zip_end_held hh D hz hT hTI h1 h2 hl1 hl2 hend fun h' hk => hQ h' fun c o c1 _ c3 c4 e => hk c o c1 c3 c4 e
/-- the pairs that were made -/
structure LzG (xs ys : Array Value) (lo : Addr) (h : Heap) (as : List Addr) : Prop where
  rise : as.Pairwise (· < ·)
  above : ∀ a ∈ as, lo < a
  pairs : ∀ (j : Nat) (a : Addr), as[j]? = some a → ∃ x y, xs[j]? = some x ∧ ys[j]? = some y ∧ h.get? a = some { cls := .type "tuple", data := .seq #[x, y] }
theorem LzG.there {lo : Addr} {h : Heap} {as : List Addr} (g : LzG xs ys lo h as) {a : Addr} (ha : a ∈ as) : a < h.objs.size := by
  obtain ⟨j, hj⟩ := List.mem_iff_getElem?.mp ha
  obtain ⟨_, _, _, _, e⟩ := g.pairs j a hj
  exact Heap.lt_size e
theorem lz_loop (hh : A.handled = none) (D : ZipApart z TI TO i1 i2 l1 l2) (off : LzOff z TI TO i1 i2 l1 l2 S) (low : z < S ∧ TO < S ∧ i1 < S ∧ i2 < S) (hn : min xs.size ys.size ≤ sizeLine) (res : Value) {h₁ : Heap}
    (hR : ∀ h' tk acc c as, (∀ b o, b ≠ S → b ≠ z → b ≠ TO → b ≠ i1 → b ≠ i2 → h₁.get? b = some o → h'.get? b = some o) → h'.get? S = some { cls := .type "list", dict := none, data := .seq acc c, slots := #[] } → as.length = min xs.size ys.size → LzG xs ys S h' as →
      acc.toList = as.map Value.ref → R (.ok (.ret res)) { s with heap := h', toks := tk }) :
    ∀ (k i : Nat) (h : Heap) (tk c : Nat) (acc : Array Value) (as : List Addr), min xs.size ys.size - i = k → i ≤ min xs.size ys.size → LzSt h z TI TO i1 i2 l1 l2 S xs ys i → (∀ b o, b ≠ S → b ≠ z → b ≠ TO → b ≠ i1 → b ≠ i2 → h₁.get? b = some o → h.get? b = some o) →
      h.get? S = some { cls := .type "list", dict := none, data := .seq acc c, slots := #[] } → acc.toList = as.map Value.ref → as.length = i → LzG xs ys S h as →
      codeAny (model prog w) A (.builtin "list.extend.loop" ⟨[.ref S, .ref z, res], []⟩) R { s with heap := h, toks := tk } := by
  have offA : ∀ a : Addr, S ≤ a → a ≠ z ∧ a ≠ TO ∧ a ≠ i1 ∧ a ≠ i2 := fun a h => ⟨Nat.ne_of_gt (Nat.lt_of_lt_of_le low.1 h), Nat.ne_of_gt (Nat.lt_of_lt_of_le low.2.1 h), Nat.ne_of_gt (Nat.lt_of_lt_of_le low.2.2.1 h), Nat.ne_of_gt (Nat.lt_of_lt_of_le low.2.2.2 h)⟩
  obtain ⟨s1, s2, s3, s4⟩ := offA S (Nat.le_refl _)
  intro k
  induction k with
  | zero =>
    intro i h tk c acc as hk hi hst hkeep hS hacc hal hG
    have hin : i = min xs.size ys.size := by omega
    have hend : xs[i]? = none ∨ ys[i]? = none := by
      rcases Nat.le_total xs.size ys.size with q | q
      · exact .inl (Array.getElem?_eq_none (by omega))
      · exact .inr (Array.getElem?_eq_none (by omega))
    refine codeAny_builtin PySem.F.entry_extend_loop ?_
    rw [Around.under_plainId PySem.F.plain_extend_loop _]
    show wpAny _ A.in1 (pyNext (.ref z) >>= _) _ _ _
    refine wpAny_bind (lz_done (s := { s with heap := h, toks := tk }) (A := A.in1) hh D hst hend fun h' he => ?_)
    have hab : ∀ a ∈ as, a ≠ z ∧ a ≠ TO ∧ a ≠ i1 ∧ a ≠ i2 := fun a ha => offA a (Nat.le_of_lt (hG.above a ha))
    refine wpAny_pure (hR h' tk acc c as (fun b o h1 h2 h3 h4 h5 e => he b o h2 h3 h4 h5 (hkeep b o h1 h2 h3 h4 h5 e)) (he S _ s1 s2 s3 s4 hS) (by omega) ⟨hG.rise, hG.above, fun j a hj => ?_⟩ hacc)
    obtain ⟨x, y, e1, e2, e3⟩ := hG.pairs j a hj
    obtain ⟨q1, q2, q3, q4⟩ := hab a (List.mem_of_getElem? hj)
    exact ⟨x, y, e1, e2, he a _ q1 q2 q3 q4 e3⟩
  | succ k ih =>
    intro i h tk c acc as hk hi hst hkeep hS hacc hal hG
    have hlt : i < min xs.size ys.size := by omega
    obtain ⟨x, hx⟩ : ∃ p, xs[i]? = some p := ⟨_, Array.getElem?_eq_getElem (by omega)⟩
    obtain ⟨y, hy⟩ : ∃ p, ys[i]? = some p := ⟨_, Array.getElem?_eq_getElem (by omega)⟩
    have hsz : acc.size = i := by rw [← Array.length_toList, hacc, List.length_map, hal]
    refine codeAny_builtin PySem.F.entry_extend_loop ?_
    rw [Around.under_plainId PySem.F.plain_extend_loop _]
    show wpAny _ A.in1 (pyNext (.ref z) >>= _) _ _ _
    refine wpAny_bind (lz_item (s := { s with heap := h, toks := tk }) (S := S) D hst (Heap.lt_size hS) hx hy fun h' hst' ht hkp => ?_)
    dsimp only at ht hkp ⊢
    have hS' := hkp S _ s1 s2 s3 s4 hS
    have up : ∀ b o, b ≠ S → h'.get? b = some o → (h'.update S (Obj.mapSeq (·.push (Value.ref h.objs.size)))).get? b = some o := fun b o hb e => (Heap.get?_update_other _ _ (Ne.symm hb)).trans e
    have hSl : S < h.objs.size := Heap.lt_size hS
    show wpAny _ A.in1 (updateSeq S (·.push (Value.ref h.objs.size)) >>= _) _ _ _
    refine wpAny_bind ?_
    refine wpAny_updateSeq hS' rfl (wpAny_pure ⟨plainId_quiet PySem.F.plain_extend_loop _, ih (i + 1) _ tk _ (acc.push (Value.ref h.objs.size)) (as ++ [h.objs.size]) (by omega) hlt (hst'.keep off up)
      (fun b o h1 h2 h3 h4 h5 e => up b o h1 (hkp b o h2 h3 h4 h5 (hkeep b o h1 h2 h3 h4 h5 e))) (Heap.get?_update_self _ hS' rfl) (by rw [Array.toList_push, hacc, List.map_append]; rfl) (by rw [List.length_append, hal]; rfl) ⟨?_, ?_, ?_⟩⟩) (by rw [hsz]; omega) (by show (acc.push (Value.ref h.objs.size)).size ≤ sizeLine + 1; rw [Array.size_push, hsz]; omega)
    · refine List.pairwise_append.mpr ⟨hG.rise, List.pairwise_singleton _ _, fun a ha b hb => ?_⟩
      rw [List.mem_singleton.mp hb]
      exact hG.there ha
    · intro a ha
      rcases List.mem_append.mp ha with ha | ha
      · exact hG.above a ha
      · rw [List.mem_singleton.mp ha]; exact hSl
    · intro j b hj
      rcases Nat.lt_trichotomy j as.length with q1 | q1 | q1
      · rw [List.getElem?_append_left q1] at hj
        obtain ⟨x', y', e1, e2, e3⟩ := hG.pairs j b hj
        have hb := hG.above b (List.mem_of_getElem? hj)
        exact ⟨x', y', e1, e2, up b _ (Nat.ne_of_gt hb) (hkp b _ (offA b (Nat.le_of_lt hb)).1 (offA b (Nat.le_of_lt hb)).2.1 (offA b (Nat.le_of_lt hb)).2.2.1 (offA b (Nat.le_of_lt hb)).2.2.2 e3)⟩
      · subst q1
        have hb : h.objs.size = b := by simpa using hj
        subst hb
        exact ⟨x, y, by rw [hal]; exact hx, by rw [hal]; exact hy, up _ _ (Nat.ne_of_gt hSl) ht⟩
      · have hnone : (as ++ [h.objs.size])[j]? = none := List.getElem?_eq_none (by rw [List.length_append, List.length_singleton]; omega)
        rw [hnone] at hj; cases hj
theorem lz_hint (hT : s.TypeIs (.ref z) "zip") {Q : Bool → Shared → Prop} (h : Q true s) : wpAny (model prog w) A (Builtin.List.listLengthHint (.ref z)) Q E s := by
  unfold Builtin.List.listLengthHint
  refine wpAny_bind (wpAny_specialOf hT lz_nolen ?_)
  show wpAny _ _ (specialOf (.ref z) "__length_hint__" >>= _) _ _ s
  refine wpAny_bind (wpAny_specialOf hT lz_nohint ?_)
  exact wpAny_pure h
theorem lz_extend (hh : A.handled = none) (D : ZipApart z TI TO i1 i2 l1 l2) (off : LzOff z TI TO i1 i2 l1 l2 S) (low : z < S ∧ TO < S ∧ i1 < S ∧ i2 < S) (st : LzSt s.heap z TI TO i1 i2 l1 l2 S xs ys 0) (h0 : IsZip s.heap z TI TO .none) (res : Value) (c₀ : Nat) (hS : s.heap.get? S = some { cls := .type "list", data := .seq #[] c₀ })
    (hR : ∀ h' tk acc c as, (∀ b o, b ≠ S → b ≠ z → b ≠ TO → b ≠ i1 → b ≠ i2 → s.heap.get? b = some o → h'.get? b = some o) → h'.get? S = some { cls := .type "list", dict := none, data := .seq acc c, slots := #[] } → as.length = min xs.size ys.size → LzG xs ys S h' as →
      acc.toList = as.map Value.ref → R (.ok (.ret res)) { s with heap := h', toks := tk }) (hn : min xs.size ys.size ≤ sizeLine) :
    wpAny (model prog w) A.in1 (Builtin.List.listExtendWith (.ref S) (.ref z) res)
      (fun fin s' => match fin with | .done f => R (.ok f) s' | .again c' => c'.quiet = true ∧ codeAny (model prog w) A c' R s') (fun e s' => R (.error e) s') s := by
  have hT : s.TypeIs (.ref z) "zip" := ⟨_, h0, rfl⟩
  have key : ∀ (h : Heap) (c₁ tk : Nat), (∀ b o, b ≠ S → s.heap.get? b = some o → h.get? b = some o) →
      h.get? S = some { cls := .type "list", data := .seq #[] c₁ } → codeAny (model prog w) A (.builtin "list.extend.loop" ⟨[.ref S, .ref z, res], []⟩) R { s with heap := h, toks := tk } := by
    intro h c₁ tk hk hS₁
    exact lz_loop (s := s) (h₁ := s.heap) hh D off low hn res hR (min xs.size ys.size) 0 h tk c₁ #[] [] (Nat.sub_zero _) (Nat.zero_le _) (st.keep off hk) (fun b o hb _ _ _ _ e => hk b o hb e) hS₁ rfl rfl
      ⟨List.Pairwise.nil, (fun _ ha => nomatch ha), (fun j a hj => by simp at hj)⟩
  unfold Builtin.List.listExtendWith
  refine wpAny_bind (wpAny_typeOf (T := "zip") hT ?_)
  have h1 : Builtin.List.listSameRef (.ref S) (.ref z) = false := by simp [Builtin.List.listSameRef, Ne.symm off.z]
  have h2 : (Value.type "zip" == Value.type "list") = false := by decide
  have h3 : (Value.type "zip" == Value.type "tuple") = false := by decide
  simp only [h1, h2, h3, Bool.or_false, Bool.false_eq_true, if_false]
  refine wpAny_bind (wpAny_pyIter_zip h0 ?_)
  refine wpAny_bind (wpAny_holding (lz_hint hT ?_))
  refine wpAny_ite_split (fun _ => ?_) (fun _ => wpAny_pure ⟨plainId_quiet PySem.F.plain_extend_loop _, key _ c₀ _ (fun b o _ e => e) hS⟩)
  refine wpAny_bind (wpAny_rule ?_)
  refine wpAny_bind ?_
  show wpAny _ _ (updateSeq S (·.push .none) >>= fun _ => updateSeq S (·.pop)) _ _ _
  refine wpAny_bind (wpAny_updateSeq hS rfl ?_)
  have hS₂ := Heap.get?_update_self (Obj.mapSeq (·.push Value.none)) hS rfl
  refine wpAny_updateSeq (hz := by seq_fits) hS₂ rfl ?_
  have hS₃ := Heap.get?_update_self (Obj.mapSeq (·.pop)) hS₂ rfl
  refine wpAny_pure ⟨plainId_quiet PySem.F.plain_extend_loop _, key _ _ _ (fun b o hb e => ?_) hS₃⟩
  exact (Heap.get?_update_other _ _ (Ne.symm hb)).trans ((Heap.get?_update_other _ _ (Ne.symm hb)).trans e)
/-- list(z), z a zip that was just made -/
theorem lz_call {Q : Value → Shared → Prop} (hh : A.handled = none) (D : ZipApart z TI TO i1 i2 l1 l2) (st : LzSt s.heap z TI TO i1 i2 l1 l2 s.heap.objs.size xs ys 0) (h0 : IsZip s.heap z TI TO .none) (hTO : ∃ a b, IsPair s.heap TO a b) (hn : min xs.size ys.size ≤ sizeLine)
    (hQ : ∀ h' tk acc c as, (∀ b o, b ≠ z → b ≠ TO → b ≠ i1 → b ≠ i2 → s.heap.get? b = some o → h'.get? b = some o) → h'.get? s.heap.objs.size = some { cls := .type "list", dict := none, data := .seq acc c, slots := #[] } → as.length = min xs.size ys.size → LzG xs ys s.heap.objs.size h' as →
      acc.toList = as.map Value.ref → Q (.ref s.heap.objs.size) { s with heap := h', toks := tk }) :
    wpAny (model prog w) A (call (.type "list") [.ref z]) Q E s := by
  have lt : ∀ {c o}, s.heap.get? c = some o → c < s.heap.objs.size := fun e => Heap.lt_size e
  have lz := lt h0
  have lTI := lt st.ti
  have lTO : TO < s.heap.objs.size := let ⟨_, _, e⟩ := hTO; lt e
  have li1 : i1 < s.heap.objs.size := let ⟨_, e, _⟩ := st.h1; lt e
  have li2 : i2 < s.heap.objs.size := let ⟨_, e, _⟩ := st.h2; lt e
  have ll1 : l1 < s.heap.objs.size := let ⟨_, e, _⟩ := st.l1; lt e
  have ll2 : l2 < s.heap.objs.size := let ⟨_, e, _⟩ := st.l2; lt e
  have off : LzOff z TI TO i1 i2 l1 l2 s.heap.objs.size := ⟨Nat.ne_of_lt lz, Nat.ne_of_lt lTI, Nat.ne_of_lt lTO, Nat.ne_of_lt li1, Nat.ne_of_lt li2, Nat.ne_of_lt ll1, Nat.ne_of_lt ll2⟩
  refine callType_codes (Q₁ := fun obj s₁ => obj = .ref s.heap.objs.size ∧ s₁ = { s with heap := s.heap.push { cls := .type "list", data := .seq #[] } }) PySem.F.called_list (PySem.F.typeCall_list_1 _) PySem.F.entry_list_init
    (code_list_new _ ⟨rfl, rfl⟩) fun obj s₁ h₁ => ?_
  obtain ⟨rfl, rfl⟩ := h₁
  have hS : (s.heap.push { cls := .type "list", data := .seq #[] }).get? s.heap.objs.size = some { cls := .type "list", data := .seq #[] } := Heap.get?_push_size _ rfl
  refine ⟨⟨_, hS, rfl⟩, PySem.F.args_list_init_2 _ _, ?_⟩
  show wpAny _ _ (do let old ← Builtin.List.listItems (.ref s.heap.objs.size); Builtin.List.listUpdate (.ref s.heap.objs.size) (fun _ => #[]); letGo old.toList.reverse; Builtin.List.listExtendWith (.ref s.heap.objs.size) (.ref z) .none) _ _ _
  refine wpAny_bind ?_
  unfold Builtin.List.listItems
  refine wpAny_bind (wpAny_seqItems hS rfl (wpAny_pure ?_))
  show wpAny _ _ (updateSeq s.heap.objs.size (fun _ => #[]) >>= fun _ => letGo (#[] : Array Value).toList.reverse >>= fun _ => Builtin.List.listExtendWith (.ref s.heap.objs.size) (.ref z) .none) _ _ _
  refine wpAny_bind (wpAny_updateSeq hS rfl ?_)
  have hS₂ := Heap.get?_update_self (Obj.mapSeq (fun _ => (#[] : Array Value))) hS rfl
  have oth : ∀ b o, b ≠ s.heap.objs.size → s.heap.get? b = some o → ((s.heap.push { cls := .type "list", data := .seq #[] }).update s.heap.objs.size (Obj.mapSeq (fun _ => (#[] : Array Value)))).get? b = some o :=
    fun b o hb e => (Heap.get?_update_other _ _ (Ne.symm hb)).trans (Heap.get?_push_of_some _ e)
  refine wpAny_bind (wpAny_letGo ?_)
  refine lz_extend (prog := prog) (w := w) (A := A.in1) (R := wants (fun r s₂ => r = Value.none ∧ Q (.ref s.heap.objs.size) s₂) E) (s := { s with heap := (s.heap.push { cls := .type "list", data := .seq #[] }).update s.heap.objs.size (Obj.mapSeq (fun _ => (#[] : Array Value))) }) hh D off ⟨lz, lTO, li1, li2⟩ (st.keep off oth) (oth _ _ off.z h0) .none _ hS₂ (fun h' tk acc c as hk hS' hl hG hacc => ?_) hn
  exact ⟨rfl, hQ h' tk acc c as (fun b o h1 h2 h3 h4 e => hk b o (Nat.ne_of_lt (Heap.lt_size e)) h1 h2 h3 h4 (oth b o (Nat.ne_of_lt (Heap.lt_size e)) e)) hS' hl hG hacc⟩
end
end PySem.W
/-! text BkZ2 -/
set_option Elab.async false
set_option linter.all false
set_option maxRecDepth 100000
set_option maxHeartbeats 4000000
set_option autoImplicit false
/-! BkZ2: list(zip(xs, ys)) over the abstract heap. -/
namespace L2
open PySem PySem.Spec PyProof.Rows
abbrev Pr : Type := Addr × V × V
def putP : Hp → List Pr → Hp
  | H, [] => H
  | H, p :: r => putP (upd H p.1 (.tup [p.2.1, p.2.2])) r
def lzH (H : Hp) (S : Addr) (ps : List Pr) : Hp := upd (putP H ps) S (.lst (ps.map fun p => V.ref p.1))
theorem putP_off : ∀ {ps : List Pr} {H : Hp} {b : Addr}, (∀ p ∈ ps, p.1 ≠ b) → putP H ps b = H b
  | [], _, _, _ => rfl
  | p :: r, H, b, h => by
    unfold putP
    rw [putP_off fun q hq => h q (List.mem_cons_of_mem _ hq), upd_ne (Ne.symm (h p List.mem_cons_self))]
section
variable {X : Cx} {pins : List (Addr × Obj)} {σ : St} {H : Hp} {s : Shared}
theorem Inv.trackP (lo : Addr) (hlo : X.s_0.heap.objs.size ≤ lo) (hL : X.env.locals < lo) (hp : ∀ p ∈ X.pn ++ pins, p.1 < lo) :
    ∀ (ps : List Pr) (H : Hp), Inv X pins σ H s → (∀ p ∈ ps, lo ≤ p.1 ∧ H p.1 = none ∧ ∃ u v, RelV p.2.1 u ∧ RelV p.2.2 v ∧ s.heap.get? p.1 = some { cls := .type "tuple", data := .seq #[u, v] }) → (ps.map (·.1)).Nodup → Inv X pins σ (putP H ps) s
  | [], H, I, _, _ => I
  | p :: r, H, I, h, nd => by
    obtain ⟨h1, h2, u, v, ru, rv, ho⟩ := h p List.mem_cons_self
    rw [List.map_cons, List.nodup_cons] at nd
    have h0 : X.s_0.heap.get? p.1 = none := by
      cases e : X.s_0.heap.get? p.1 with
      | none => rfl
      | some o => exact absurd (Heap.lt_size e) (Nat.not_lt.mpr (Nat.le_trans hlo h1))
    have I2 := I.track (o := .tup [p.2.1, p.2.2]) ho (fun w z => by cases z) h0 (Nat.ne_of_gt (Nat.lt_of_lt_of_le hL h1)) h2 (fun q hq => Nat.ne_of_lt (Nat.lt_of_lt_of_le (hp q hq) h1))
      ⟨by show 2 ≤ sizeLine; rw [sizeLine_eq]; decide, [u, v], .cons ru (.cons rv .nil), ⟨_, ho, rfl, _, rfl⟩⟩
    refine Inv.trackP lo hlo hL hp r _ I2 (fun q hq => ?_) nd.2
    obtain ⟨a1, a2, a3⟩ := h q (List.mem_cons_of_mem _ hq)
    have hne : q.1 ≠ p.1 := fun z => nd.1 (by rw [← z]; exact List.mem_map_of_mem hq)
    exact ⟨a1, by rw [upd_ne hne]; exact a2, a3⟩
theorem vals_ix {vs : List V} {us : List Value} (h : Vals vs us) {j : Nat} {u : Value} (e : us[j]? = some u) : ∃ v, vs[j]? = some v ∧ RelV v u := by
  induction h generalizing j with
  | nil => simp at e
  | cons r t ih =>
    cases j with
    | zero => simp at e; subst e; exact ⟨_, rfl, r⟩
    | succ j => simpa using ih (by simpa using e)
/-- list(zip(e1, e2)), both lists -/
theorem pe_lzip {e1 e2 : Expr} {ta : TA} {p p2 pos pos2 : Pos} (hc : X.calm = true) (hg : Gl X "list") (hm : X.mg "list" = none) (hg2 : Gl X "zip") (hm2 : X.mg "zip" = none) (ha : PA X [e1, e2] ta)
    (hs0 : starEach [.Call (.Name "zip" p2) [e1, e2] [] pos2] X.env = (false, eval (.Call (.Name "zip" p2) [e1, e2] [] pos2) X.env) :: starEach [] X.env := by rfl)
    (hs : starEach [e1, e2] X.env = (false, eval e1 X.env) :: starEach [e2] X.env := by rfl) (hpl : (backTo pos2 (starEach [e2] X.env)).any (·.1) = false := by rfl) :
    PE X (.Call (.Name "list" p) [.Call (.Name "zip" p2) [e1, e2] [] pos2] [] pos) (fun σ H Q => ta σ H fun vs H1 => ∃ a b xs ys, vs = [.ref a, .ref b] ∧ SqL X.K H1 a xs ∧ SqL X.K H1 b ys ∧
      ∀ (S : Addr) (ps : List Pr), ps.map (fun q => (q.2.1, q.2.2)) = xs.zip ys → (ps.map (·.1)).Nodup → S ∉ ps.map (·.1) → H1 S = none → (∀ q ∈ ps, H1 q.1 = none) → Q (.ref S) (lzH H1 S ps)) := by
  refine ⟨fun pins s σ H Q I h => ?_⟩
  refine wpAny_Call_Name_kw (ld_blt I hg hm PyProof.Rows.boot_list ?_)
  refine PyProof.Rows.callWith_type1 ?_ hs0 rfl
  rw [hs0]
  show wpAny _ _ (spliced ((false, eval (.Call (.Name "zip" p2) [e1, e2] [] pos2) X.env) :: backTo pos (starEach [] X.env))) _ _ s
  refine Calls.spliced_cons ?_
  refine wpAny_Call_Name_kw (ld_blt I hg2 hm2 PyProof.Rows.boot_zip ?_)
  refine PyProof.Rows.callWith_type1 (thn (ha.run pos2 pins s σ H _ I h) fun us s1 ⟨vs, H1, I1, r1, q1⟩ => ?_) hs hpl
  obtain ⟨a, b, xs, ys, ex, hx, hy, q⟩ := q1
  subst ex
  cases r1 with
  | cons r rr =>
    cases rr with
    | cons r' rr =>
      cases rr
      cases r
      cases r'
      obtain ⟨its, rv, p1, z1⟩ := I1.list hx
      obtain ⟨its2, rv2, p2', z2⟩ := I1.list hy
      refine call_zip_2 (xs := its.toArray) (ys := its2.toArray) p1.isList p2'.isList fun h' hz hTI hTO h1 h2 hsz hk => ?_
      refine Calls.spliced_nil ?_
      have lta : a < s1.heap.objs.size := let ⟨_, e, _⟩ := p1.isList; Heap.lt_size e
      have ltb : b < s1.heap.objs.size := let ⟨_, e, _⟩ := p2'.isList; Heap.lt_size e
      have D : ZipApart (s1.heap.objs.size + 4) (s1.heap.objs.size + 2) (s1.heap.objs.size + 3) s1.heap.objs.size (s1.heap.objs.size + 1) a b := by
        have lta' : (a : Nat) < s1.heap.objs.size := lta
        have ltb' : (b : Nat) < s1.heap.objs.size := ltb
        generalize s1.heap.objs.size = n at lta' ltb'
        revert lta' ltb'
        show (a : Nat) < n → (b : Nat) < n → _
        intro lta' ltb'
        have g : ∀ i : Nat, a ≠ n + i := fun i => Nat.ne_of_lt (Nat.lt_of_lt_of_le lta' (Nat.le_add_right _ _))
        have g' : ∀ i : Nat, b ≠ n + i := fun i => Nat.ne_of_lt (Nat.lt_of_lt_of_le ltb' (Nat.le_add_right _ _))
        have f : ∀ i j : Nat, i ≠ j → (n + i : Nat) ≠ n + j := fun i j h z => h (Nat.add_left_cancel z)
        exact ⟨f 2 4 (by decide), f 3 4 (by decide), f 0 4 (by decide), f 1 4 (by decide), f 2 3 (by decide), f 2 0 (by decide), f 2 1 (by decide), f 3 0 (by decide), f 3 1 (by decide), f 0 1 (by decide), g 4, g 3, g 0, g 1, g' 4, g' 3, g' 0, g' 1⟩
      have hl1 : h'.IsList a its.toArray := p1.isList.at fun o e => hk _ o e
      have hl2 : h'.IsList b its2.toArray := p2'.isList.at fun o e => hk _ o e
      have hmin : min its.toArray.size its2.toArray.size ≤ sizeLine := Nat.le_trans (Nat.min_le_left _ _) (by rw [List.size_toArray]; have := rv.length; omega)
      refine PySem.W.lz_call (s := { s1 with heap := h' }) (I.ok.hd hc) D ⟨hTI, h1, h2, hl1, hl2, .inl ⟨hz, _, _, hTO⟩⟩ hz ⟨_, _, hTO⟩ hmin fun h2 tk acc c as hkeep hS hlen hG hacc => ?_
      have n0 : s1.heap.objs.size ≤ h'.objs.size := by rw [hsz]; exact Nat.le_add_right _ _
      have kept : ∀ b o, s1.heap.get? b = some o → h2.get? b = some o := fun c o e => by
        have lc := Heap.lt_size e
        have g : ∀ i : Nat, c ≠ s1.heap.objs.size + i := fun i => Nat.ne_of_lt (Nat.lt_of_lt_of_le lc (Nat.le_add_right _ _))
        exact hkeep c o (g 4) (g 3) (g 0) (g 1) (hk c o e)
      have I2 : Inv X pins σ H1 { s1 with heap := h2, toks := tk } := I1.kept kept
      have hlen' : as.length = (xs.zip ys).length := by rw [hlen, List.length_zip, List.size_toArray, List.size_toArray, rv.length, rv2.length]
      have m1 : (as.zip (xs.zip ys)).map (fun q => q.1) = as := by
        have := List.map_fst_zip (l₁ := as) (l₂ := xs.zip ys) (Nat.le_of_eq hlen')
        exact this
      have m2 : (as.zip (xs.zip ys)).map (fun q => (q.2.1, q.2.2)) = xs.zip ys := by
        have := List.map_snd_zip (l₁ := as) (l₂ := xs.zip ys) (Nat.le_of_eq hlen'.symm)
        exact this
      have nd : as.Nodup := hG.rise.imp fun h => Nat.ne_of_lt h
      have low : s1.heap.objs.size ≤ h'.objs.size := n0
      have lo0 : X.s_0.heap.objs.size ≤ h'.objs.size := Nat.le_trans (Nat.le_trans I1.ok.above (Nat.le_of_lt I1.lt)) n0
      have loL : X.env.locals < h'.objs.size := Nat.lt_of_lt_of_le I1.lt n0
      have lop : ∀ q ∈ X.pn ++ pins, q.1 < h'.objs.size := fun q hq => Nat.lt_of_lt_of_le (Heap.lt_size (I1.pin q hq).1) n0
      have each : ∀ q ∈ as.zip (xs.zip ys), h'.objs.size < q.1 ∧ ∃ u v, RelV q.2.1 u ∧ RelV q.2.2 v ∧ h2.get? q.1 = some { cls := .type "tuple", data := .seq #[u, v] } := fun q hq => by
        obtain ⟨j, hj⟩ := List.mem_iff_getElem?.mp hq
        obtain ⟨j1, j2⟩ := List.getElem?_zip_eq_some.mp hj
        obtain ⟨j3, j4⟩ := List.getElem?_zip_eq_some.mp j2
        obtain ⟨u, v, e1, e2, e3⟩ := hG.pairs j q.1 j1
        obtain ⟨v1, f1, g1⟩ := vals_ix rv (j := j) (u := u) (by simpa using e1)
        obtain ⟨v2, f2, g2⟩ := vals_ix rv2 (j := j) (u := v) (by simpa using e2)
        rw [j3] at f1; cases f1
        rw [j4] at f2; cases f2
        exact ⟨hG.above q.1 (List.mem_of_getElem? j1), u, v, g1, g2, e3⟩
      have fresh : ∀ c : Addr, h'.objs.size ≤ c → H1 c = none := fun c hc => I1.hok.fresh (Nat.le_trans n0 hc)
      have I3 := Inv.trackP h'.objs.size lo0 loL lop (as.zip (xs.zip ys)) H1 I2 (fun q hq => ⟨Nat.le_of_lt (each q hq).1, fresh _ (Nat.le_of_lt (each q hq).1), (each q hq).2⟩) (by rw [show (as.zip (xs.zip ys)).map (·.1) = as from m1]; exact nd)
      have hSo : ∀ q ∈ as.zip (xs.zip ys), q.1 ≠ h'.objs.size := fun q hq => Nat.ne_of_gt (each q hq).1
      have s0 : X.s_0.heap.get? h'.objs.size = none := by
        cases e : X.s_0.heap.get? h'.objs.size with
        | none => rfl
        | some o => exact absurd (Heap.lt_size e) (Nat.not_lt.mpr lo0)
      have I4 := I3.track (o := .lst ((as.zip (xs.zip ys)).map fun q => V.ref q.1)) (s := { s1 with heap := h2, toks := tk }) hS (fun w z => by cases z) s0 (Nat.ne_of_gt loL) (by rw [putP_off hSo]; exact fresh _ (Nat.le_refl _)) (fun q hq => Nat.ne_of_lt (lop q hq)) (by
          refine ⟨?_, acc.toList, c, ?_, ?_⟩
          · rw [List.length_map, List.length_zip, ← hlen', Nat.min_self, hlen]; exact hmin
          · rw [hacc]
            have e : (as.zip (xs.zip ys)).map (fun q => V.ref q.1) = as.map V.ref := by
              have := congrArg (List.map V.ref) m1
              rw [List.map_map] at this
              exact this
            rw [e]
            clear e hacc hG nd each I3 hSo m1 m2 hlen' hlen
            induction as with
            | nil => exact .nil
            | cons d r ih => exact .cons rfl ih
          · rw [Array.toArray_toList]; exact hS)
      exact ⟨.ref h'.objs.size, _, I4, rfl, q h'.objs.size (as.zip (xs.zip ys)) m2 (by rw [show (as.zip (xs.zip ys)).map (·.1) = as from m1]; exact nd) (fun z => by
        rw [show (as.zip (xs.zip ys)).map (·.1) = as from m1] at z
        exact absurd (hG.above _ z) (Nat.lt_irrefl _)) (fresh _ (Nat.le_refl _)) fun q' hq => fresh _ (Nat.le_of_lt (each q' hq).1)⟩
end
end L2
/-! text BkK -/
set_option Elab.async false
set_option linter.all false
set_option maxRecDepth 100000
set_option maxHeartbeats 2000000
set_option autoImplicit false
/-! BkK: raise, try, what is caught; zip, range of three as sources; in. -/
namespace Bk
open PySem PySem.Spec PyProof.Rows L2
section
variable {X : Cx} {G : Gx} {Wx : WX} {k j : Nat}
/-! ### raise -/
def mraise (k : Nat) (ma : MA) : MS := fun env S => (ma env S).fl env fun ws S => match ws with
  | [.dat d] => .exn k d env S
  | _ => .fail
structure Rz (X : Cx) (G : Gx) (x : Str) (c : Nat) : Prop where
  ex : ∃ D fI cc cda, PySem.SupX.Txt X.K X.prog (G.cls c) D fI cc cda
  glo : X.mg x = some (.ref (G.cls c))
  sup : X.mg "super" = none
theorem rs_raise {x : Str} {c : Nat} {a : Expr} {ma : MA} {p pos pos2 : Pos} (z : Rz X G x c) (hr : Room k X.A) (hc : X.calm = true) (tk : Takes X Wx) (hg : Gl X x) (ha : RA X G Wx [a] ma) (hd : (x == ("__debug__" : Str)) = false := by decide)
    (he : starEach (a :: []) X.env = (false, eval a X.env) :: starEach [] X.env := by rfl) (hpl : (backTo pos (starEach [] X.env)).any (·.1) = false := by rfl) :
    RS X G Wx (.Raise (some (.Call (.Name x p) [a] [] pos)) none pos2) (mraise c ma) := by
  obtain ⟨D, fI, cc, cda, T⟩ := z.ex
  refine ⟨(ps_raise hc tk (pmk_value T z.glo z.sup hr ha.pe hg hd he hpl)).imp fun D σ H h => ?_⟩
  obtain ⟨s, S, env, rfl, so, eo, h⟩ := h
  refine ⟨s, S, env, rfl, so, eo, (PostS.bindE h).imp fun vs H1 ⟨t, ws, S1, e, f, so, eo, rv, p⟩ => ?_⟩
  subst e
  split at p
  · rename_i d
    obtain ⟨v, ev, r⟩ := rep1 rv
    refine ⟨v, ev, fun dd hdd => ?_⟩
    have f2 := fr_grow so hdd (.xd [(("value" : Str), v)])
    exact p (t.put dd (.xd [(("value" : Str), v)])) σ _ _ f2 (so.grow hdd _) (eo.mono f2) ⟨rfl, dd, v, rfl, hid_some.mpr ⟨so.notη hdd, upd_same⟩, dl_mono f2.same d v r⟩
  · exact p.elim
/-! ### try -/
theorem EOk.any {s : Sx} {env : Ev} {σ : Sg} (h : EOk G s env σ) (i : Nat) (x : Option V) : EOk G s (env.set i none) (σ.set i x) := by
  refine ⟨by simp [h.len], fun j w e => ?_⟩
  by_cases hj : i = j
  · subst hj
    by_cases hi : i < env.length
    · rw [List.getElem?_set_self hi] at e; cases e
    · rw [List.getElem?_eq_none (by simpa using hi)] at e; cases e
  · rw [List.getElem?_set_ne hj] at e
    obtain ⟨v, e1, r⟩ := h.at_ j w e
    exact ⟨v, by rw [List.getElem?_set_ne hj]; exact e1, r⟩
def mtryK (ks : List Nat) (i j : Nat) (m : MS) : MS := fun env S => match m env S with
  | .exn k d env' S' => if k ∈ ks then .next (((env'.set i none).set j (some (.ref S'.length))).set i none) (S' ++ [.exc k d]) else .fail
  | x => x
/-- an object seen by all comes into the store -/
theorem SOk.put {s : Sx} {S : Sto} {a : Addr} {o : Ob} (so : SOk G s S) (n : a ∉ s.ρ) (nk : a ∉ s.κ) (h : ObAt G s a o) : Fr s ⟨s.η, s.ρ ++ [a], s.κ, s.H⟩ ∧ SOk G ⟨s.η, s.ρ ++ [a], s.κ, s.H⟩ (S ++ [o]) := by
  have f : Fr s ⟨s.η, s.ρ ++ [a], s.κ, s.H⟩ := ⟨fun _ _ h => h, ⟨[a], rfl⟩, rfl, fun _ _ => rfl⟩
  refine ⟨f, ⟨by simp [so.len], ?_, so.tr, fun b hb => ⟨(so.ka b hb).1, fun z => ?_⟩, fun m u b h1 h2 => ?_⟩⟩
  · show (s.ρ ++ [a]).Nodup
    rw [List.nodup_append]
    refine ⟨so.nd, by simp, fun x hx y hy e => ?_⟩
    rw [List.mem_singleton] at hy
    exact n (by rw [← hy, ← e]; exact hx)
  · rcases List.mem_append.mp z with z | z
    · exact (so.ka b hb).2 z
    · exact nk (by rw [← List.mem_singleton.mp z]; exact hb)
  · have h2 : (s.ρ ++ [a])[m]? = some b := h2
    by_cases hm : m < S.length
    · rw [List.getElem?_append_left hm] at h1
      rw [List.getElem?_append_left (by rw [so.len]; exact hm)] at h2
      exact (so.ob m u b h1 h2).mono f (fun z => z) (fun _ => rfl)
    · have e : m = S.length := by
        have := (List.getElem?_eq_some_iff.mp h1).1
        simp at this; omega
      subst e
      rw [List.getElem?_append_right (by rw [so.len]; exact Nat.le_refl _), so.len, Nat.sub_self] at h2
      rw [List.getElem?_append_right (Nat.le_refl _), Nat.sub_self] at h1
      cases h1; cases h2
      exact h.mono f (fun z => z) (fun _ => rfl)
theorem rs_tryK (ks : List Nat) (i j : Nat) {x n y : Str} {c : Value} {body : List Stmt} {m : MS} {np p1 p2 p3 pos pos' : Pos} (hs : X.stack = X.env :: X.outer) (hf : X.env.frame = some X.env.locals) (hex : X.ex = []) (hN : X.N.Nodup) (hc : Names X x c) (hks : ∀ k ∈ ks, PySem.W.exmOne X.K (.ref (G.cls k)) c = some true)
    (hb : ∀ (W : WX) (pn : List (Addr × Obj)) (xe : Value → Shared → Prop), Takes (X.tr pn xe) W → PassesOwn (model X.prog X.w) X.A X.env xe → RSs (X.tr pn xe) G W body m)
    (hi : X.N[i]? = some n := by rfl) (hln : X.env.kindOf n = some .local := by rfl) (hj : X.N[j]? = some y := by rfl) (hy : X.env.scope.names.lookup y = some .local := by rfl)
    (hd1 : (n == ("__debug__" : Str)) = false := by decide) (hd2 : (n == ("__classdict__" : Str)) = false := by decide) (hsw : swapsWith (.Name n p2) (some (.Name y p1)) p3.line X.env = pure false := by rfl) :
    RS X G Wx (.Try body [.ExceptHandler (some (.Name x np)) (some n) [.Assign [.Name y p1] (.Name n p2) p3] pos'] [] [] pos) (mtryK ks i j m) :=
  ⟨(ps_try_keep hs hf hex hN hi hln hj hy hc hd1 hd2 hsw fun W pn xe tk po => (hb W pn xe tk po).ps).imp fun D σ H h => by
  obtain ⟨s, S, env, rfl, so, eo, h⟩ := h
  refine ⟨s, S, env, rfl, so, eo, ?_⟩
  unfold mtryK at h
  cases q : m env S with
  | next env' S' => rw [q] at h; exact h
  | ret r S' => rw [q] at h; exact h
  | fail => rw [q] at h; exact h
  | exn k d env' S' =>
    rw [q] at h
    simp only at h
    split at h
    · rename_i hk
      intro t σ' cls dd f st et ex
      obtain ⟨ec, da, v, ed, hv, dl⟩ := ex
      subst ec; subst ed
      refine ⟨hks k hk, fun a ha => ?_⟩
      have f2 := fr_grow st ha (exk a (.ref (G.cls k)) (some da))
      have s2 := st.grow ha (exk a (.ref (G.cls k)) (some da))
      have oa : ObAt G (t.put a (exk a (.ref (G.cls k)) (some da))) a (.exc k d) := ⟨da, v, hid_some.mpr ⟨st.notη ha, upd_same⟩, f2.same _ _ hv, dl_mono f2.same d v dl⟩
      obtain ⟨f3, s3⟩ := s2.put (st.notρ ha) (st.notκ ha) oa
      refine h _ _ (f.trans (f2.trans f3)) s3 ?_
      have e3 := (et.mono (f2.trans f3)).any i (some (.ref a))
      refine (e3.set (w := .ref S'.length) ⟨a, ?_, rfl⟩ j).any i none
      show (t.ρ ++ [a])[S'.length]? = some a
      rw [List.getElem?_append_right (by rw [st.len]; exact Nat.le_refl _), st.len, Nat.sub_self]; rfl
    · exact h.elim⟩
/-! ### what was caught -/
structure Xc (X : Cx) (G : Gx) (c : Nat) : Prop where
  ga : PySem.W.findIn X.K (.ref (G.cls c)) "__getattribute__" = some (some (.builtin "BaseException.__getattribute__"))
  gg : PySem.W.findIn X.K (.ref (G.cls c)) "__getattr__" = some none
  ex : PySem.W.subIn X.K (.ref (G.cls c)) (.type "BaseException") = some true
  hd : PySem.W.hasDictIn X.K (G.cls c) = true
  no : PySem.W.findIn X.K (.ref (G.cls c)) "value" = some none
def mexval (ks : List Nat) (m : MW) : MW := fun env S => (m env S).bind fun w S => match w with
  | .ref n => match S[n]? with
    | some (.exc k d) => if k ∈ ks then .ok (.dat d) S else .fail
    | _ => .fail
  | _ => .fail
theorem exk_at {P : Program} {w : World} {H : Hp} {h : Heap} {a : Addr} {cls : Value} {d : Option Addr} (hok : HOk P w H h) (e : H a = some (exk a cls d)) : ∃ (oe : Obj) (vs : Array Value), h.get? a = some oe ∧ oe.cls = cls ∧ oe.dict = d ∧ oe.data = .fields vs := by
  have x : ObjOk P w H h a (.ext fun h => ∃ (oe : Obj) (vs : Array Value), h.get? a = some oe ∧ oe.cls = cls ∧ oe.dict = d ∧ oe.data = .fields vs) := hok a _ e
  exact x.1
theorem pe_exval {e : Expr} {te : TE} {pos : Pos} (he : PE X e te) (hb : attributeBase e "value" X.env (eval e X.env) = eval e X.env) :
    PE X (.Attribute e "value" pos) (fun σ H Q => te σ H fun x H1 => ∃ (a dd : Addr) (c : Nat) (v : V), x = .ref a ∧ Xc X G c ∧ H1 a = some (exk a (.ref (G.cls c)) (some dd)) ∧ H1 dd = some (.xd [(("value" : Str), v)]) ∧ Q v H1) := by
  refine ⟨fun pins s σ H Q I h => ?_⟩
  refine attr_of hb (thn (he.run pins s σ H _ I h) fun u s1 hh => ?_)
  obtain ⟨x, H1, I1, rx, a, dd, c, v, ex, T, ea, ed, q⟩ := hh
  subst ex
  obtain rfl : u = Value.ref a := rx
  obtain ⟨oe, vs, ha, hcl, hdi, hdt⟩ := exk_at I1.hok ea
  have hx : ObjOk X.prog X.w H1 s1.heap dd (.xd [(("value" : Str), v)]) := I1.hok dd _ ed
  obtain ⟨mA, hns, hr⟩ := hx
  obtain ⟨od, ho, hl⟩ := lookIn_ns hns
  have l : List.lookup ("value" : Str) [(("value" : Str), v)] = some v := by simp [List.lookup]
  obtain ⟨u, hu, ru⟩ := RelO.some_of (v := v) (o := mA "value") (by rw [← l]; exact hr "value")
  have J : PySem.W.InstAt s1.heap a oe (G.cls c) (some od) := ⟨ha, hcl, by unfold PySem.W.notCls; rw [hdt] <;> rfl, by rw [hdi]; exact ho⟩
  exact HandSPX.exc_get I1.kIn J T.ga T.gg T.ex (PySem.W.findObj_own T.hd T.no rfl (by rw [hl, hu])) (handed_of ru) ⟨v, H1, I1.tok _, ru, q⟩
theorem rw_exval (ks : List Nat) {e : Expr} {m : MW} {pos : Pos} (hx : ∀ c ∈ ks, Xc X G c) (he : RW X G Wx e m) (hb : attributeBase e "value" X.env (eval e X.env) = eval e X.env := by rfl) : RW X G Wx (.Attribute e "value" pos) (mexval ks m) :=
  ⟨(pe_exval (G := G) he.pe hb).imp fun σ H Q h => by
  obtain ⟨s, S, env, rfl, so, eo, h⟩ := h
  refine ⟨s, S, env, rfl, so, eo, (Post.bind h).imp fun v H1 ⟨t, w, S1, e, f, so, eo, rv, p⟩ => ?_⟩
  subst e
  split at p
  · rename_i n
    split at p
    · rename_i c d hn
      split at p
      · rename_i hc
        obtain ⟨a, ha, ev⟩ := rv
        obtain ⟨dd, u, h1, h2, h3⟩ := so.ob n _ a hn ha
        exact ⟨a, dd, c, u, ev, hx c hc, vis_all _ _ h1, vis_all _ _ h2, p t u (Fr.refl t) so eo h3⟩
      · exact p.elim
    · exact p.elim
  · exact p.elim⟩
end
end Bk
/-! text BkL -/
set_option Elab.async false
set_option linter.all false
set_option maxRecDepth 100000
set_option maxHeartbeats 2000000
set_option autoImplicit false
/-! BkL: isinstance with own classes of what was caught; zip, range of three as sources; in. -/
namespace Bk
open PySem PySem.Spec PyProof.Rows L2
section
variable {X : Cx} {G : Gx} {Wx : WX} {k j : Nat}
structure Xi (X : Cx) (G : Gx) (c : Nat) : Prop extends Xc X G c where
  cl : (PySem.W.clsIn X.K (G.cls c)).isSome = true
  ha : PySem.W.findIn X.K (.ref (G.cls c)) "__class__" = some (some (.builtin "object.__class__"))
  hn : PySem.W.specialIn X.K (.builtin "object.__class__") "__get__" = some (some (.builtin "getset_descriptor.__get__"))
  ht : PySem.W.takesIn X.K (.builtin "object.__class__") = some true
  hm : PySem.W.mroIn X.K (G.cls c) (.type "object") = some true
theorem call_isX {C : Addr} : CallR X (.builtin "isinstance") (fun xs H Q => ∃ (a dd : Addr) (k : Nat) (fs : List (Str × V)) (b : Bool), xs = [.ref a, .ref C] ∧ H a = some (exk a (.ref (G.cls k)) (some dd)) ∧ H dd = some (.xd fs) ∧ Xi X G k ∧ PySem.W.kitOne X.K (.ref (G.cls k)) (.ref C) = some b ∧ Q (.bl b) H) := by
  intro pins s σ H xs us Q I r h
  obtain ⟨a, dd, k, fs, b, rfl, ea, ed, T, e, q⟩ := h
  obtain ⟨u1, u2, rfl, r1, r2⟩ := vals2 r
  cases (show u1 = Value.ref a from r1)
  cases (show u2 = Value.ref C from r2)
  obtain ⟨oe, vs, ha, hcl, hdi, hdt⟩ := exk_at I.hok ea
  have hx : ObjOk X.prog X.w H s.heap dd (.xd fs) := I.hok dd _ ed
  obtain ⟨mA, ⟨od, es, ep, ho, rr⟩, hr⟩ := hx
  have J : PySem.W.InstAt s.heap a oe (G.cls k) (some od) := ⟨ha, hcl, by unfold PySem.W.notCls; rw [hdt] <;> rfl, by rw [hdi]; exact ho⟩
  exact PySem.W.kia_one (PySem.W.kitx_exc T.cl T.ga T.gg T.ex T.ha T.hn T.ht T.hm) I.kIn J e (fun z => nomatch z) fun tk => ⟨.bl b, H, I.kept (t' := tk) fun _ _ z => z, rfl, q⟩
theorem lookup_mem {β : Type} {kk : Nat} {b : β} : ∀ {tb : List (Nat × β)}, tb.lookup kk = some b → (kk, b) ∈ tb
  | [], h => by cases h
  | (q1, q2) :: r, hb => by
    simp only [List.lookup] at hb
    by_cases hq : (kk == q1) = true
    · rw [hq] at hb
      simp only at hb
      cases hb
      rw [eq_of_beq hq]; exact List.mem_cons_self
    · have hq' : (kk == q1) = false := by simpa using hq
      rw [hq'] at hb
      exact List.mem_cons_of_mem _ (lookup_mem hb)
def misc (tb : List (Nat × Bool)) (m : MW) : MW := fun env S => (m env S).bind fun w S => match w with
  | .dat .none => .ok (.dat (.bool false)) S
  | .ref n => match S[n]? with
    | some (.exc k _) => match tb.lookup k with
      | some b => .ok (.dat (.bool b)) S
      | none => .fail
    | _ => .fail
  | _ => .fail
theorem rw_isc (c : Nat) (tb : List (Nat × Bool)) {x : Str} {e : Expr} {m : MW} {p p2 pos : Pos} (hg : Gl X "isinstance") (hm : X.mg "isinstance" = none) (hgx : Gl X x) (hmx : X.mg x = some (.ref (G.cls c))) (hnn : PySem.W.kitOne X.K (.type "NoneType") (.ref (G.cls c)) = some false)
    (htb : ∀ q ∈ tb, Xi X G q.1 ∧ PySem.W.kitOne X.K (.ref (G.cls q.1)) (.ref (G.cls c)) = some q.2) (ha : RW X G Wx e m) (hdb : (x == ("__debug__" : Str)) = false := by decide)
    (h1 : starEach [e, .Name x p2] X.env = (false, eval e X.env) :: starEach [.Name x p2] X.env := by rfl) : RW X G Wx (.Call (.Name "isinstance" p) [e, .Name x p2] [] pos) (misc tb m) :=
  ⟨(pe_callB (CallR.or call_isi (call_isX (G := G) (C := G.cls c))) hg hm PyProof.Rows.boot_isinstance (pa_cons ha.pe (pa_cons (pe_glob hgx hmx (v := .ref (G.cls c)) rfl hdb) pa_nil) h1) (by decide) (by decide) h1 rfl).imp fun σ H Q h => by
  obtain ⟨s, S, env, rfl, so, eo, h⟩ := h
  refine ⟨s, S, env, rfl, so, eo, (Post.bind h).imp fun v H1 ⟨t, w, S1, e, f, so, eo, rv, p⟩ => ?_⟩
  subst e
  split at p
  · cases rv
    exact .inl ⟨.non, .ref (G.cls c), .type "NoneType", .ref (G.cls c), false, rfl, .own _, .base .non, hnn, p t _ (Fr.refl t) so eo (.bl _)⟩
  · rename_i n
    split at p
    · rename_i kk d hn
      split at p
      · rename_i b hb
        obtain ⟨a, ha, ev⟩ := rv
        obtain ⟨dd, u, h1, h2, h3⟩ := so.ob n _ a hn ha
        have hm : (kk, b) ∈ tb := lookup_mem hb
        obtain ⟨T, e⟩ := htb _ hm
        exact .inr ⟨a, dd, kk, _, b, by rw [ev], vis_all _ _ h1, vis_all _ _ h2, T, e, p t _ (Fr.refl t) so eo (.bl _)⟩
      · exact p.elim
    · exact p.elim
  · exact p.elim⟩
/-! ### in -/
def flD : PyData → Option V
  | .none => some .non
  | .bool b => some (.bl b)
  | .int i => some (.int i)
  | .str x => some (.str x)
  | _ => none
def flV : Vl → Option V
  | .dat d => flD d
  | _ => none
def flVs : List Vl → Option (List V)
  | [] => some []
  | w :: r => match flV w, flVs r with
    | some v, some vs => some (v :: vs)
    | _, _ => none
theorem flV_ok {s : Sx} {v u : V} : ∀ {w : Vl}, RepV G s v w → flV w = some u → v = u ∧ flatV u = true
  | .dat .none, h, e => by cases h; cases e; exact ⟨rfl, rfl⟩
  | .dat (.bool _), h, e => by cases h; cases e; exact ⟨rfl, rfl⟩
  | .dat (.int _), h, e => by cases h; cases e; exact ⟨rfl, rfl⟩
  | .dat (.str _), h, e => by cases h; cases e; exact ⟨rfl, rfl⟩
  | .dat (.list _), _, e => by cases e
  | .dat (.tuple _), _, e => by cases e
  | .dat (.dict _), _, e => by cases e
  | .ref _, _, e => by cases e
  | .fn _, _, e => by cases e
  | .ro _, _, e => by cases e
theorem flVs_ok {s : Sx} : ∀ {ws : List Vl} {vs us : List V}, RepVs G s vs ws → flVs ws = some us → vs = us ∧ us.all flatV = true
  | [], _, _, h, e => by cases h; cases e; exact ⟨rfl, rfl⟩
  | w :: r, _, us, h, e => by
    cases h with
    | cons h1 h2 =>
      simp only [flVs] at e
      split at e
      · rename_i v vs e1 e2
        cases e
        obtain ⟨a1, a2⟩ := flV_ok h1 e1
        obtain ⟨b1, b2⟩ := flVs_ok h2 e2
        subst a1; subst b1
        exact ⟨rfl, by rw [List.all_cons, a2, b2]; rfl⟩
      · cases e
def inV (neg : Bool) : Op2 := fun a b S => match flV a, (itemsOf S b).bind flVs with
  | some x, some xs => some (.val (.dat (.bool (L2.inV x xs != neg))), S)
  | _, _ => none
theorem rel_in (neg : Bool) : RelOp2 G (rIn G.K neg) (inV neg) := by
  intro s S x y a b res S' so ra rb e Q q
  unfold inV at e
  split at e
  · rename_i u us e1 e2
    cases e
    obtain ⟨rfl, fx⟩ := flV_ok ra e1
    cases h : itemsOf S b with
    | none => rw [h] at e2; cases e2
    | some ws =>
      rw [h] at e2
      obtain ⟨p, vs, ev, hq, rv⟩ := itemsOf_ok so rb h
      obtain ⟨rfl, fxs⟩ := flVs_ok rv e2
      refine ⟨p, vs, ev, hq, fx, fxs, ?_⟩
      have e3 : (if neg = true then !L2.inV x vs else L2.inV x vs) = (L2.inV x vs != neg) := by cases neg <;> simp
      rw [e3]
      exact q s _ (Fr.refl s) so (.bl _)
  · cases e
theorem cm_in (hK : G.K = X.K := by rfl) : Cm X G .In (inV false) := ⟨_, op_in_seq, hK ▸ rel_in false⟩
theorem cm_notIn (hK : G.K = X.K := by rfl) : Cm X G .NotIn (inV true) := ⟨_, op_notIn_seq, hK ▸ rel_in true⟩
/-! ### zip, range of three -/
/-- items of a list, of a tuple that stay as they are -/
def lsD : Vl → Option (List PyData)
  | .dat (.list ds) => some ds
  | .ro ds => some ds
  | _ => none
def tsD : Vl → Option (List PyData)
  | .dat (.tuple ds) => some ds
  | _ => none
theorem lsD_ok {s : Sx} {v : V} : ∀ {w : Vl} {ds : List PyData}, RepV G s v w → lsD w = some ds → ∃ a vs, v = .ref a ∧ SqL G.K s.vis a vs ∧ DlAll G.K s.vis vs ds
  | .dat (.list ds), _, r, e => by
    cases e
    cases r with
    | lst h1 h2 => exact ⟨_, _, rfl, .inl (.inl h1), h2⟩
  | .ro ds, _, ⟨a, ns, ev, h1, h2⟩, e => by
    cases e
    exact ⟨a, ns, ev, h1, h2⟩
  | .dat .none, _, _, e => by cases e
  | .dat (.bool _), _, _, e => by cases e
  | .dat (.int _), _, _, e => by cases e
  | .dat (.str _), _, _, e => by cases e
  | .dat (.tuple _), _, _, e => by cases e
  | .dat (.dict _), _, _, e => by cases e
  | .fn _, _, _, e => by cases e
  | .ref _, _, _, e => by cases e
theorem tsD_ok {s : Sx} {v : V} : ∀ {w : Vl} {ds : List PyData}, RepV G s v w → tsD w = some ds → ∃ a vs, v = .ref a ∧ SqT G.K s.vis a vs ∧ DlAll G.K s.vis vs ds
  | .dat (.tuple ds), _, r, e => by
    cases e
    cases r with
    | tup h1 h2 => exact ⟨_, _, rfl, h1, h2⟩
  | .dat .none, _, _, e => by cases e
  | .dat (.bool _), _, _, e => by cases e
  | .dat (.int _), _, _, e => by cases e
  | .dat (.str _), _, _, e => by cases e
  | .dat (.list _), _, _, e => by cases e
  | .dat (.dict _), _, _, e => by cases e
  | .fn _, _, _, e => by cases e
  | .ref _, _, _, e => by cases e
  | .ro _, _, _, e => by cases e
def zipD (xs ys : List PyData) : List PyData := List.zipWith (fun x y => .tuple [x, y]) xs ys
theorem dlAll_get {K : PySem.W.Frag} {H : Hp} {vs : List V} {ds : List PyData} {i : Nat} {d : PyData} (h : DlAll K H vs ds) (e : ds[i]? = some d) : ∃ v, vs[i]? = some v ∧ Dl K H v d := by
  induction ds generalizing vs i with
  | nil => simp at e
  | cons x xs ih =>
    cases h with
    | cons h1 h2 =>
      cases i with
      | zero => simp at e; subst e; exact ⟨_, rfl, h1⟩
      | succ i => simpa using ih h2 (by simpa using e)
theorem zipD_get {xs ys : List PyData} {i : Nat} {d : PyData} (h : (zipD xs ys)[i]? = some d) : ∃ x y, xs[i]? = some x ∧ ys[i]? = some y ∧ d = .tuple [x, y] := by
  unfold zipD at h
  rw [List.getElem?_zipWith] at h
  split at h
  · rename_i x y e1 e2
    cases h
    exact ⟨x, y, e1, e2, rfl⟩
  · cases h
theorem zipD_len {xs ys : List PyData} {i : Nat} (h : (zipD xs ys).length ≤ i) : xs.length ≤ i ∨ ys.length ≤ i := by
  unfold zipD at h
  rw [List.length_zipWith] at h
  omega
theorem src_zipT {s : Sx} {a b : Addr} {vs us : List V} {xs ys : List PyData} (h : SqT G.K s.vis a vs) (h' : SqT G.K s.vis b us) (r : DlAll G.K s.vis vs xs) (r' : DlAll G.K s.vis us ys) : SrcOk G s (RZ.ItzT G.K a b) (.st ((zipD xs ys).map .dat)) := by
  intro i u S f so
  have hu : SqT G.K u.H a vs := seqT_mono vis_all (seqT_mono f.same h)
  have hu' : SqT G.K u.H b us := seqT_mono vis_all (seqT_mono f.same h')
  refine ⟨fun e => ⟨vs, us, hu, hu', ?_⟩, fun w e => ?_⟩
  · have := of_decide_eq_true e
    rw [List.length_map] at this
    rw [dlAll_len r, dlAll_len r']
    exact zipD_len this
  · have e : ((zipD xs ys).map Vl.dat)[i]? = some w := e
    rw [List.getElem?_map] at e
    cases hd : (zipD xs ys)[i]? with
    | none => rw [hd] at e; cases e
    | some d =>
      rw [hd] at e; cases e
      obtain ⟨x, y, e1, e2, rfl⟩ := zipD_get hd
      obtain ⟨v, g1, d1⟩ := dlAll_get r e1
      obtain ⟨v', g2, d2⟩ := dlAll_get r' e2
      refine ⟨⟨vs, us, v, v', hu, hu', g1, g2⟩, fun z H' yl => ?_⟩
      obtain ⟨T, p, q, rfl, hT, rfl, z1, z2⟩ := yl
      have q1 := z1 vs hu
      have q2 := z2 us hu'
      rw [g1] at q1; rw [g2] at q2
      cases q1; cases q2
      exact ⟨u.put T (.tup [v, v']), rfl, fr_grow so hT _, so.grow hT _, so.newTup hT (.cons (dl_mono f.same _ _ d1) (.cons (dl_mono f.same _ _ d2) .nil))⟩
theorem src_zipL {s : Sx} {a b : Addr} {vs us : List V} {xs ys : List PyData} (h : SqL G.K s.vis a vs) (h' : SqL G.K s.vis b us) (r : DlAll G.K s.vis vs xs) (r' : DlAll G.K s.vis us ys) : SrcOk G s (Itz G.K a b) (.st ((zipD xs ys).map .dat)) := by
  intro i u S f so
  have hu : SqL G.K u.H a vs := seqL_mono vis_all (seqL_mono f.same h)
  have hu' : SqL G.K u.H b us := seqL_mono vis_all (seqL_mono f.same h')
  refine ⟨fun e => ⟨vs, us, hu, hu', ?_⟩, fun w e => ?_⟩
  · have := of_decide_eq_true e
    rw [List.length_map] at this
    rw [dlAll_len r, dlAll_len r']
    exact zipD_len this
  · have e : ((zipD xs ys).map Vl.dat)[i]? = some w := e
    rw [List.getElem?_map] at e
    cases hd : (zipD xs ys)[i]? with
    | none => rw [hd] at e; cases e
    | some d =>
      rw [hd] at e; cases e
      obtain ⟨x, y, e1, e2, rfl⟩ := zipD_get hd
      obtain ⟨v, g1, d1⟩ := dlAll_get r e1
      obtain ⟨v', g2, d2⟩ := dlAll_get r' e2
      refine ⟨⟨vs, us, v, v', hu, hu', g1, g2⟩, fun z H' yl => ?_⟩
      obtain ⟨T, p, q, rfl, hT, rfl, z1, z2⟩ := yl
      have q1 := z1 vs hu
      have q2 := z2 us hu'
      rw [g1] at q1; rw [g2] at q2
      cases q1; cases q2
      exact ⟨u.put T (.tup [v, v']), rfl, fr_grow so hT _, so.grow hT _, so.newTup hT (.cons (dl_mono f.same _ _ d1) (.cons (dl_mono f.same _ _ d2) .nil))⟩
def mzip (m : MA) : MI := fun env S => (m env S).bind fun ws S => match ws with
  | [a, b] => match tsD a, tsD b with
    | some xs, some ys => .ok (.st ((zipD xs ys).map .dat)) S
    | _, _ => match lsD a, lsD b with
      | some xs, some ys => .ok (.st ((zipD xs ys).map .dat)) S
      | _, _ => .fail
  | _ => .fail
theorem ri_zip2 {e e2 : Expr} {m : MA} {p pos tpos : Pos} {elts : List Expr} {kk : Nat} (hg : Gl X "zip") (hm : X.mg "zip" = none) (ha : RA X G Wx [e, e2] m) (hK : G.K = X.K := by rfl)
    (hs : starEach [e, e2] X.env = (false, eval e X.env) :: starEach [e2] X.env := by rfl) (hpl : (backTo pos (starEach [e2] X.env)).any (·.1) = false := by rfl) :
    RI X G Wx (.Tuple elts kk tpos) (.Call (.Name "zip" p) [e, e2] [] pos) (mzip m) := ⟨(RZ.pi_zipA hg hm ha.pe hs hpl).imp fun σ H R h => by
  obtain ⟨s, S, env, rfl, so, eo, h⟩ := h
  refine ⟨s, S, env, rfl, so, eo, (Post.bind h).imp fun vs H1 ⟨t, ws, S1, e, f, so, eo, rv, p⟩ => ?_⟩
  subst e
  split at p
  · rename_i a b
    obtain ⟨x, y, ex, r1, r2⟩ := rep2 rv
    subst ex
    split at p
    · rename_i xs ys h1 h2
      obtain ⟨a1, v1, rfl, q1, d1⟩ := tsD_ok r1 h1
      obtain ⟨a2, v2, rfl, q2, d2⟩ := tsD_ok r2 h2
      refine ⟨a1, a2, v1, v2, rfl, .inr ⟨hK ▸ seqT_mono vis_all q1, hK ▸ seqT_mono vis_all q2, ?_⟩⟩
      rw [← hK]
      exact p t _ (Fr.refl t) so eo (src_zipT q1 q2 d1 d2)
    · split at p
      · rename_i xs ys h1 h2
        obtain ⟨a1, v1, rfl, q1, d1⟩ := lsD_ok r1 h1
        obtain ⟨a2, v2, rfl, q2, d2⟩ := lsD_ok r2 h2
        refine ⟨a1, a2, v1, v2, rfl, .inl ⟨hK ▸ seqL_mono vis_all q1, hK ▸ seqL_mono vis_all q2, ?_⟩⟩
        rw [← hK]
        exact p t _ (Fr.refl t) so eo (src_zipL q1 q2 d1 d2)
      · exact p.elim
  · exact p.elim⟩
end
end Bk
/-! text BkM -/
set_option Elab.async false
set_option linter.all false
set_option maxRecDepth 100000
set_option maxHeartbeats 2000000
set_option autoImplicit false
/-! BkM: what changes in place: lists, instances, dicts; methods, constructors. -/
namespace Bk
open PySem PySem.Spec PyProof.Rows L2
section
variable {X : Cx} {G : Gx} {Wx : WX} {k j : Nat}
def Sx.wr (s : Sx) (a : Addr) (o : HO) : Sx := ⟨s.η, s.ρ, s.κ, upd s.H a o⟩
/-- a hidden object of the store is written -/
theorem SOk.write {s : Sx} {S : Sto} {n : Nat} {a : Addr} {o : HO} {ob : Ob} (so : SOk G s S) (hn : s.ρ[n]? = some a) (ha : a ∈ s.η) (h : ∀ t : Sx, Fr s t → a ∈ t.η → t.H a = some o → ObAt G t a ob) : Fr s (s.wr a o) ∧ SOk G (s.wr a o) (S.set n ob) := by
  have hρ : a ∈ s.ρ := List.mem_of_getElem? hn
  have f : Fr s (s.wr a o) := by
    refine ⟨fun b u hb => ?_, ⟨[], by simp [Sx.wr]⟩, rfl, fun b hb => upd_ne (fun z => (so.ka b hb).2 (by rw [z]; exact hρ))⟩
    obtain ⟨h1, h2⟩ := hid_some.mp hb
    refine hid_some.mpr ⟨h1, ?_⟩
    show upd s.H a o b = some u
    rw [upd_ne (fun z => h1 (by rw [z]; exact ha))]; exact h2
  refine ⟨f, ⟨by simp [so.len, Sx.wr], so.nd, fun b hb => ?_, so.ka, fun m u b h1 h2 => ?_⟩⟩
  · by_cases e : b = a
    · exact ⟨o, by show upd s.H a o b = _; rw [e]; exact upd_same⟩
    · obtain ⟨u, h⟩ := so.tr b hb
      exact ⟨u, by show upd s.H a o b = some u; rw [upd_ne e]; exact h⟩
  · have h2 : s.ρ[m]? = some b := h2
    by_cases e : n = m
    · subst e
      rw [hn] at h2; cases h2
      have hlt : n < S.length := by rw [← so.len]; exact (List.getElem?_eq_some_iff.mp hn).1
      rw [List.getElem?_set_self hlt] at h1
      cases h1
      exact h _ f ha upd_same
    · rw [List.getElem?_set_ne e] at h1
      have hb : b ≠ a := fun z => e (nd_ix so.nd hn (by rw [← z]; exact h2))
      exact (so.ob m u b h1 h2).mono f (fun z => z) (fun _ => upd_ne hb)
/-! ### lists -/
theorem Paired.set' {α β : Type} {F : α → β → Prop} {a : α} {b : β} (r : F a b) : ∀ {xs : List α} {ys : List β} (i : Nat), Paired F xs ys → Paired F (xs.set i a) (ys.set i b)
  | _, _, _, .nil => .nil
  | _, _, 0, .cons _ t => .cons r t
  | _, _, i + 1, .cons h t => .cons h (Paired.set' r i t)
def lstAt (S : Sto) : Vl → Option (Nat × List Vl)
  | .ref n => match S[n]? with
    | some (.lst xs) => some (n, xs)
    | _ => none
  | _ => none
theorem lstAt_ok {s : Sx} {S : Sto} (so : SOk G s S) {v : V} : ∀ {w : Vl} {n : Nat} {xs : List Vl}, RepV G s v w → lstAt S w = some (n, xs) → ∃ a vs, v = .ref a ∧ s.ρ[n]? = some a ∧ a ∈ s.η ∧ s.H a = some (.lst vs) ∧ RepVs G s vs xs
  | .ref m, n, xs, ⟨a, h, e⟩, q => by
    simp only [lstAt] at q
    split at q
    · rename_i ys hy
      cases q
      obtain ⟨hη, vs, hH, rv⟩ := so.ob _ _ a hy h
      exact ⟨a, vs, e, h, hη, hH, rv⟩
    · cases q
  | .dat _, _, _, _, q => by cases q
  | .fn _, _, _, _, q => by cases q
  | .ro _, _, _, _, q => by cases q
def mgsub (mo mi : MW) : MG := fun w env S => match mo env S with
  | .ok x S1 => match mi env S1 with
    | .ok y S2 => match y with
      | .dat (.int k) => match lstAt S2 x with
        | some (n, xs) => match ixN xs.length k with
          | some j => .next env (S2.set n (.lst (xs.set j w)))
          | none => .fail
        | none => .fail
      | _ => .fail
    | _ => .fail
  | _ => .fail
theorem rg_sub {vs : List Nat} {o i : Expr} {mo mi : MW} {pos : Pos} (ho : RW X G W0 o mo) (hi : RW X G W0 i mi)
    (ha : ∀ v, assign (.Subscript o i pos) X.env v = (do
      let ov ← holding [v] (eval o X.env)
      let iv ← holding [v, ov] (eval i X.env)
      standAt pos
      holding [v, ov, iv] (setItem ov iv v)
      release [v, ov, iv] []) := by intro _; rfl) : RG X G vs (.Subscript o i pos) (mgsub mo mi) := ⟨(pg_sub ho.pe hi.pe set_list ha).imp fun v σ H Q h => by
  obtain ⟨s, S, env, w, rfl, so, eo, r, p⟩ := h
  unfold mgsub at p
  cases q1 : mo env S with
  | exn k d S' => simp only [q1] at p; exact p.elim
  | fail => simp only [q1] at p; exact p.elim
  | ok x S1 =>
    simp only [q1] at p
    refine ⟨s, S, env, rfl, so, eo, ?_⟩
    rw [q1]
    intro t1 v1 f1 so1 eo1 r1
    cases q2 : mi env S1 with
    | exn k d S' => simp only [q2] at p; exact p.elim
    | fail => simp only [q2] at p; exact p.elim
    | ok y S2 =>
      refine ⟨t1, S1, env, rfl, so1, eo1, ?_⟩
      rw [q2] at p ⊢
      try simp only at p
      intro t2 v2 f2 so2 eo2 r2
      split at p
      · rename_i k
        split at p
        · rename_i n xs hl
          split at p
          · rename_i jj hj
            cases r2
            obtain ⟨a, us, ev, hρ, hη, hH, rv⟩ := lstAt_ok so2 (r1.mono f2) hl
            refine ⟨a, us, k, jj, ev, rfl, hH, by rw [rv.length]; exact hj, ?_⟩
            have rw' := r.mono (f1.trans f2)
            obtain ⟨f3, so3⟩ := so2.write (o := .lst (us.set jj v)) (ob := .lst (xs.set jj w)) hρ hη fun t f ht hh => ⟨ht, _, hh, Paired.set' (rw'.mono f) jj (rv.mono f)⟩
            exact p (t2.wr a (.lst (us.set jj v))) σ rfl ((f1.trans f2).trans f3) so3 (eo2.mono f3)
          · exact p.elim
        · exact p.elim
      · exact p.elim⟩
/-- methods of lists -/
def mmt (mo : MW) (ma : MA) (f : Vl → List Vl → Sto → Option (Rv × Sto)) : ME := fun env S => (mo env S).bind fun x S => (ma env S).bind fun ws S => lift (f x ws S)
def mmt0 (mo : MW) (f : Vl → List Vl → Sto → Option (Rv × Sto)) : ME := fun env S => (mo env S).bind fun x S => lift (f x [] S)
def RelMt (G : Gx) (r : V → List V → Hp → VK → Prop) (f : Vl → List Vl → Sto → Option (Rv × Sto)) : Prop := ∀ (s : Sx) (S : Sto) (x : V) (w : Vl) (xs : List V) (as : List Vl) (res : Rv) (S' : Sto), SOk G s S → RepV G s x w → RepVs G s xs as → f w as S = some (res, S') → ∀ Q, Aft G s S' res Q → r x xs s.H Q
def isLst (S : Sto) : Vl → Bool
  | .ref n => match S[n]? with
    | some (.lst _) => true
    | _ => false
  | .dat (.list _) => true
  | _ => false
theorem isLst_ok {s : Sx} {S : Sto} (so : SOk G s S) {v : V} {w : Vl} (r : RepV G s v w) (h : isLst S w = true) : tyV G.K "list" v s.H := by
  cases w with
  | ref n =>
    obtain ⟨a, h1, e⟩ := r
    simp only [Bk.isLst] at h
    split at h
    · rename_i ys hy
      obtain ⟨hη, vs, hH, rv⟩ := so.ob _ _ a hy h1
      rw [e]
      exact .inl ⟨rfl, vs, .inl (.inl hH)⟩
    · cases h
  | dat d =>
    cases d with
    | list ds =>
      cases r with
      | lst h1 h2 => exact .inl ⟨rfl, _, .inl (.inl (vis_all _ _ h1))⟩
    | _ => cases h
  | fn _ => cases h
  | ro _ => cases h
def okL (f : Vl → List Vl → Sto → Option (Rv × Sto)) : Vl → List Vl → Sto → Option (Rv × Sto) := f
def mmtL (mo : MW) (ma : MA) (f : Vl → List Vl → Sto → Option (Rv × Sto)) : ME := fun env S => (mo env S).bind fun x S => if isLst S x = true then (ma env S).bind fun ws S => lift (f x ws S) else .fail
theorem mtL_imp {r : V → List V → Hp → VK → Prop} {f : Vl → List Vl → Sto → Option (Rv × Sto)} {mo : MW} {ma : MA} (hr : RelMt G r f) (hK : G.K = X.K) (σ : Sg) (H : Hp) (Q : VK) (h : tE G Wx (mmtL mo ma f) σ H Q) : tBM X.K "list" r (tW G Wx mo) (tA G Wx ma) σ H Q := by
  obtain ⟨s, S, env, rfl, so, eo, h⟩ := h
  refine ⟨s, S, env, rfl, so, eo, (Post.bind h).imp fun v H1 ⟨t, w, S1, e, f1, so, eo, rv, p⟩ => ?_⟩
  subst e
  split at p
  · rename_i hl
    refine ⟨hK ▸ isLst_ok so rv hl, t, S1, env, rfl, so, eo, (Post.bind p).imp fun xs H2 ⟨u, ws, S2, e, f2, so, eo, rvs, p⟩ => ?_⟩
    subst e
    obtain ⟨res, S', e, q⟩ := p.aft eo
    exact hr u S2 v w xs ws res S' so (rv.mono f2) rvs e Q q
  · exact p.elim
def appendM : Vl → List Vl → Sto → Option (Rv × Sto) := fun w as S => match as with
  | [y] => match lstAt S w with
    | some (n, xs) => if xs.length < 1000000 then some (.val (.dat .none), S.set n (.lst (xs ++ [y]))) else none
    | none => none
  | _ => none
theorem rel_append : RelMt G rAppend appendM := by
  intro s S x w xs as res S' so r ra e Q q
  unfold appendM at e
  split at e
  · rename_i y
    obtain ⟨u, eu, ru⟩ := rep1 ra
    split at e
    · rename_i n ys hl
      split at e
      · rename_i hz
        cases e
        obtain ⟨a, us, ev, hρ, hη, hH, rv⟩ := lstAt_ok so r hl
        refine ⟨a, us, u, ev, eu, hH, by rw [rv.length]; exact big_line hz, ?_⟩
        obtain ⟨f3, so3⟩ := so.write (o := .lst (us ++ [u])) (ob := .lst (ys ++ [y])) hρ hη fun t f ht hh => ⟨ht, _, hh, Paired.app (rv.mono f) (.cons (ru.mono f) .nil)⟩
        exact q _ _ f3 so3 .non
      · cases e
    · cases e
  · cases e
theorem re_append {o e : Expr} {mo : MW} {ma : MA} {apos cpos : Pos} (ho : RW X G Wx o mo) (ha : RA X G Wx [e] ma) (hK : G.K = X.K := by rfl) (hbase : attributeBase o "append" X.env (eval o X.env) = eval o X.env := by rfl)
    (hfew : ((backTo cpos (starEach [e] X.env)).all (fun x => !x.1) && (backToKw cpos (keywordEach [] X.env)).all (fun x => x.1.isSome) && decide ([e].length + ([] : List Keyword).length + (if ([] : List Keyword).isEmpty then 0 else 1) < 30)) = true := by rfl)
    (hline : (apos.endLine == cpos.line) = true := by rfl) (hs : starEach [e] X.env = (false, eval e X.env) :: starEach [] X.env := by rfl) (hplain : (backTo cpos (starEach [] X.env)).any (·.1) = false := by rfl) :
    RE X G Wx (.Call (.Attribute o "append" apos) [e] [] cpos) (mmtL mo ma appendM) := ⟨(pe_bm PySem.F.plainAttrs_list PySem.F.slot_list_append PySem.F.type_list_append mt_append ho.pe ha.pe hbase hfew hline hs hplain).imp (mtL_imp rel_append hK)⟩
def popM : Vl → Sto → Option (Rv × Sto) := fun w S => match lstAt S w with
  | some (n, xs) => (xs[xs.length - 1]?).map fun y => (.val y, S.set n (.lst xs.dropLast))
  | none => none
theorem Paired.dropLast' {α β : Type} {F : α → β → Prop} {xs : List α} {ys : List β} (h : Paired F xs ys) : Paired F xs.dropLast ys.dropLast := by
  rw [List.dropLast_eq_take, List.dropLast_eq_take, h.length]
  exact Paired.take' _ h
def mpop0 (mo : MW) : ME := fun env S => (mo env S).bind fun x S => lift (popM x S)
theorem re_pop0 {o : Expr} {mo : MW} {apos cpos : Pos} (ho : RW X G Wx o mo) (hK : G.K = X.K := by rfl) (hbase : attributeBase o "pop" X.env (eval o X.env) = eval o X.env := by rfl) (hline : (apos.endLine == cpos.line) = true := by rfl) :
    RE X G Wx (.Call (.Attribute o "pop" apos) [] [] cpos) (mpop0 mo) := ⟨(pe_bm0 PySem.F.plainAttrs_list PySem.F.slot_list_pop PySem.F.type_list_pop mt_pop ho.pe hbase hline).imp fun σ H Q h => by
  obtain ⟨s, S, env, rfl, so, eo, h⟩ := h
  refine ⟨s, S, env, rfl, so, eo, (Post.bind h).imp fun v H1 ⟨t, w, S1, e, f1, so, eo, rv, p⟩ => ?_⟩
  subst e
  obtain ⟨res, S', e, q⟩ := p.aft eo
  unfold popM at e
  split at e
  · rename_i n xs hl
    cases hy : xs[xs.length - 1]? with
    | none => rw [hy] at e; cases e
    | some y =>
      rw [hy] at e; cases e
      obtain ⟨a, us, ev, hρ, hη, hH, rvs⟩ := lstAt_ok so rv hl
      obtain ⟨u, hu, ru⟩ := Paired.get' rvs hy
      refine ⟨by rw [ev]; exact .inl ⟨rfl, us, .inl (.inl hH)⟩, a, us, u, ev, rfl, hH, by rw [rvs.length]; exact hu, ?_⟩
      obtain ⟨f3, so3⟩ := so.write (o := .lst us.dropLast) (ob := .lst xs.dropLast) hρ hη fun t f ht hh => ⟨ht, _, hh, Paired.dropLast' (rvs.mono f)⟩
      exact q _ _ f3 so3 (ru.mono f3)
  · cases e⟩
/-- xs.index(y): the first place, flat items -/
def indexM : Vl → List Vl → Sto → Option (Rv × Sto) := fun w as S => match as with
  | [y] => match flV y, (lsOf S w).bind flVs with
    | some v, some vs => (vs.findIdx? fun z => eqV z v).map fun i => (.val (.dat (.int (i : Nat))), S)
    | _, _ => none
  | _ => none
theorem rel_index : RelMt G (rIndex G.K) indexM := by
  intro s S x w xs as res S' so r ra e Q q
  unfold indexM at e
  split at e
  · rename_i y
    obtain ⟨u, eu, ru⟩ := rep1 ra
    split at e
    · rename_i v vs e1 e2
      cases hi : vs.findIdx? (fun z => eqV z v) with
      | none => rw [hi] at e; cases e
      | some i =>
        rw [hi] at e; cases e
        obtain ⟨rfl, fy⟩ := flV_ok ru e1
        cases hl : lsOf S w with
        | none => rw [hl] at e2; cases e2
        | some ws =>
          rw [hl] at e2
          obtain ⟨a, us, ev, hq, rv⟩ := lsOf_ok so r hl
          obtain ⟨rfl, fxs⟩ := flVs_ok rv e2
          obtain ⟨h1, h2, h3⟩ := List.findIdx?_eq_some_iff_getElem.mp hi
          refine ⟨a, us, u, i, us[i], ev, eu, hq, fy, fxs, List.getElem?_eq_getElem h1, h2, fun m z' hm hz => ?_, q s _ (Fr.refl s) so (.int _)⟩
          have hml : m < us.length := Nat.lt_trans hm h1
          rw [List.getElem?_eq_getElem hml] at hz
          cases hz
          simpa using h3 m hm
    · cases e
  · cases e
theorem re_index {o e : Expr} {mo : MW} {ma : MA} {apos cpos : Pos} (ho : RW X G Wx o mo) (ha : RA X G Wx [e] ma) (hK : G.K = X.K := by rfl) (hbase : attributeBase o "index" X.env (eval o X.env) = eval o X.env := by rfl)
    (hfew : ((backTo cpos (starEach [e] X.env)).all (fun x => !x.1) && (backToKw cpos (keywordEach [] X.env)).all (fun x => x.1.isSome) && decide ([e].length + ([] : List Keyword).length + (if ([] : List Keyword).isEmpty then 0 else 1) < 30)) = true := by rfl)
    (hline : (apos.endLine == cpos.line) = true := by rfl) (hs : starEach [e] X.env = (false, eval e X.env) :: starEach [] X.env := by rfl) (hplain : (backTo cpos (starEach [] X.env)).any (·.1) = false := by rfl) :
    RE X G Wx (.Call (.Attribute o "index" apos) [e] [] cpos) (mmtL mo ma indexM) := ⟨(pe_bm PySem.F.plainAttrs_list PySem.F.slot_list_index PySem.F.type_list_index (hK ▸ mt_index) ho.pe ha.pe hbase hfew hline hs hplain).imp (mtL_imp rel_index hK)⟩
/-! ### sorted -/
def intsOf : List Vl → Option (List Int)
  | [] => some []
  | .dat (.int i) :: r => (intsOf r).map (i :: ·)
  | _ :: _ => none
@[simp] theorem intsOf_map (is : List Int) : intsOf (is.map fun i => Vl.dat (.int i)) = some is := by
  induction is with
  | nil => rfl
  | cons b r ih => simp [intsOf, ih]
theorem intsOf_eq : ∀ {xs : List Vl} {is : List Int}, intsOf xs = some is → xs = is.map fun i => Vl.dat (.int i)
  | [], _, h => by cases h; rfl
  | .dat (.int b) :: r, is, h => by
    simp only [intsOf] at h
    cases e : intsOf r with
    | none => rw [e] at h; cases h
    | some q => rw [e] at h; cases h; rw [intsOf_eq e]; rfl
  | .dat .none :: _, _, h => by cases h
  | .dat (.bool _) :: _, _, h => by cases h
  | .dat (.str _) :: _, _, h => by cases h
  | .dat (.list _) :: _, _, h => by cases h
  | .dat (.tuple _) :: _, _, h => by cases h
  | .dat (.dict _) :: _, _, h => by cases h
  | .ref _ :: _, _, h => by cases h
  | .fn _ :: _, _, h => by cases h
  | .ro _ :: _, _, h => by cases h
theorem repInts {s : Sx} : ∀ {is : List Int} {vs : List V}, RepVs G s vs (is.map fun i => Vl.dat (.int i)) → vs = is.map V.int
  | [], _, h => by cases h; rfl
  | b :: bs, _, h => by
    cases h with
    | cons h1 h2 => cases h1; rw [repInts h2]; rfl
theorem repIntsOf {s : Sx} : ∀ (is : List Int), RepVs G s (is.map V.int) (is.map fun i => Vl.dat (.int i))
  | [] => .nil
  | b :: bs => .cons (.int b) (repIntsOf bs)
def isort (is : List Int) : List Int := is.mergeSort fun a b => decide (a ≤ b)
theorem isort_perm (is : List Int) : (isort is).Perm is := List.mergeSort_perm _ _
theorem isort_pw (is : List Int) : (isort is).Pairwise (· ≤ ·) := by
  have h := List.pairwise_mergeSort (le := fun a b : Int => decide (a ≤ b)) (fun a b c h1 h2 => by simp at *; omega) (fun a b => by simp; omega) is
  exact h.imp fun h => by simpa using h
theorem isort_uniq {is ys : List Int} (p : ys.Perm is) (w : ys.Pairwise (· ≤ ·)) : ys = isort is :=
  List.Perm.eq_of_pairwise (le := (· ≤ ·)) (fun a b _ _ h1 h2 => Int.le_antisymm h1 h2) w (isort_pw is) (p.trans (isort_perm is).symm)
def keyInts : List (Key × Vl) → Option (List Int)
  | [] => some []
  | (.inl i, _) :: r => (keyInts r).map (i :: ·)
  | _ :: _ => none
theorem keyInts_eq : ∀ {kvs : List (Key × Vl)} {is : List Int}, keyInts kvs = some is → kvs.map (·.1) = is.map Sum.inl
  | [], _, h => by cases h; rfl
  | (.inl b, _) :: r, is, h => by
    simp only [keyInts] at h
    cases e : keyInts r with
    | none => rw [e] at h; cases h
    | some q => rw [e] at h; cases h; simp [keyInts_eq e]
  | (.inr _, _) :: _, _, h => by cases h
def sortV : OpN := fun as S => match as with
  | [.ref n] => match S[n]? with
    | some (.dic kvs) => match keyInts kvs with
      | some is => if is.length < 64 then some (.new ((isort is).map fun i => .dat (.int i)), S) else none
      | none => none
    | _ => (lsOf S (.ref n)).bind fun xs => (intsOf xs).map fun is => (.new ((isort is).map fun i => .dat (.int i)), S)
  | [a] => (lsOf S a).bind fun xs => (intsOf xs).map fun is => (.new ((isort is).map fun i => .dat (.int i)), S)
  | _ => none
theorem paired_keys {s : Sx} : ∀ {vs : List (Key × V)} {kvs : List (Key × Vl)}, Paired (fun (p : Key × V) (q : Key × Vl) => p.1 = q.1 ∧ RepV G s p.2 q.2) vs kvs → vs.map (·.1) = kvs.map (·.1)
  | _, _, .nil => rfl
  | _, _, .cons h t => by simp [h.1, paired_keys t]
theorem sort_list {s : Sx} {S S' : Sto} {x : V} {a : Vl} {res : Rv} {Q : VK} (so : SOk G s S) (r : RepV G s x a) (e : ((lsOf S a).bind fun xs => (intsOf xs).map fun is => ((Rv.new ((isort is).map fun i => Vl.dat (.int i)), S) : Rv × Sto)) = some (res, S')) (q : Aft G s S' res Q) : rSortedI G.K [x] s.H Q := by
  cases h : lsOf S a with
  | none => rw [h] at e; cases e
  | some xs =>
    rw [h] at e
    simp only [Option.bind_some] at e
    cases h2 : intsOf xs with
    | none => rw [h2] at e; cases e
    | some is =>
      rw [h2] at e; cases e
      obtain ⟨p, vs, ev, hq, rv⟩ := lsOf_ok so r h
      rw [intsOf_eq h2] at rv
      rw [repInts rv] at hq
      refine ⟨p, is, by rw [ev], hq, fun ys p1 hp hw hn => ?_⟩
      rw [isort_uniq hp hw]
      exact q _ _ (fr_growH so hn _) (so.growH hn _) (so.newList hn (repIntsOf _))
theorem re_sorted {e : Expr} {ma : MA} {p pos : Pos} (hc : X.calm = true) (hg : Gl X "sorted") (hm : X.mg "sorted" = none) (ha : RA X G Wx [e] ma) (hK : G.K = X.K := by rfl) (he : starEach [e] X.env = (false, eval e X.env) :: starEach [] X.env := by rfl) : RE X G Wx (.Call (.Name "sorted" p) [e] [] pos) (mN ma sortV) :=
  re_bltn (CallR.or (call_sortedDI hc) cr_sortedI) (by
  intro s S xs as res S' so ra e Q q
  unfold sortV at e
  split at e
  · rename_i n
    obtain ⟨x, ex, r⟩ := rep1 ra
    split at e
    · rename_i kvs hk
      split at e
      · rename_i is hi
        split at e
        · rename_i h64
          cases e
          obtain ⟨a, h1, ev⟩ := r
          obtain ⟨hη, vs, hH, rv⟩ := so.ob n _ a hk h1
          refine .inl ⟨a, vs, is, by rw [ex, ev], .inl hH, by rw [paired_keys rv, keyInts_eq hi], h64, fun ys p1 hp hw hn => ?_⟩
          rw [isort_uniq hp hw]
          exact q _ _ (fr_growH so hn _) (so.growH hn _) (so.newList hn (repIntsOf _))
        · cases e
      · cases e
    · subst ex
      exact .inr (hK ▸ sort_list so r e q)
  · obtain ⟨x, ex, r⟩ := rep1 ra
    subst ex
    exact .inr (hK ▸ sort_list so r e q)
  · cases e) hg hm PyProof.Rows.boot_sorted ha (he := he)
end
end Bk
/-! text BkN -/
set_option Elab.async false
set_option linter.all false
set_option maxRecDepth 100000
set_option maxHeartbeats 2000000
set_option autoImplicit false
/-! BkN: attributes, methods, constructors, dicts, products of sequences. -/
namespace L2
open PySem PySem.Spec PyProof.Rows
theorem pg_fld {X : Cx} {o : Expr} {to : TE} {f : Str} {pos : Pos} (ho : PE X o to) : PG X (.Attribute o f pos) (fun v σ H Q => to σ H fun x H2 => ∃ a C dx fs, x = .ref a ∧ H2 a = some (.ins C dx fs) ∧ Cls X.K C ∧ NoAttr X.K C f ∧ fs.length < 1000 ∧ Q σ (upd H2 a (.ins C dx (putF f v fs)))) := by
  refine ⟨fun pins s σ H v u Q I r h => ?_⟩
  rw [assign_Attribute]
  refine wpAny_bind (wpAny_holding (thn (ho.run pins s σ H _ I h) fun ov s1 ⟨x, H1, I1, r1, a, C, dx, fs, ex, ea, c, n, l, q1⟩ => ?_))
  subst ex
  obtain rfl : ov = Value.ref a := r1
  refine wpAny_bind (wpAny_standAt (wpAny_bind (wpAny_holding (setattr_ok I1 ea c n l r fun s3 I3 => ?_))))
  exact wpAny_release ⟨σ, _, I3, q1⟩
end L2
namespace Bk
open PySem PySem.Spec PyProof.Rows L2
section
variable {X : Cx} {G : Gx} {Wx : WX} {k j : Nat}
theorem passE0 (tk : Takes X Wx) : Passes (L2.CX X.prog X.w) X L2.E0 := passes_call tk (fun _ _ _ _ (z : False) => z.elim)
/-! ### attributes -/
abbrev Cf (X : Cx) (G : Gx) (cs : List Nat) (f : Str) : Prop := ∀ c ∈ cs, Cls X.K (G.cls c) ∧ NoAttr X.K (G.cls c) f
def insAt (S : Sto) (cs : List Nat) : Vl → Option (Nat × Nat × List (Str × Vl))
  | .ref n => match S[n]? with
    | some (.ins c fs) => if c ∈ cs then some (n, c, fs) else none
    | _ => none
  | _ => none
theorem insAt_ok {s : Sx} {S : Sto} {cs : List Nat} (so : SOk G s S) {v : V} : ∀ {w : Vl} {n c : Nat} {fs : List (Str × Vl)}, RepV G s v w → insAt S cs w = some (n, c, fs) → c ∈ cs ∧ S[n]? = some (.ins c fs) ∧ ∃ a dx vs, v = .ref a ∧ s.ρ[n]? = some a ∧ a ∈ s.η ∧ s.H a = some (.ins (G.cls c) dx vs) ∧ Paired (fun (p : Str × V) (q : Str × Vl) => p.1 = q.1 ∧ RepV G s p.2 q.2) vs fs
  | .ref m, n, c, fs, ⟨a, h, e⟩, q => by
    simp only [insAt] at q
    split at q
    · rename_i c' fs' hy
      split at q
      · rename_i hc
        cases q
        obtain ⟨hη, dx, vs, hH, rv⟩ := so.ob _ _ a hy h
        exact ⟨hc, hy, a, dx, vs, e, h, hη, hH, rv⟩
      · cases q
    · cases q
  | .dat _, _, _, _, _, q => by cases q
  | .fn _, _, _, _, _, q => by cases q
  | .ro _, _, _, _, _, q => by cases q
def mfld (cs : List Nat) (f : Str) (m : MW) : MW := fun env S => (m env S).bind fun w S => match insAt S cs w with
  | some (_, _, fs) => match fs.lookup f with
    | some x => .ok x S
    | none => .fail
  | none => .fail
theorem paired_lookup {s : Sx} {f : Str} {w : Vl} : ∀ {vs : List (Str × V)} {fs : List (Str × Vl)}, Paired (fun (p : Str × V) (q : Str × Vl) => p.1 = q.1 ∧ RepV G s p.2 q.2) vs fs → fs.lookup f = some w → ∃ v, vs.lookup f = some v ∧ RepV G s v w
  | _, _, .nil, h => by cases h
  | (g, x) :: vs, (g', y) :: fs, .cons ⟨h1, h2⟩ t, h => by
    have h1 : g = g' := h1
    subst h1
    simp only [List.lookup] at h ⊢
    by_cases e : (f == g) = true
    · rw [e] at h ⊢; cases h; exact ⟨x, rfl, h2⟩
    · have e : (f == g) = false := by simpa using e
      rw [e] at h ⊢; exact paired_lookup t h
theorem paired_lookupN {s : Sx} {f : Str} : ∀ {vs : List (Str × V)} {fs : List (Str × Vl)}, Paired (fun (p : Str × V) (q : Str × Vl) => p.1 = q.1 ∧ RepV G s p.2 q.2) vs fs → fs.lookup f = none → vs.lookup f = none
  | _, _, .nil, h => rfl
  | (g, x) :: vs, (g', y) :: fs, .cons ⟨h1, h2⟩ t, h => by
    have h1 : g = g' := h1
    subst h1
    simp only [List.lookup] at h ⊢
    by_cases e : (f == g) = true
    · rw [e] at h; cases h
    · have e : (f == g) = false := by simpa using e
      rw [e] at h ⊢; exact paired_lookupN t h
theorem rw_fld (cs : List Nat) (f : Str) {e : Expr} {m : MW} {pos : Pos} (hc : Cf X G cs f) (he : RW X G Wx e m) (hb : attributeBase e f X.env (eval e X.env) = eval e X.env := by rfl) : RW X G Wx (.Attribute e f pos) (mfld cs f m) := ⟨(pe_fld he.pe hb).imp fun σ H Q h => by
  obtain ⟨s, S, env, rfl, so, eo, h⟩ := h
  refine ⟨s, S, env, rfl, so, eo, (Post.bind h).imp fun v H1 ⟨t, w, S1, e, f1, so, eo, rv, p⟩ => ?_⟩
  subst e
  split at p
  · rename_i n c fs hi
    split at p
    · rename_i x hx
      obtain ⟨hm, _, a, dx, vs, ev, hρ, hη, hH, rp⟩ := insAt_ok so rv hi
      obtain ⟨u, hu, ru⟩ := paired_lookup rp hx
      exact ⟨a, G.cls c, dx, vs, u, ev, hH, (hc c hm).1, (hc c hm).2, hu, p t u (Fr.refl t) so eo ru⟩
    · exact p.elim
  · exact p.elim⟩
def putFv (f : Str) (v : Vl) : List (Str × Vl) → List (Str × Vl)
  | [] => [(f, v)]
  | (g, x) :: r => if g = f then (g, v) :: r else (g, x) :: putFv f v r
theorem paired_put {s : Sx} {f : Str} {v : V} {w : Vl} (r : RepV G s v w) : ∀ {vs : List (Str × V)} {fs : List (Str × Vl)}, Paired (fun (p : Str × V) (q : Str × Vl) => p.1 = q.1 ∧ RepV G s p.2 q.2) vs fs → Paired (fun (p : Str × V) (q : Str × Vl) => p.1 = q.1 ∧ RepV G s p.2 q.2) (putF f v vs) (putFv f w fs)
  | _, _, .nil => .cons ⟨rfl, r⟩ .nil
  | (g, x) :: vs, (g', y) :: fs, .cons ⟨h1, h2⟩ t => by
    have h1 : g = g' := h1
    subst h1
    unfold putF putFv
    by_cases e : g = f
    · rw [if_pos e, if_pos e]; exact .cons ⟨rfl, r⟩ t
    · rw [if_neg e, if_neg e]; exact .cons ⟨rfl, h2⟩ (paired_put r t)
theorem paired_monoS {s t : Sx} (f : Fr s t) {vs : List (Str × V)} {fs : List (Str × Vl)} (h : Paired (fun (p : Str × V) (q : Str × Vl) => p.1 = q.1 ∧ RepV G s p.2 q.2) vs fs) : Paired (fun (p : Str × V) (q : Str × Vl) => p.1 = q.1 ∧ RepV G t p.2 q.2) vs fs := Paired.mapP h fun _ _ x => ⟨x.1, x.2.mono f⟩
def mgfld (cs : List Nat) (f : Str) (mo : MW) : MG := fun w env S => match mo env S with
  | .ok x S1 => match insAt S1 cs x with
    | some (n, c, fs) => if fs.length < 1000 then .next env (S1.set n (.ins c (putFv f w fs))) else .fail
    | none => .fail
  | _ => .fail
theorem rg_fld {vs : List Nat} (cs : List Nat) (f : Str) {o : Expr} {mo : MW} {pos : Pos} (hc : Cf X G cs f) (ho : RW X G W0 o mo) : RG X G vs (.Attribute o f pos) (mgfld cs f mo) := ⟨(pg_fld ho.pe).imp fun v σ H Q h => by
  obtain ⟨s, S, env, w, rfl, so, eo, r, p⟩ := h
  unfold mgfld at p
  refine ⟨s, S, env, rfl, so, eo, ?_⟩
  cases q1 : mo env S with
  | exn k d S' => simp only [q1] at p; exact p.elim
  | fail => simp only [q1] at p; exact p.elim
  | ok x S1 =>
    simp only [q1] at p
    intro t1 v1 f1 so1 eo1 r1
    split at p
    · rename_i n c fs hi
      split at p
      · rename_i hz
        obtain ⟨hm, hS, a, dx, us, ev, hρ, hη, hH, rp⟩ := insAt_ok so1 r1 hi
        refine ⟨a, G.cls c, dx, us, ev, hH, (hc c hm).1, (hc c hm).2, by rw [rp.length]; exact hz, ?_⟩
        obtain ⟨f3, so3⟩ := so1.write (o := .ins (G.cls c) dx (putF f v us)) (ob := .ins c (putFv f w fs)) hρ hη fun t ft ht hh => ⟨ht, dx, _, hh, paired_put ((r.mono f1).mono ft) (paired_monoS ft rp)⟩
        exact p _ σ rfl (f1.trans f3) so3 (eo1.mono f3)
      · exact p.elim
    · exact p.elim⟩
/-! ### methods -/
structure Mf (P : Program) (w : World) (K : PySem.W.Frag) (mg : Str → Option Value) (base : Heap) (G : Gx) (k c : Nat) (m : Str) (n : Nat) (F : Fn) : Prop where
  ex : ∃ f fd ps, Cls K (G.cls c) ∧ Meth K (G.cls c) m f ∧ Binds K fd ps [] ∧ ps.length = n ∧ FnOk P w K mg base (L2.CX P w) k f fd ps (spF G n F)
def noX (x : Out Rv) : Out Rv := match x with
  | .exn _ _ _ => .fail
  | x => x
@[simp] theorem noX_ok (r : Rv) (S : Sto) : noX (.ok r S) = .ok r S := rfl
def mmeth (c : Nat) (m : Str) (n : Nat) (F : Fn) (mo : MW) (ma : MA) : ME := fun env S => (mo env S).bind fun x S => match insAt S [c] x with
  | some (_, _, fs) => match fs.lookup m with
    | none => (ma env S).bind fun ws S => if ws.length + 1 = n then noX (F (x :: ws) S) else .fail
    | some _ => .fail
  | none => .fail
theorem meth_imp {c n : Nat} {m : Str} {F : Fn} {mo : MW} {ma : MA} (σ : Sg) (H : Hp) (Q : VK) (h : tE G Wx (mmeth c m n F mo ma) σ H Q) : tMeth (G.cls c) m (spF G n F) [] E0 (tW G Wx mo) (tA G Wx ma) σ H Q := by
  obtain ⟨s, S, env, rfl, so, eo, h⟩ := h
  refine ⟨s, S, env, rfl, so, eo, (Post.bind h).imp fun v H1 ⟨t, w, S1, e, f1, so, eo, rv, p⟩ => ?_⟩
  subst e
  split at p
  · rename_i n' c' fs hi
    split at p
    · rename_i hl
      obtain ⟨hm, hS, a, dx, us, ev, hρ, hη, hH, rp⟩ := insAt_ok so rv hi
      cases List.mem_singleton.mp hm
      refine ⟨a, dx, us, ev, hH, paired_lookupN rp hl, t, S1, env, rfl, so, eo, (Post.bind p).imp fun xs H2 ⟨u, ws, S2, e, f2, so2, eo2, rvs, p⟩ => ?_⟩
      subst e
      split at p
      · rename_i hn
        refine ⟨by simp [rvs.length, hn], u, S2, w :: ws, rfl, so2, by rw [List.append_nil]; exact .cons (rv.mono f2) rvs, ?_⟩
        cases q : F (w :: ws) S2 with
        | ok r S3 =>
          rw [q] at p
          exact fun t3 v3 f3 so3 r3 => p t3 v3 f3 so3 (eo2.mono f3) r3
        | exn kk d S3 => rw [q] at p; exact p.elim
        | fail => rw [q] at p; exact p.elim
      · exact p.elim
    · exact p.elim
  · exact p.elim
theorem re_meth {c kk n : Nat} {m : Str} {F : Fn} {o e : Expr} {es : List Expr} {mo : MW} {ma : MA} {apos pos : Pos} {pl : Sem Bool} (M : Mf X.prog X.w X.K X.mg X.base G kk c m n F) (hr : Room j X.A) (hk : kk ≤ j) (tk : Takes X Wx) (ho : RW X G Wx o mo) (ha : RA X G Wx (e :: es) ma)
    (hst : starEach (e :: es) X.env = (false, eval e X.env) :: starEach es X.env := by rfl) (hpl : (backTo pos (starEach es X.env)).any (·.1) = false := by rfl)
    (ht : eval (.Call (.Attribute o m apos) (e :: es) [] pos) X.env = (do
      let ov ← eval o X.env
      standAt apos.atName
      let (f, first) ← holding [ov] (getMethod ov m pl)
      callWith pos f first (backTo pos (starEach (e :: es) X.env)) (backToKw pos (keywordEach [] X.env))) := by rfl) : RE X G Wx (.Call (.Attribute o m apos) (e :: es) [] pos) (mmeth c m n F mo ma) := by
  obtain ⟨f, fd, ps, h1, h2, h3, h4, h5⟩ := M.ex
  exact ⟨(pe_meth ho.pe h1 h2 h5 (hr.mono hk) h3 (.nil) (passE0 tk) ha.pe hst hpl ht).imp meth_imp⟩
theorem re_meth0 {c kk n : Nat} {m : Str} {F : Fn} {o : Expr} {mo : MW} {apos pos : Pos} {pl : Sem Bool} (M : Mf X.prog X.w X.K X.mg X.base G kk c m n F) (hr : Room j X.A) (hk : kk ≤ j) (tk : Takes X Wx) (ho : RW X G Wx o mo)
    (ht : eval (.Call (.Attribute o m apos) [] [] pos) X.env = (do
      let ov ← eval o X.env
      standAt apos.atName
      let (f, first) ← holding [ov] (getMethod ov m pl)
      callWith pos f first (backTo pos (starEach [] X.env)) (backToKw pos (keywordEach [] X.env))) := by rfl) : RE X G Wx (.Call (.Attribute o m apos) [] [] pos) (mmeth c m n F mo mnil) := by
  obtain ⟨f, fd, ps, h1, h2, h3, h4, h5⟩ := M.ex
  refine ⟨(pe_meth0 ho.pe h1 h2 h5 (hr.mono hk) h3 (.nil) (passE0 tk) ht).imp fun σ H Q h => ?_⟩
  have z := meth_imp σ H Q h
  obtain ⟨s, S, env, e, so, eo, z⟩ := z
  refine ⟨s, S, env, e, so, eo, z.imp fun x H1 ⟨a, dx, fs, ex, hH, hl, s1, S1, env1, e1, so1, eo1, p⟩ => ⟨a, dx, fs, ex, hH, hl, ?_⟩⟩
  subst e1
  have q : spF G n F (x :: ([] ++ [])) s1.H Q E0 := p s1 [] (Fr.refl s1) so1 eo1 .nil
  exact q
/-! ### constructors -/
structure Kf (P : Program) (w : World) (K : PySem.W.Frag) (mg : Str → Option Value) (base : Heap) (G : Gx) (k c : Nat) (x : Str) (n : Nat) (F : Fn) : Prop where
  ex : ∃ f fd ps, PySem.W.makesIn K (G.cls c) = true ∧ Mk K (G.cls c) f ∧ mg x = some (.ref (G.cls c)) ∧ Binds K fd ps [] ∧ ps.length = n ∧ FnOk P w K mg base (L2.CX P w) k f fd ps (spF G n F)
def mmake (c n : Nat) (F : Fn) (ma : MA) : ME := fun env S => (ma env S).bind fun ws S => if ws.length + 1 = n then match F (.ref S.length :: ws) (S ++ [.ins c []]) with
  | .ok (.val (.dat .none)) S' => .ok (.val (.ref S.length)) S'
  | _ => .fail else .fail
theorem re_make {c kk n : Nat} {x : Str} {F : Fn} {e : Expr} {es : List Expr} {ma : MA} {p pos : Pos} (M : Kf X.prog X.w X.K X.mg X.base G kk c x n F) (hr : Room j X.A) (hk : kk + 1 ≤ j) (tk : Takes X Wx) (hg : Gl X x) (ha : RA X G Wx (e :: es) ma)
    (hdb : (x == ("__debug__" : Str)) = false := by decide) (he : starEach (e :: es) X.env = (false, eval e X.env) :: starEach es X.env := by rfl) (hpl : (backTo pos (starEach es X.env)).any (·.1) = false := by rfl) : RE X G Wx (.Call (.Name x p) (e :: es) [] pos) (mmake c n F ma) := by
  obtain ⟨f, fd, ps, h0, h1, h2, h3, h4, h5⟩ := M.ex
  refine ⟨(pe_make (E := E0) h1 h5 (hr.mono hk) hg h2 h3 (.nil) (passE0 tk) ha.pe hdb he hpl).imp fun σ H Q h => ?_⟩
  obtain ⟨s, S, env, rfl, so, eo, h⟩ := h
  refine ⟨s, S, env, rfl, so, eo, (Post.bind h).imp fun vs H1 ⟨t, ws, S1, e, f1, so, eo, rv, p⟩ x dx hx hdx hne => ?_⟩
  subst e
  split at p
  · rename_i hn
    have g1 := fr_growH so hdx (.own x)
    have s1 := so.growH hdx (.own x)
    have hx1 : (t.putH dx (.own x)).H x = none := by
      show upd t.H dx (.own x) x = none
      rw [upd_ne (Ne.symm hne)]; exact hx
    have g2 := fr_growH s1 hx1 (.ins (G.cls c) dx [])
    have s2 := s1.growH hx1 (.ins (G.cls c) dx [])
    have oa : ObAt G ((t.putH dx (.own x)).putH x (.ins (G.cls c) dx [])) x (.ins c []) := ⟨List.mem_cons_self, dx, [], upd_same, .nil⟩
    obtain ⟨g3, s3⟩ := s2.put (s1.notρ hx1) (s1.notκ hx1) oa
    have gg := (g1.trans g2).trans g3
    have hρx : (t.ρ ++ [x])[S1.length]? = some x := by
      rw [List.getElem?_append_right (by rw [so.len]; exact Nat.le_refl _), so.len, Nat.sub_self]; rfl
    refine ⟨by simp [rv.length, hn], _, _, .ref S1.length :: ws, rfl, s3, by rw [List.append_nil]; exact .cons ⟨x, hρx, rfl⟩ (RepVs.mono gg rv), ?_⟩
    cases q : F (.ref S1.length :: ws) (S1 ++ [.ins c []]) with
    | fail => rw [q] at p; exact p.elim
    | exn kk d S3 => rw [q] at p; exact p.elim
    | ok r S3 =>
      rw [q] at p
      intro t3 v3 f3 so3 r3
      cases r with
      | new xs => exact p.elim
      | val w =>
        cases w with
        | dat d =>
          cases d with
          | none =>
            cases r3
            exact ⟨rfl, p t3 (.ref x) (gg.trans f3) so3 (eo.mono (gg.trans f3)) ⟨x, f3.at hρx, rfl⟩⟩
          | _ => exact p.elim
        | _ => exact p.elim
  · exact p.elim
/-! ### dicts -/
def mdict0 : MW := fun _ S => .ok (.ref S.length) (S ++ [.dic []])
theorem rw_dict0 {pos : Pos} : RW X G Wx (.Dict [] [] pos) mdict0 := ⟨pe_dnewK.imp fun σ H Q h => by
  obtain ⟨s, S, env, rfl, so, eo, h⟩ := h
  intro p hp
  have g2 := fr_growH so hp (.dK [])
  have s2 := so.growH hp (.dK [])
  have oa : ObAt G (s.putH p (.dK [])) p (.dic []) := ⟨List.mem_cons_self, [], upd_same, .nil⟩
  obtain ⟨g3, s3⟩ := s2.put (so.notρ hp) (so.notκ hp) oa
  refine h _ (.ref p) (g2.trans g3) s3 (eo.mono (g2.trans g3)) ⟨p, ?_, rfl⟩
  show (s.ρ ++ [p])[S.length]? = some p
  rw [List.getElem?_append_right (by rw [so.len]; exact Nat.le_refl _), so.len, Nat.sub_self]; rfl⟩
def keyOf : Vl → Option Key
  | .dat (.int i) => some (.inl i)
  | .dat (.str x) => some (.inr x)
  | _ => none
theorem keyOf_ok {s : Sx} {v : V} : ∀ {w : Vl} {q : Key}, RepV G s v w → keyOf w = some q → v = kV q
  | .dat (.int i), _, h, e => by cases h; cases e; rfl
  | .dat (.str x), _, h, e => by cases h; cases e; rfl
  | .dat .none, _, _, e => by cases e
  | .dat (.bool _), _, _, e => by cases e
  | .dat (.list _), _, _, e => by cases e
  | .dat (.tuple _), _, _, e => by cases e
  | .dat (.dict _), _, _, e => by cases e
  | .ref _, _, _, e => by cases e
  | .fn _, _, _, e => by cases e
  | .ro _, _, _, e => by cases e
def putKv (kvs : List (Key × Vl)) (q : Key) (v : Vl) : List (Key × Vl) :=
  if (kvs.any fun kv => decide (kv.1 = q)) = true then kvs.map (fun kv => if kv.1 = q then (kv.1, v) else kv) else kvs ++ [(q, v)]
abbrev pK (G : Gx) (s : Sx) : Key × V → Key × Vl → Prop := fun p q => p.1 = q.1 ∧ RepV G s p.2 q.2
theorem paired_any {s : Sx} {q : Key} : ∀ {vs : List (Key × V)} {kvs : List (Key × Vl)}, Paired (pK G s) vs kvs → (vs.any fun kv => decide (kv.1 = q)) = (kvs.any fun kv => decide (kv.1 = q))
  | _, _, .nil => rfl
  | _, _, .cons h t => by rw [List.any_cons, List.any_cons, h.1, paired_any t]
theorem paired_mapK {s : Sx} {q : Key} {v : V} {w : Vl} (r : RepV G s v w) : ∀ {vs : List (Key × V)} {kvs : List (Key × Vl)}, Paired (pK G s) vs kvs → Paired (pK G s) (vs.map (fun kv => if kv.1 = q then (kv.1, v) else kv)) (kvs.map (fun kv => if kv.1 = q then (kv.1, w) else kv))
  | _, _, .nil => .nil
  | (a, b) :: _, (a', b') :: _, .cons ⟨h1, h2⟩ t => by
    have h1 : a = a' := h1
    subst h1
    rw [List.map_cons, List.map_cons]
    by_cases e : a = q
    · simp only [if_pos e]; exact .cons ⟨rfl, r⟩ (paired_mapK r t)
    · simp only [if_neg e]; exact .cons ⟨rfl, h2⟩ (paired_mapK r t)
theorem paired_putK {s : Sx} {q : Key} {v : V} {w : Vl} (r : RepV G s v w) {vs : List (Key × V)} {kvs : List (Key × Vl)} (h : Paired (pK G s) vs kvs) : Paired (pK G s) (putK vs q v) (putKv kvs q w) := by
  unfold putK putKv
  rw [paired_any h]
  split
  · exact paired_mapK r h
  · exact Paired.app h (.cons ⟨rfl, r⟩ .nil)
def mdput (mo mi mv : MW) : MS := fun env S => (mv env S).fl env fun w S => (mo env S).fl env fun x S => (mi env S).fl env fun y S => match x with
  | .ref n => match S[n]? with
    | some (.dic kvs) => match keyOf y with
      | some q => if kvs.length < 1000000 then .next env (S.set n (.dic (putKv kvs q w))) else .fail
      | none => .fail
    | _ => .fail
  | _ => .fail
theorem rs_dput {o i v : Expr} {mo mi mv : MW} {pos pos' : Pos} (hr : Room k X.A) (ho : RW X G Wx o mo) (hi : RW X G Wx i mi) (hv : RW X G Wx v mv) (hs : swapsWith v (some (.Subscript o i pos')) pos.line X.env = pure false := by rfl) :
    RS X G Wx (.Assign [.Subscript o i pos'] v pos) (mdput mo mi mv) := ⟨(ps_dput (by have := hr.units; omega) ho.pe hi.pe hv.pe hs).imp fun D σ H h => by
  obtain ⟨s, S, env, rfl, so, eo, h⟩ := h
  refine ⟨s, S, env, rfl, so, eo, (PostS.bindE h).imp fun u H1 ⟨t, w, S1, e, f, so, eo, rv, p⟩ => ?_⟩
  subst e
  refine ⟨t, S1, env, rfl, so, eo, (PostS.bindE p).imp fun xv H2 ⟨t2, x, S2, e, f2, so2, eo2, rx, p⟩ => ?_⟩
  subst e
  refine ⟨t2, S2, env, rfl, so2, eo2, (PostS.bindE p).imp fun yv H3 ⟨t3, y, S3, e, f3, so3, eo3, ry, p⟩ => ?_⟩
  subst e
  have rx := rx.mono f3
  cases x with
  | dat d => exact p.elim
  | fn n => exact p.elim
  | ro ds => exact p.elim
  | ref n =>
    simp only at p
    split at p
    · rename_i kvs hk
      split at p
      · rename_i q hq
        split at p
        · rename_i hz
          obtain ⟨a, h1, ev⟩ := rx
          obtain ⟨hη, vs, hH, rp⟩ := so3.ob n _ a hk h1
          refine ⟨a, _, ev, .inl ⟨vs, q, hH, keyOf_ok ry hq, by rw [rp.length]; exact big_line hz, rfl⟩, ?_⟩
          obtain ⟨f4, so4⟩ := so3.write (o := .dK (putK vs q u)) (ob := .dic (putKv kvs q w)) h1 hη fun t ft ht hh => ⟨ht, _, hh, paired_putK (((rv.mono f2).mono f3).mono ft) (Paired.mapP rp fun _ _ x => ⟨x.1, x.2.mono ft⟩)⟩
          exact p _ σ f4 so4 (eo3.mono f4)
        · exact p.elim
      · exact p.elim
    · exact p.elim⟩
end
end Bk
/-! text BkO -/
set_option Elab.async false
set_option linter.all false
set_option maxRecDepth 100000
set_option maxHeartbeats 2000000
set_option autoImplicit false
/-! BkO: defs that ask for a repr: no repr is under way where they are called. -/
namespace L2
open PySem PySem.Spec PyProof.Rows
theorem guards_deeper {A : Around} {env : Env} (h : A.guards = some []) : (A.deeper env).guards = some [] := by
  first
    | exact h
    | (simp only [Around.deeper]; exact h)
/-- what a def does where no repr is under way -/
structure FnG (P : Program) (w : World) (K : PySem.W.Frag) (mg : Str → Option Value) (base : Heap) (CX : CXT) (k : Nat) (f : Addr) (fd : FuncData) (ps : List Str) (sp : Sp) : Prop where
  len : ∀ vs H Q E, sp vs H Q E → vs.length = ps.length
  run : ∀ (A : Around) (outer : List Env) (s : Shared) (H : Hp) (args : Args) (us : List Value) (vs : List V) (Q : VK) (E : XK), A.guards = some [] → Room k A → Env0 P w K mg base A outer s H → BindsTo s fd args (ps.zip us) → Vals vs us → sp vs H Q E →
    codeAny (model P w) A (.call (.ref f) args) (CR CX outer P w H s Q E) s
theorem FnG.imp {P : Program} {w : World} {K : PySem.W.Frag} {mg : Str → Option Value} {base : Heap} {CX : CXT} {k : Nat} {f : Addr} {fd : FuncData} {ps : List Str} {sp sp' : Sp} (F : FnG P w K mg base CX k f fd ps sp)
    (h : ∀ vs H Q E, sp' vs H Q E → sp vs H Q E) : FnG P w K mg base CX k f fd ps sp' :=
  ⟨fun vs H Q E q => F.len vs H Q E (h _ _ _ _ q), fun A outer s H args us vs Q E hg hr he hb hv hs => F.run A outer s H args us vs Q E hg hr he hb hv (h _ _ _ _ hs)⟩
theorem fnG_of {CX : CXT} {P : Program} {w : World} {K : PySem.W.Frag} {mg : Str → Option Value} {base : Heap} {k : Nat} {f : Addr} {name qual : Str} {params : Arguments} {body : List Stmt} {scope : Scope} {dV kV doc pm cdv ct oc : Value} {an od : Option Addr}
    {osl : Array (Option Value)} {N ps : List Str} {sp : Sp} (lk : K.lookup f = some ⟨oc, od, .func (PySem.W.fnOf name qual params body scope dV kV doc pm an cdv ct), osl⟩) (hcd : PySem.W.codeIn K cdv qual = true) (S : FnScope N ps scope)
    (len : ∀ vs H Q E, sp vs H Q E → vs.length = ps.length)
    (hbody : ∀ (A : Around) (outer : List Env) (s : Shared) (H : Hp) (vs : List V) (Q : VK) (E : XK), (A.deeper (envOfC qual scope s.heap.objs.size f cdv)).guards = some [] → Room k (A.deeper (envOfC qual scope s.heap.objs.size f cdv)) → sp vs H Q E →
      ∃ t, PSs (cxOf CX P w K mg base N qual scope f cdv A outer s H E) body t ∧ t { nx := fun _ H' => Q .non H', rt := Q } (start N vs) H) :
    FnG P w K mg base CX (k + 1) f (PySem.W.fnOf name qual params body scope dV kV doc pm an cdv ct) ps sp := by
  refine ⟨len, fun A outer s H args us vs Q E hgd hr e0 hb r hsp => ?_⟩
  have hl := len _ _ _ _ hsp
  have KX : K.In s.heap := e0.mod.kin.keeps fun b o e => (e0.bs b o e).1
  have lim : s.heap.NoLimit := e0.mod.nolimit.keeps fun b o e => (e0.bs b o e).1
  have hkind : ∀ y ∈ ps.zip us, scope.names.lookup y.1 = some .local ∨ (scope.names.lookup y.1 = some .cell ∧ ((cellsFrom (s.heap.objs.size + 1) scope.names []).lookup y.1).isSome = true) := fun ⟨n, v⟩ hy => by
    rcases S.par n (List.of_mem_zip hy).1 with q | q
    · exact .inl q
    · exact .inr ⟨q, PySem.W.cellsFrom_some _ _ _ (.inl q)⟩
  refine codeAny_call_function hr.depth (KX _ _ lk) rfl S.co S.gen rfl (PySem.W.codeRec_of KX hcd) (hb _ _ _ _ ?_)
  refine wpAny_newFunctionEnv_cells S.kind hkind fun env he s1 x => ?_
  subst he
  refine ⟨lim.keeps x.toInCall.keep, codeAny_func ?_⟩
  obtain ⟨t, ht, hq⟩ := hbody A outer s H vs Q E (guards_deeper hgd) (hr.deeper _) hsp
  have I : Inv (cxOf CX P w K mg base N qual scope f cdv A outer s H E) [] (start N vs) H s1 := inv_start S hr.hd e0 hl r x
  refine wpAny_mono (ht.run [] s1 (start N vs) H _ I hq) (fun fl s' hs => ?_) fun e s' hs => hs
  have fin : ∀ {σ' : St} {H' : Hp} {v : V} {u : Value}, Inv (cxOf CX P w K mg base N qual scope f cdv A outer s H E) [] σ' H' s' → RelV v u → Q v H' → CE outer P w H s Q u s' :=
    fun {σ' H' v u} J rv q => ⟨v, H', J.os, J.bare, J.base, J.hok, rv, q⟩
  cases fl with
  | ret u =>
    obtain ⟨v, σ', H', J, rv, q⟩ := hs
    exact fin J rv q
  | next =>
    obtain ⟨σ', H', J, q⟩ := hs
    exact fin (v := V.non) (u := Value.none) J rfl q
  | brk =>
    obtain ⟨_, _, _, q⟩ := hs
    exact False.elim q
  | cont =>
    obtain ⟨_, _, _, q⟩ := hs
    exact False.elim q
section
variable {X : Cx} {CX : CXT} {k : Nat} {f C : Addr} {fd : FuncData} {ps ks : List Str} {sp : Sp} {E : St → XK} {x m : Str} {p pos apos : Pos} {e o : Expr} {es : List Expr} {kws : List Keyword} {ta : TE} {t : TA}
theorem pe_callG (F : FnG X.prog X.w X.K X.mg X.base CX k f fd ps sp) (hgd : X.A.guards = some []) (hr : Room k X.A) (hg : Gl X x) (hm : X.mg x = some (.ref f)) (hk : PySem.W.keepIn X.K (.ref f) = true) (hb : Binds X.K fd ps []) (hx : ∀ σ, PassesAt CX X σ (E σ)) (ha : PA X (e :: es) t)
    (hdb : (x == ("__debug__" : Str)) = false := by decide) (he : starEach (e :: es) X.env = (false, eval e X.env) :: starEach es X.env := by rfl) (hpl : (backTo pos (starEach es X.env)).any (·.1) = false := by rfl) :
    PE X (.Call (.Name x p) (e :: es) [] pos) (tCallS sp E t) := by
  refine ⟨fun pins s σ H Q I h => ?_⟩
  refine wpAny_Call_Name_kw (ld_glob I hg hm ?_ hdb)
  refine PySem.W.callWith_K (h₀ := X.base) I.ok.mod.kin hk (thn (ha.run pos pins s σ H _ I h) fun us s1 ⟨vs, H1, I1, r, q⟩ => ⟨I1.kIn, ?_⟩) he hpl
  have hl : us.length = ps.length := by rw [← r.length]; exact F.len _ _ _ _ q
  have b := hb s1 us I1.kIn (by rw [List.append_nil]; exact hl)
  rw [List.append_nil] at b
  show wpAny _ _ (call (.ref f) us) _ _ _
  refine wpAny_call (codeAny_mono (F.run X.A X.stack s1 H1 ⟨us, []⟩ us vs Q (E σ) hgd hr I1.env0 b r q) fun r s' hq => ?_)
  cases r with
  | error e => exact hx σ pins H1 s1 e s' I1 hq
  | ok fl =>
    cases fl with
    | ret u => exact I1.after hq
    | next => exact False.elim hq
    | brk => exact False.elim hq
    | cont => exact False.elim hq
/-- f(k = v, ..): keywords alone; g puts their values in the parameters' order -/
structure KwB (fd : FuncData) (ps ks : List Str) (n : Nat) (g : {α : Type} → List α → List α) : Prop where
  to : ∀ (s : Shared) (ws : List Value), ws.length = n → BindsTo s fd ⟨[], ks.zip ws⟩ (ps.zip (g ws))
  rel : ∀ {vs : List V} {us : List Value}, Vals vs us → Vals (g vs) (g us)
theorem pe_callKS {g : {α : Type} → List α → List α} {n : Nat} {tk : TA} (F : FnOk X.prog X.w X.K X.mg X.base CX k f fd ps sp) (hr : Room k X.A) (hg : Gl X x) (hm : X.mg x = some (.ref f)) (hk : PySem.W.keepIn X.K (.ref f) = true) (hb : KwB fd ps ks n g) (hx : ∀ σ, PassesAt CX X σ (E σ)) (hkw : PK X kws tk)
    (hall : (backToKw pos (keywordEach kws X.env)).all (·.1.isSome) = true := by rfl) (hks : (backToKw pos (keywordEach kws X.env)).filterMap (·.1) = ks := by rfl) (hdb : (x == ("__debug__" : Str)) = false := by decide)
    (hpl : (backToKw pos (keywordEach kws X.env)).any (·.1.isNone) = false := by rfl) :
    PE X (.Call (.Name x p) [] kws pos) (fun σ H Q => tk σ H fun zs H2 => zs.length = n ∧ sp (g zs) H2 Q (E σ)) := by
  refine ⟨fun pins s σ H Q I h => ?_⟩
  refine wpAny_Call_Name_kw (ld_glob I hg hm ?_ hdb)
  refine PySem.W.callWith_KW0 (h₀ := X.base) I.ok.mod.kin hk hall (thn (hkw.run pos pins s σ H _ I h) fun ws s2 ⟨zs, H2, I2, rz, hn, q2⟩ => ⟨I2.kIn, ?_⟩) hpl
  rw [hks]
  have b := hb.to s2 ws (by rw [← rz.length]; exact hn)
  show wpAny _ _ (call (.ref f) [] (ks.zip ws)) _ _ _
  refine wpAny_call (codeAny_mono (F.run X.A X.stack s2 H2 ⟨[], ks.zip ws⟩ (g ws) (g zs) Q (E σ) hr I2.env0 b (hb.rel rz) q2) fun r s' hq => ?_)
  cases r with
  | error e => exact hx σ pins H2 s2 e s' I2 hq
  | ok fl =>
    cases fl with
    | ret u => exact I2.after hq
    | next => exact False.elim hq
    | brk => exact False.elim hq
    | cont => exact False.elim hq
end
/-- repr of data -/
theorem call_reprD {X : Cx} (hgd : X.A.guards = some []) (hu : X.A.units + 100 < cLine) : CallR X (.builtin "repr") (fun xs H Q => ∃ (p : Addr) (d : PyData), xs = [V.ref p] ∧ Dp X.K H (.ref p) d ∧ d.showable = true ∧ d.hasDict = false ∧ d.depth ≤ 64 ∧ d.shown.length ≤ 1000000 ∧ Q (.str d.shown) H) := by
  intro pins s σ H xs us Q I r h
  obtain ⟨p, d, rfl, hd, hs, hdi, hde, hz, q⟩ := h
  obtain ⟨u, rfl, ru⟩ := vals1 r
  cases (show u = Value.ref p from ru)
  obtain ⟨as, r1⟩ := Dp.reads I d (.ref p) (.ref p) hd rfl
  refine repr_of_reads' r1 hs (fun z => by rw [hdi] at z; cases z) hgd (by omega) (fun b o e => e) (fun h' u tk k => ⟨.str d.shown, H, I.kept (t' := tk) k, ⟨_, rfl⟩, q⟩) (by rw [sizeLine_eq]; omega)
end L2
namespace L2
open PySem PySem.Spec PyProof.Rows
theorem law_callG {P : Program} {w : World} {K : PySem.W.Frag} {mg mb : Str → Option Value} {CX : CXT} {k : Nat} {fa a : Addr} {fd : FuncData} {x : Str} {sp : Sp} {s₁ : Shared} {vs : List Value} {ns : List Int}
    (KX : K.In s₁.heap) (hns : s₁.heap.Ns mainGlobals mg) (hb : s₁.heap.Ns builtinsNs mb) (hbb : ∀ x : Str, x ≠ "__name__" → mb x = bootBuiltins x) (hlim : s₁.heap.NoLimit) (hg : s₁.gens = #[])
    (ha : s₁.heap.get? a = some { cls := .type "list", data := .seq vs.toArray }) (hi : IntsAre vs ns) (hl : ns.length ≤ sizeLine) (hr : Room k callerA)
    (F : ∀ base : Heap, K.In base → base.Ns mainGlobals mg → FnG P w K mg base CX k fa fd [x] sp) (hbind : ∀ (s : Shared) (u : Value), BindsTo s fd ⟨[u], []⟩ [(x, u)])
    (hsp : ∀ H : Hp, Only H → SqL K H a (ns.map V.int) → sp [.ref a] H (fun v _ => v = .bl true) fun _ _ _ => False)
    (hCX : ∀ H e s', CX [] H s₁ (fun _ _ _ => False) e s' → False) :
    codeAny (model P w) callerA (.call (.ref fa) ⟨[.ref a], []⟩) (fun r s' => r = .ok (.ret (.bool true)) ∧ OldK s₁.heap s'.heap ∧ s'.os = s₁.os ∧ AllBare s'.gens) s₁ := by
  have rv := vals_ints hi
  have lenV := hi.length
  -- nothing but the script may be tracked
  have core : ∀ H : Hp, Only H → SqL K H a (ns.map V.int) → HOk P w H s₁.heap → (∀ b, H b ≠ none → b = a) → (H a ≠ none → K.lookup a = none) →
      codeAny (model P w) callerA (.call (.ref fa) ⟨[.ref a], []⟩) (fun r s' => r = .ok (.ret (.bool true)) ∧ OldK s₁.heap s'.heap ∧ s'.os = s₁.os ∧ AllBare s'.gens) s₁ := by
    intro H hO hS hok hA hK
    have out : ∀ {b : Addr} {o : Obj}, s₁.heap.get? b = some o → (∀ vs n, o.data ≠ .seq vs n) → H b = none := fun {b o} e d => by
      cases q : H b with
      | none => rfl
      | some u =>
        have e' : b = a := hA b (by rw [q]; simp)
        subst e'
        rw [ha] at e; cases e
        exact absurd rfl (d vs.toArray _)
    have nsK : ∀ {b : Addr} {m : Str → Option Value}, s₁.heap.Ns b m → (hidT s₁.heap H).Ns b m := fun {b m} ⟨o, es, ep, e, d, r⟩ => ⟨o, es, ep, hidT_get e (out e fun vs n z => by rw [d] at z; cases z), d, r⟩
    have hKb : K.In (hidT s₁.heap H) := fun b o e => hidT_get (KX b o e) (by
      cases q : H b with
      | none => rfl
      | some u =>
        have e' : b = a := hA b (by rw [q]; simp)
        subst e'
        rw [hK (by rw [q]; simp)] at e; cases e)
    have hM : Mod K mg (hidT s₁.heap H) := ⟨hKb, nsK hns, ⟨mb, nsK hb, hbb⟩, let ⟨mc, h1, h2⟩ := hlim; ⟨mc, nsK h1, h2⟩⟩
    have e0 : Env0 P w K mg (hidT s₁.heap H) callerA [] s₁ H := ⟨rfl, hM, fun b o e => of_hidT e, Nat.le_of_eq (hidT_size _ _), trivial, fun b hb => absurd (show b ∈ ([] : List Addr) from hb) (by simp), hok, .of_eq hg⟩
    refine codeAny_mono ((F _ hKb (nsK hns)).run callerA [] s₁ H ⟨[.ref a], []⟩ [.ref a] [.ref a] _ _ rfl hr e0 (hbind s₁ (.ref a)) (.cons rfl .nil) (hsp H hO hS)) fun r s' h => ?_
    cases r with
    | error e => exact (hCX H e s' h).elim
    | ok fl =>
      cases fl with
      | next => exact False.elim h
      | brk => exact False.elim h
      | cont => exact False.elim h
      | ret u =>
        obtain ⟨v, H', os, bare, un, hok', r', q⟩ := h
        have q' : v = .bl true := q
        subst q'
        obtain rfl : u = Value.bool true := r'
        refine ⟨rfl, OldK.of_keep fun b o e => ?_, os, bare⟩
        cases q : H b with
        | none => exact un.keep b o e q (by intro z; exact absurd (show b ∈ ([] : List Addr) from z) (by simp)) (by simp)
        | some u =>
          rcases hO b with z | ⟨ob, xs, z⟩
          · rw [q] at z; cases z
          · obtain ⟨e1, _⟩ := hok b _ z
            obtain ⟨e2, _⟩ := hok' b _ (un.frzs b ob _ z)
            rw [e] at e1; cases e1
            exact e2
  cases hk : K.lookup a with
  | some o =>
    have e := KX a o hk
    rw [ha] at e
    cases e
    exact core (fun _ => none) (fun _ => .inl rfl) (.inr ⟨_, vs.toArray, _, hk, rfl, rfl, rfl, by rw [List.size_toArray, lenV]; exact hl, by simpa using rv⟩) (fun b u z => by have z' : (none : Option HO) = some u := z; cases z') (fun b z => absurd rfl z) fun z => absurd rfl z
  | none =>
    refine core (fun b => if b = a then some (.frz { cls := .type "list", data := .seq vs.toArray } (.lst (ns.map V.int))) else none) (fun b => ?_) (.inl (.inr ⟨{ cls := .type "list", data := .seq vs.toArray }, if_pos rfl⟩)) (fun b u z => ?_) (fun b z => ?_) fun _ => hk
    · by_cases hb : b = a
      · exact .inr ⟨_, _, if_pos hb⟩
      · exact .inl (if_neg hb)
    · by_cases hb : b = a
      · have z' := (if_pos hb).symm.trans z
        cases z'
        subst hb
        exact ⟨ha, by rw [List.length_map]; exact hl, vs, _, rv, ha⟩
      · have z' := (if_neg hb).symm.trans z
        cases z'
    · by_cases hb : b = a
      · exact hb
      · exact absurd (if_neg hb) z
theorem walk_ofG {l : PySem.W.OpenLaw} {n k : Nat} {q : Program} {loose : List Str} {XP : (Str → Option Value) → Heap → Prop} {YP : World → Heap → Prop} {d : DefRec} {CX : CXT} {x : Str}
    (hn : l.most = some n) (hn2 : n ≤ sizeLine) (hdf : d.params.defaults = []) (hr : Room k callerA)
    (F : ∀ (w : World) (mg : Str → Option Value) (fa : Addr) (h : Heap), YP w h → h.Ns mainGlobals mg → mg d.name = some (.ref fa) →
      ∃ (K : PySem.W.Frag) (fd : FuncData) (sp : Sp), K.In h ∧ (∀ (s : Shared) (u : Value), BindsTo s fd ⟨[u], []⟩ [(x, u)]) ∧
        (∀ (H : Hp) (a : Addr) (ns : List Int), ns.length ≤ n → Only H → SqL K H a (ns.map V.int) → sp [.ref a] H (fun v _ => v = .bl true) fun _ _ _ => False) ∧
        ∀ base : Heap, K.In base → base.Ns mainGlobals mg → FnG l.prog w K mg base CX k fa fd [x] sp)
    (hCX : ∀ (H : Hp) (s : Shared) (e : Value) (s' : Shared), CX [] H s (fun _ _ _ => False) e s' → False) :
    PySem.W.WalkO q loose XP YP l.row.toRowW d [] (fun f vs => PySem.call f vs) := by
  refine Att.attach_call hn hdf fun w s₀ s₁ mg mb fa o pm cd doc a vs ns G Y ho hd hcd hmg hobj hints hlen hg => ?_
  obtain ⟨K, fd, sp, KX, hb, hsp, hF⟩ := F w mg fa _ Y G.T.g hmg
  exact law_callG KX G.T.g G.T.b G.T.builtins G.T.nolimit hg hobj hints (Nat.le_trans hlen hn2) hr hF hb (fun H hO hS => hsp H a ns hlen hO hS) fun H e s' => hCX H s₁ e s'
end L2
namespace Bk
open PySem PySem.Spec PyProof.Rows L2
/-- a def that asks for a repr -/
structure DfG (P : Program) (w : World) (K : PySem.W.Frag) (mg : Str → Option Value) (base : Heap) (G : Gx) (k : Nat) (x : Str) (n : Nat) (F : Fn) : Prop where
  ex : ∃ f fd ps, mg x = some (.ref f) ∧ PySem.W.keepIn K (.ref f) = true ∧ Binds K fd ps [] ∧ ps.length = n ∧ FnG P w K mg base (L2.CX P w) k f fd ps (spF G n F)
/-- a def called by keywords alone -/
structure DfK (P : Program) (w : World) (K : PySem.W.Frag) (mg : Str → Option Value) (base : Heap) (G : Gx) (k : Nat) (x : Str) (ks : List Str) (n : Nat) (g : {α : Type} → List α → List α) (F : Fn) : Prop where
  ex : ∃ f fd ps, mg x = some (.ref f) ∧ PySem.W.keepIn K (.ref f) = true ∧ KwB fd ps ks n g ∧ ps.length = n ∧ FnOk P w K mg base (L2.CX P w) k f fd ps (spF G n F)
section
variable {P : Program} {w : World} {K : PySem.W.Frag} {mg : Str → Option Value} {base : Heap} {G : Gx}
theorem DfG.trim {k : Nat} {x : Str} {n : Nat} {F : Fn} (d : DfG P w K mg base G k x n F) : DfG P w K mg base G k x n (trimF F) := by
  obtain ⟨f, fd, ps, h1, h2, h3, h4, h5⟩ := d.ex
  exact ⟨f, fd, ps, h1, h2, h3, h4, h5.imp fun vs H Q E ⟨hl, s, S, ws, e, so, r, p⟩ => ⟨hl, s, S, ws, e, so, r, postF_trim so p⟩⟩
theorem DfK.trim {k : Nat} {x : Str} {n : Nat} {ks : List Str} {g : {α : Type} → List α → List α} {F : Fn} (d : DfK P w K mg base G k x ks n g F) : DfK P w K mg base G k x ks n g (trimF F) := by
  obtain ⟨f, fd, ps, h1, h2, h3, h4, h5⟩ := d.ex
  exact ⟨f, fd, ps, h1, h2, h3, h4, h5.imp fun vs H Q E ⟨hl, s, S, ws, e, so, r, p⟩ => ⟨hl, s, S, ws, e, so, r, postF_trim so p⟩⟩
theorem FunD.fnG {x qual : Str} {params : Arguments} {bd : List Stmt} {scope : Scope} {dvs : List V} {kws : List (Str × V)} {f : Addr} {fd : FuncData} {CX : CXT} {N ps : List Str} {k : Nat} {sp : Sp} (F : FunD K x qual params bd scope dvs kws f fd) (S : FnScope N ps scope) (len : ∀ vs H Q E, sp vs H Q E → vs.length = ps.length)
    (hbody : ∀ (cdv : Value) (A : Around) (outer : List Env) (s : Shared) (H : Hp) (vs : List V) (Q : VK) (E : XK), (A.deeper (envOfC qual scope s.heap.objs.size f cdv)).guards = some [] → Room k (A.deeper (envOfC qual scope s.heap.objs.size f cdv)) → sp vs H Q E →
      ∃ t, PSs (cxOf CX P w K mg base N qual scope f cdv A outer s H E) bd t ∧ t { nx := fun _ H' => Q .non H', rt := Q } (start N vs) H) : FnG P w K mg base CX (k + 1) f fd ps sp := by
  obtain ⟨oc, od, dV, kV, doc, pm, an, cdv, ct, osl, rfl, lk, hcd, _, _⟩ := F.ex
  exact fnG_of lk hcd S len fun A outer s H vs Q E hg hr hsp => hbody cdv A outer s H vs Q E hg hr hsp
theorem df_okG {x : Str} {params : Arguments} {bd : List Stmt} {scope : Scope} {f : Addr} {fd : FuncData} (N ps : List Str) {k n : Nat} {m : MS} (F : FunD K x x params bd scope [] [] f fd) (hg : mg x = some (.ref f)) (Sc : FnScope N ps scope)
    (hb : ∀ (kV doc pm : Value) (an : Option Addr) (cdv ct : Value) (us : List Value), us.length = ps.length → bindArgs (PySem.W.fnOf x x params bd scope .none kV doc pm an cdv ct) ⟨us, []⟩ = pure (ps.zip us)) (hn : ps.length = n)
    (body : ∀ (cdv : Value) (A : Around) (outer : List Env) (s : Shared) (H : Hp) (E : XK), (A.deeper (envOfC x scope s.heap.objs.size f cdv)).guards = some [] → Room k (A.deeper (envOfC x scope s.heap.objs.size f cdv)) →
      RSs (cxOf (L2.CX P w) P w K mg base N x scope f cdv A outer s H E) G (WxE E) bd m) : DfG P w K mg base G (k + 1) x n (trimF (runF N.length m)) :=
  DfG.trim ⟨f, fd, ps, hg, F.kp, F.bindsN hb, hn, FunD.fnG F Sc (fun vs H Q E h => by rw [h.1, hn]) fun cdv A outer s H vs Q E hgd hr h => run_ok (body cdv A outer s H E hgd hr) (hn ▸ h)⟩
theorem df_okK {x : Str} {params : Arguments} {bd : List Stmt} {scope : Scope} {f : Addr} {fd : FuncData} (N ps ks : List Str) (g : {α : Type} → List α → List α) {k n : Nat} {m : MS} (F : FunD K x x params bd scope [] [] f fd) (hg : mg x = some (.ref f)) (Sc : FnScope N ps scope)
    (hb : ∀ (kV doc pm : Value) (an : Option Addr) (cdv ct : Value) (ws : List Value), ws.length = n → bindArgs (PySem.W.fnOf x x params bd scope .none kV doc pm an cdv ct) ⟨[], ks.zip ws⟩ = pure (ps.zip (g ws))) (hrel : ∀ {vs : List V} {us : List Value}, Vals vs us → Vals (g vs) (g us)) (hn : ps.length = n)
    (body : ∀ (cdv : Value) (A : Around) (outer : List Env) (s : Shared) (H : Hp) (E : XK), Room k (A.deeper (envOfC x scope s.heap.objs.size f cdv)) →
      RSs (cxOf (L2.CX P w) P w K mg base N x scope f cdv A outer s H E) G (WxE E) bd m) : DfK P w K mg base G (k + 1) x ks n g (trimF (runF N.length m)) := by
  refine DfK.trim ⟨f, fd, ps, hg, F.kp, ⟨fun s ws hw => ?_, hrel⟩, hn, F.ok Sc (fun vs H Q E h => by rw [h.1, hn]) fun cdv A outer s H vs Q E hr h => run_ok (body cdv A outer s H E hr) (hn ▸ h)⟩
  obtain ⟨oc, od, dV, kV, doc, pm, an, cdv, ct, osl, rfl, lk, hcd, hD, hK⟩ := F.ex
  rcases hD with ⟨_, rfl⟩ | ⟨e, _⟩
  · exact .of_eq (hb kV doc pm an cdv ct ws hw)
  · exact absurd rfl e
end
section
variable {X : Cx} {G : Gx} {Wx : WX} {k j : Nat}
theorem re_callG {x : Str} {n : Nat} {F : Fn} {e : Expr} {es : List Expr} {ma : MA} {p pos : Pos} (d : DfG X.prog X.w X.K X.mg X.base G k x n F) (hgd : X.A.guards = some []) (hr : Room j X.A) (hk : k ≤ j) (hg : Gl X x) (tk : Takes X Wx) (ha : RA X G Wx (e :: es) ma) (hdb : (x == ("__debug__" : Str)) = false := by decide)
    (he : starEach (e :: es) X.env = (false, eval e X.env) :: starEach es X.env := by rfl) (hpl : (backTo pos (starEach es X.env)).any (·.1) = false := by rfl) : RE X G Wx (.Call (.Name x p) (e :: es) [] pos) (mcall n F ma) := by
  obtain ⟨f, fd, ps, h1, h2, h3, h4, h5⟩ := d.ex
  have h6 : FnG X.prog X.w X.K X.mg X.base (L2.CX X.prog X.w) j f fd ps (spF G n F) := ⟨h5.len, fun A outer s H args us vs Q E hg hr => h5.run A outer s H args us vs Q E hg (hr.mono hk)⟩
  exact ⟨(pe_callG h6 hgd hr hg h1 h2 h3 (fun σ => passAt tk σ) ha.pe hdb he hpl).imp call_imp⟩
/-- keywords -/
structure RK (X : Cx) (G : Gx) (Wx : WX) (kws : List Keyword) (m : MA) : Prop where
  pk : PK X kws (tA G Wx m)
theorem _root_.L2.PK.imp {X : Cx} {e : List Keyword} {t u : TA} (h : PK X e t) (i : ∀ σ H Q, u σ H Q → t σ H Q) : PK X e u := ⟨fun p pins s σ H Q I q => h.run p pins s σ H Q I (i σ H Q q)⟩
theorem rk_nil : RK X G Wx [] mnil := ⟨PK.imp pk_nil fun σ H Q h => by
  obtain ⟨s, S, env, rfl, so, eo, h⟩ := h
  exact h s [] (Fr.refl s) so eo .nil⟩
theorem rk_cons {nm : Option Str} {e : Expr} {kpos : Pos} {kws : List Keyword} {ma : MW} {mr : MA} (ha : RW X G Wx e ma) (hr : RK X G Wx kws mr) : RK X G Wx (⟨nm, e, kpos⟩ :: kws) (mcons ma mr) := ⟨(pk_cons ha.pe hr.pk).imp fun σ H Q h => by
  obtain ⟨s, S, env, rfl, so, eo, h⟩ := h
  refine ⟨s, S, env, rfl, so, eo, (Post.bind h).imp fun v H1 ⟨t, a, S1, e, f1, so, eo, rv, p⟩ => ?_⟩
  subst e
  refine ⟨t, S1, env, rfl, so, eo, (Post.bind p).imp fun vs H2 ⟨u, b, S2, e, f2, so, eo, rvs, p⟩ => ?_⟩
  subst e
  exact p u (v :: vs) (Fr.refl u) so eo (.cons (rv.mono f2) rvs)⟩
structure GPerm (G : Gx) (g : {α : Type} → List α → List α) (n : Nat) : Prop where
  rep : ∀ {s : Sx} {vs : List V} {ws : List Vl}, ws.length = n → RepVs G s vs ws → RepVs G s (g vs) (g ws)
  len : ∀ {α : Type} {ws : List α}, ws.length = n → (g ws).length = n
def mcallK (n : Nat) (g : {α : Type} → List α → List α) (F : Fn) (ma : MA) : ME := fun env S => (ma env S).bind fun ws S => if ws.length = n then F (g ws) S else .fail
theorem re_callK {x : Str} {ks : List Str} {n : Nat} {g : {α : Type} → List α → List α} {F : Fn} {kws : List Keyword} {ma : MA} {p pos : Pos} (d : DfK X.prog X.w X.K X.mg X.base G k x ks n g F) (gp : GPerm G g n) (hr : Room j X.A) (hk : k ≤ j) (hg : Gl X x) (tk : Takes X Wx) (ha : RK X G Wx kws ma)
    (hall : (backToKw pos (keywordEach kws X.env)).all (·.1.isSome) = true := by rfl) (hks : (backToKw pos (keywordEach kws X.env)).filterMap (·.1) = ks := by rfl) (hdb : (x == ("__debug__" : Str)) = false := by decide)
    (hpl : (backToKw pos (keywordEach kws X.env)).any (·.1.isNone) = false := by rfl) : RE X G Wx (.Call (.Name x p) [] kws pos) (mcallK n g F ma) := by
  obtain ⟨f, fd, ps, h1, h2, h3, h4, h5⟩ := d.ex
  refine ⟨(pe_callKS h5 (hr.mono hk) hg h1 h2 h3 (fun σ => passAt tk σ) ha.pk hall hks hdb hpl).imp fun σ H Q h => ?_⟩
  obtain ⟨s, S, env, rfl, so, eo, h⟩ := h
  refine ⟨s, S, env, rfl, so, eo, (Post.bind h).imp fun vs H1 ⟨t, ws, S1, e, f, so, eo, rv, p⟩ => ?_⟩
  subst e
  split at p
  · rename_i hn
    have hv : vs.length = n := by rw [rv.length]; exact hn
    refine ⟨hv, gp.len hv, t, S1, g ws, rfl, so, gp.rep hn rv, ?_⟩
    cases q : F (g ws) S1 with
    | ok r S2 =>
      rw [q] at p
      exact fun u v f2 so2 r2 => p u v f2 so2 (eo.mono f2) r2
    | exn k d S2 =>
      rw [q] at p
      exact fun u c dd f2 so2 r2 => p u c dd f2 so2 (eo.mono f2) r2
    | fail => rw [q] at p; exact p
  · exact p.elim
/-- repr -/
def repC (d : PyData) : Bool := d.showable && !d.hasDict && decide (d.depth ≤ 64) && decide (d.shown.length ≤ 1000000)
def reprV : OpN := fun as S => match as with
  | [a] => match pyOf S a with
    | some d => if repC d = true then some (.val (.dat (.str d.shown)), S) else none
    | none => none
  | _ => none
theorem cr_rep0 : CallR X (.builtin "repr") (fun xs H Q => xs = [V.non] ∧ Q (.str "None") H) := by
  intro pins s σ H xs us Q I r h
  obtain ⟨rfl, q⟩ := h
  obtain ⟨u, rfl, ru⟩ := vals1 r
  cases (show u = Value.none from ru)
  exact PySem.P.repr_of_none ⟨.str _, H, I.tok _, ⟨_, rfl⟩, q⟩
theorem cr_repB : CallR X (.builtin "repr") (fun xs H Q => ∃ b, xs = [V.bl b] ∧ Q (.str (if b then "True" else "False")) H) := by
  intro pins s σ H xs us Q I r h
  obtain ⟨b, rfl, q⟩ := h
  obtain ⟨u, rfl, ru⟩ := vals1 r
  cases (show u = Value.bool b from ru)
  refine PySem.P.repr_of_bool ⟨.str (if b then "True" else "False"), H, I.tok _, ⟨s.toks, ?_⟩, q⟩
  cases b <;> rfl
theorem cr_repS : CallR X (.builtin "repr") (fun xs H Q => ∃ x, xs = [V.str x] ∧ (reprText x).length ≤ sizeLine ∧ Q (.str (reprText x)) H) := by
  intro pins s σ H xs us Q I r h
  obtain ⟨x, rfl, hz, q⟩ := h
  obtain ⟨u, rfl, t, rfl⟩ := vals1 r
  exact PySem.P.repr_of_str ⟨.str _, H, I.tok _, ⟨_, rfl⟩, q⟩ hz
theorem re_repr {e : Expr} {ma : MA} {p pos : Pos} (hgd : X.A.guards = some []) (hr : Room k X.A) (hg : Gl X "repr") (hm : X.mg "repr" = none) (ha : RA X G Wx [e] ma) (hK : G.K = X.K := by rfl) (he : starEach [e] X.env = (false, eval e X.env) :: starEach [] X.env := by rfl) : RE X G Wx (.Call (.Name "repr" p) [e] [] pos) (mN ma reprV) :=
  re_bltn (CallR.or (CallR.or (CallR.or cr_rep0 cr_repB) (CallR.or SkE.call_repr_int cr_repS)) (call_reprD hgd (by have := hr.un; omega))) (by
  intro s S xs as res S' so ra e Q q
  unfold reprV at e
  split at e
  · rename_i a
    obtain ⟨x, ex, r⟩ := rep1 ra
    split at e
    · rename_i d hd
      split at e
      · rename_i hc
        cases e
        have z := pyOf_ok so r hd
        have q := q s _ (Fr.refl s) so (.str _)
        unfold repC at hc
        simp only [Bool.and_eq_true, decide_eq_true_eq, Bool.not_eq_true'] at hc
        obtain ⟨⟨⟨c1, c2⟩, c3⟩, c4⟩ := hc
        subst ex
        cases z with
        | non => exact .inl (.inl (.inl ⟨rfl, q⟩))
        | bl b => exact .inl (.inl (.inr ⟨b, rfl, q⟩))
        | int i => exact .inl (.inr (.inl ⟨i, rfl, of_decide_eq_true c1, q⟩))
        | str x => exact .inl (.inr (.inr ⟨x, rfl, Nat.le_trans c4 (by rw [sizeLine_eq]; decide), q⟩))
        | lst h1 h2 => exact .inr ⟨_, _, rfl, hK ▸ Dp.lst h1 h2, c1, c2, c3, c4, q⟩
        | tup h1 h2 => exact .inr ⟨_, _, rfl, hK ▸ Dp.tup h1 h2, c1, c2, c3, c4, q⟩
      · cases e
    · cases e
  · cases e) hg hm PyProof.Rows.boot_repr ha (he := he)
end
end Bk
/-! text BkP -/
set_option Elab.async false
set_option linter.all false
set_option maxRecDepth 100000
set_option maxHeartbeats 2000000
set_option autoImplicit false
/-! BkP: products of tuples and lists by ints; sums in place. -/
namespace L2
open PySem PySem.Spec PyProof.Rows
theorem bk_tuple_mul1 (l : Addr) (items : Array Value) (n : Nat) (dd : Option Addr) (sl : Array (Option Value)) (u : Tok) :
    Meets (Builtin.«tuple.__mul__» ⟨[.ref l, .int 1 u], []⟩) (fun _ R s => s.heap.get? l = some { cls := .type "tuple", dict := dd, data := .seq items n, slots := sl } ∧ R (.ok (.ret (Value.ref l))) s) :=
  .of_wp fun prog w A R s h => by
    obtain ⟨hp, g, d, tk, os⟩ := s
    obtain ⟨hl, h⟩ := h
    have f1 := AutoSeq1.idx_int
    wp_walk using wpAny_loadPart' hl
    exact ⟨_, rfl, h⟩
def rRepT1 (K : PySem.W.Frag) : R2 := fun x y H Q => ∃ l xs, x = .ref l ∧ y = .int 1 ∧ SqT K H l xs ∧ Q (.ref l) H
theorem op_repT1 {X : Cx} : OpR X (binaryOp .Mult) (rRepT1 X.K) := by
  intro pins s σ H x y v u Q I rx ry h
  obtain ⟨l, xs, rfl, rfl, hT, q⟩ := h
  cases rx
  obtain ⟨t, rfl⟩ := ry
  obtain ⟨its, r, ⟨⟨cls, dd, data, sl⟩, ho, hc, n, hd⟩, hs⟩ := I.tuple hT
  simp only at hc hd
  subst hc hd
  refine wpAny_binaryOp_repeat_ref (T := "tuple") (U := "int") (by decide) ⟨_, ho, rfl⟩ (fun s' => typeIs_int s' 1 t) noFill_tuple_mul F.fills_int_mul F.slot_int_rmul repeat_tuple F.slot_int_index.lookup
    (call_meets F.slot_int_rmul (typeIs_int s 1 t) F.entry_int_rmul (F.args_int_rmul_2 _ _) (int_rmul_tuple 1 t l its.toArray n dd sl)
      ⟨ho, rfl, ⟨_, ho, rfl⟩, call_meets F.slot_tuple_mul ⟨_, ho, rfl⟩ F.entry_tuple_mul (F.args_tuple_mul_2 _ _) (bk_tuple_mul1 l its.toArray n dd sl t) ⟨ho, ?_⟩⟩)
  exact ⟨.ref l, H, I, rfl, q⟩
end L2
namespace Bk
open PySem PySem.Spec PyProof.Rows L2
section
variable {X : Cx} {G : Gx} {Wx : WX} {k j : Nat}
def repTV : Op2 := fun a b S => match a, b with
  | .dat (.tuple ds), .dat (.int i) => if i = 1 then some (.val (.dat (.tuple ds)), S) else if ds ≠ [] ∧ 2 ≤ i ∧ i ≤ 1000 ∧ ds.length ≤ 1000 then some (.val (.dat (.tuple (List.replicate i.toNat ds).flatten)), S) else none
  | _, _ => none
theorem dlAll_rep {K : PySem.W.Frag} {H : Hp} {vs : List V} {ds : List PyData} (h : DlAll K H vs ds) : ∀ n, DlAll K H (List.replicate n vs).flatten (List.replicate n ds).flatten
  | 0 => .nil
  | n + 1 => by
    rw [List.replicate_succ, List.replicate_succ, List.flatten_cons, List.flatten_cons]
    exact dlAll_append (dlAll_rep h n) h
theorem re_repT {a b : Expr} {ma mb : MW} {pos : Pos} (ha : RW X G Wx a ma) (hb : RW X G Wx b mb) (hK : G.K = X.K := by rfl) : RE X G Wx (.BinOp a .Mult b pos) (m2 ma mb repTV) :=
  re_bin (OpR.or op_repT1 op_repT) (by
  intro s S x y a b res S' so ra rb e Q q
  unfold repTV at e
  split at e
  · rename_i ds i
    cases rb
    cases ra with
    | @tup p vs _ h1 h2 =>
      split at e
      · rename_i hi
        cases e
        subst hi
        exact .inl ⟨p, vs, rfl, rfl, hK ▸ seqT_mono vis_all h1, q s _ (Fr.refl s) so (.tup h1 h2)⟩
      · split at e
        · rename_i hc
          cases e
          refine .inr ⟨p, i, vs, rfl, rfl, hK ▸ seqT_mono vis_all h1, fun z => hc.1 (by subst z; cases h2; rfl), hc.2.1, hc.2.2.1, by rw [dlAll_len h2]; exact hc.2.2.2, fun p1 hp => ?_⟩
          exact q _ _ (fr_grow so hp _) (so.grow hp _) (so.newTup hp (dlAll_rep h2 _))
        · cases e
  · cases e) ha hb
end
end Bk
namespace Bk
open PySem PySem.Spec PyProof.Rows L2
section
variable {P : Program} {w : World} {K : PySem.W.Frag} {mg : Str → Option Value} {base : Heap} {G : Gx}
theorem fn_trim {f : Addr} {fd : FuncData} {ps : List Str} {k n : Nat} {F : Fn} (h : FnOk P w K mg base (L2.CX P w) k f fd ps (spF G n F)) : FnOk P w K mg base (L2.CX P w) k f fd ps (spF G n (trimF F)) :=
  h.imp fun vs H Q E ⟨hl, s, S, ws, e, so, r, p⟩ => ⟨hl, s, S, ws, e, so, r, postF_trim so p⟩
theorem fn_okD {x qual : Str} {params : Arguments} {bd : List Stmt} {scope : Scope} {f : Addr} {fd : FuncData} (N ps : List Str) {k n : Nat} {m : MS} (F : FunD K x qual params bd scope [] [] f fd) (Sc : FnScope N ps scope) (hn : ps.length = n)
    (body : ∀ (cdv : Value) (A : Around) (outer : List Env) (s : Shared) (H : Hp) (E : XK), Room k (A.deeper (envOfC qual scope s.heap.objs.size f cdv)) →
      RSs (cxOf (L2.CX P w) P w K mg base N qual scope f cdv A outer s H E) G (WxE E) bd m) : FnOk P w K mg base (L2.CX P w) (k + 1) f fd ps (spF G n (trimF (runF N.length m))) :=
  fn_trim (F.ok Sc (fun vs H Q E h => by rw [h.1, hn]) fun cdv A outer s H vs Q E hr h => run_ok (body cdv A outer s H E hr) (hn ▸ h))
/-- a method -/
theorem mf_okD {c : Nat} {x qual : Str} {params : Arguments} {bd : List Stmt} {scope : Scope} {f : Addr} {fd : FuncData} (N ps : List Str) {k n : Nat} {m : MS} (hc : Cls K (G.cls c)) (hm : Meth K (G.cls c) x f) (F : FunD K x qual params bd scope [] [] f fd) (Sc : FnScope N ps scope)
    (hb : ∀ (kV doc pm : Value) (an : Option Addr) (cdv ct : Value) (us : List Value), us.length = ps.length → bindArgs (PySem.W.fnOf x qual params bd scope .none kV doc pm an cdv ct) ⟨us, []⟩ = pure (ps.zip us)) (hn : ps.length = n)
    (body : ∀ (cdv : Value) (A : Around) (outer : List Env) (s : Shared) (H : Hp) (E : XK), Room k (A.deeper (envOfC qual scope s.heap.objs.size f cdv)) →
      RSs (cxOf (L2.CX P w) P w K mg base N qual scope f cdv A outer s H E) G (WxE E) bd m) : Mf P w K mg base G (k + 1) c x n (trimF (runF N.length m)) :=
  ⟨f, fd, ps, hc, hm, F.bindsN hb, hn, fn_okD N ps F Sc hn body⟩
/-- a constructor -/
theorem kf_okD {c : Nat} {cx qual : Str} {params : Arguments} {bd : List Stmt} {scope : Scope} {f : Addr} {fd : FuncData} (N ps : List Str) {k n : Nat} {m : MS} (hk : Mk K (G.cls c) f) (hg : mg cx = some (.ref (G.cls c))) (F : FunD K "__init__" qual params bd scope [] [] f fd) (Sc : FnScope N ps scope)
    (hb : ∀ (kV doc pm : Value) (an : Option Addr) (cdv ct : Value) (us : List Value), us.length = ps.length → bindArgs (PySem.W.fnOf "__init__" qual params bd scope .none kV doc pm an cdv ct) ⟨us, []⟩ = pure (ps.zip us)) (hn : ps.length = n)
    (body : ∀ (cdv : Value) (A : Around) (outer : List Env) (s : Shared) (H : Hp) (E : XK), Room k (A.deeper (envOfC qual scope s.heap.objs.size f cdv)) →
      RSs (cxOf (L2.CX P w) P w K mg base N qual scope f cdv A outer s H E) G (WxE E) bd m) : Kf P w K mg base G (k + 1) c cx n (trimF (runF N.length m)) :=
  ⟨f, fd, ps, hk.makes, hk, hg, F.bindsN hb, hn, fn_okD N ps F Sc hn body⟩
end
section
variable {X : Cx} {G : Gx} {Wx : WX} {k j : Nat}
/-- what a list that is zipped together comes to -/
def lzipV : OpN := fun as S => match as with
  | [a, b] => match lsD a, lsD b with
    | some xs, some ys => some (.new ((zipD xs ys).map .dat), S)
    | _, _ => none
  | _ => none
end
end Bk
/-! text BkQ -/
set_option Elab.async false
set_option linter.all false
set_option maxRecDepth 100000
set_option maxHeartbeats 2000000
set_option autoImplicit false
/-! BkQ: the facts of own exceptions, from the head. -/
namespace Bk
open PySem PySem.Spec PyProof.Rows L2 PySem.SupX
def supI (K : PySem.W.Frag) : Addr := He.ma K (He.ga K "BucketError") "__init__"
/-- the base's __init__, its cell, its code -/
structure SupB (K : PySem.W.Frag) (P : Program) : Prop where
  ex : ∃ (cc cda : Addr) (oc : Value) (od : Option Addr) (doc pm : Value) (an : Option Addr) (ct : Value) (osl : Array (Option Value)) (p1 p2 : Pos) (qn : Str),
    K.lookup (supI K) = some ⟨oc, od, .func (PySem.W.ksFn "__init__" qn (iA p1 p2) iB iS .none .none doc pm an (.ref cda) ct cc), osl⟩ ∧ PySem.W.codeIn K (.ref cda) qn = true ∧
    (∃ cl cld csl, K.lookup cc = some ⟨cl, cld, .cell (some (.ref (He.ga K "BucketError"))), csl⟩) ∧
    (∃ ccl cdd vs ccs file tf, K.lookup cda = some ⟨ccl, cdd, .fields vs, ccs⟩ ∧ vs[2]? = some (.str file tf) ∧ ((P.main.file : Str) == file) = true)
  top : (P.main.scope.names.lookup ("super" : Str)).isSome = false
def clsB (K : PySem.W.Frag) (C : Addr) : Bool := match K.lookup C with
  | some ⟨.type "type", _, .cls cd, sl⟩ => (match cd.mro, sl.toList with
    | .ref C' :: bm, [_, _, _, _, some (.builtin n), _] => C' == C && n == "ValueError.__new__" && !cd.hasDel && cd.hasDict && HandSPX.refsVE bm
    | _, _ => false)
  | _ => false
theorem clsB_ok {K : PySem.W.Frag} {C : Addr} (q : clsB K C = true) : ∃ nm q N bs bm sn sub ab col dd k0 k1 k2 k3 k5, K.lookup C = some (excClassObj nm q C N bs bm true sn sub ab col dd k0 k1 k2 k3 k5 "ValueError.__new__") ∧ HandSPX.refsVE bm = true := by
  unfold clsB at q
  split at q
  · rename_i dd cd sl ho
    split at q
    · rename_i C' bm k0 k1 k2 k3 n k5 hm hs
      simp only [Bool.and_eq_true, beq_iff_eq, Bool.not_eq_true'] at q
      obtain ⟨⟨⟨⟨rfl, rfl⟩, hdel⟩, hdi⟩, hv⟩ := q
      obtain ⟨nm, bs, mro, ns, qn, hd, sn, sub, ab, col, del⟩ := cd
      dsimp only at hm hdel hdi
      subst hm hdel hdi
      have hsl : sl = #[k0, k1, k2, k3, some (.builtin "ValueError.__new__"), k5] := by
        obtain ⟨l⟩ := sl
        simp only at hs
        rw [hs]
      subst hsl
      exact ⟨nm, qn, ns, bs, bm, sn, sub, ab, col, dd, k0, k1, k2, k3, k5, ho, hv⟩
    · cases q
  · cases q
def supL (K : PySem.W.Frag) (C D : Addr) : List Bool := [clsB K C,
  He.eqO (PySem.W.findIn K (.ref C) "__setattr__") (some (some (.builtin "object.__setattr__"))),
  He.eqO (PySem.W.findIn K (.ref C) "value") (some none),
  He.eqO (PySem.W.findIn K (.ref C) "__init__") (some (some (.ref (He.ma K D "__init__")))),
  decide (PySem.W.typeIn K (.ref (He.ma K D "__init__")) = some (.type "function")),
  PySem.W.keepIn K (.ref C),
  decide (PySem.W.subIn K (.ref C) (.type "BaseException") = some true),
  decide (PySem.W.subIn K (.ref C) (.type "ValueError") = some true),
  decide (PySem.W.typeIn K (.ref C) = some (.type "type")),
  He.eqO (PySem.W.ks_superIn K C D "__init__") (some (some (.builtin "ValueError.__init__"))),
  (PySem.W.clsIn K D).isSome,
  decide (PySem.W.mroIn K C (.ref D) = some true),
  He.eqO (PySem.W.nsIn K cStatics "thirdparty.any") (some none)]
def supB (K : PySem.W.Frag) (C D : Addr) : Bool := (supL K C D).all id
theorem sup_of {K : PySem.W.Frag} {P : Program} {C : Addr} (h : supB K C (He.ga K "BucketError") = true) (Z : SupB K P) : ∃ D fI cc cda, Txt K P C D fI cc cda := by
  have at_ : ∀ (i : Nat) {b : Bool}, (supL K C (He.ga K "BucketError"))[i]? = some b → b = true := fun i b e => List.all_eq_true.mp h b (List.mem_of_getElem? e)
  obtain ⟨cc, cda, oc, od, doc, pm, an, ct, osl, p1, p2, qn, h1, h2, h3, h4⟩ := Z.ex
  exact ⟨He.ga K "BucketError", supI K, cc, cda, {
    cls := clsB_ok (at_ 0 rfl), sa := He.eqO_ok (at_ 1 rfl), noN := He.eqO_ok (at_ 2 rfl), iC := He.eqO_ok (at_ 3 rfl), tC := of_decide_eq_true (at_ 4 rfl), kC := at_ 5 rfl,
    exC := of_decide_eq_true (at_ 6 rfl), veC := of_decide_eq_true (at_ 7 rfl), tyC := of_decide_eq_true (at_ 8 rfl), sup := He.eqO_ok (at_ 9 rfl), cD := Option.isSome_iff_exists.mp (at_ 10 rfl), mro := of_decide_eq_true (at_ 11 rfl),
    cell := h3, code := h4, any := He.eqO_ok (at_ 12 rfl), top := Z.top, fn := ⟨oc, od, doc, pm, an, ct, osl, p1, p2, qn, h1, h2⟩ }⟩
def xiL (K : PySem.W.Frag) (C : Addr) : List Bool := [
  He.eqO (PySem.W.findIn K (.ref C) "__getattribute__") (some (some (.builtin "BaseException.__getattribute__"))),
  He.eqO (PySem.W.findIn K (.ref C) "__getattr__") (some none),
  decide (PySem.W.subIn K (.ref C) (.type "BaseException") = some true),
  PySem.W.hasDictIn K C,
  He.eqO (PySem.W.findIn K (.ref C) "value") (some none),
  (PySem.W.clsIn K C).isSome,
  He.eqO (PySem.W.findIn K (.ref C) "__class__") (some (some (.builtin "object.__class__"))),
  He.eqO (PySem.W.specialIn K (.builtin "object.__class__") "__get__") (some (some (.builtin "getset_descriptor.__get__"))),
  decide (PySem.W.takesIn K (.builtin "object.__class__") = some true),
  decide (PySem.W.mroIn K C (.type "object") = some true)]
def xiB (K : PySem.W.Frag) (C : Addr) : Bool := (xiL K C).all id
theorem xi_of {X : Cx} {G : Gx} {c : Nat} (h : xiB X.K (G.cls c) = true) : Xi X G c := by
  have at_ : ∀ (i : Nat) {b : Bool}, (xiL X.K (G.cls c))[i]? = some b → b = true := fun i b e => List.all_eq_true.mp h b (List.mem_of_getElem? e)
  exact { ga := He.eqO_ok (at_ 0 rfl), gg := He.eqO_ok (at_ 1 rfl), ex := of_decide_eq_true (at_ 2 rfl), hd := at_ 3 rfl, no := He.eqO_ok (at_ 4 rfl), cl := at_ 5 rfl, ha := He.eqO_ok (at_ 6 rfl), hn := He.eqO_ok (at_ 7 rfl), ht := of_decide_eq_true (at_ 8 rfl), hm := of_decide_eq_true (at_ 9 rfl) }
section
variable {X : Cx} {G : Gx} {Wx : WX} {k j : Nat}
theorem put_pairs : ∀ {ps : List Pr} {ds : List PyData} {t : Sx} {S : Sto}, SOk G t S → (∀ q ∈ ps, t.H q.1 = none) → (ps.map (·.1)).Nodup → Paired (fun (q : Pr) (d : PyData) => ∃ x y, d = .tuple [x, y] ∧ Dl G.K t.vis q.2.1 x ∧ Dl G.K t.vis q.2.2 y) ps ds →
    ∃ t' : Sx, t'.H = putP t.H ps ∧ Fr t t' ∧ SOk G t' S ∧ RepVs G t' (ps.map fun q => V.ref q.1) (ds.map .dat)
  | [], _, t, S, so, _, _, h => by
    cases h
    exact ⟨t, rfl, Fr.refl t, so, .nil⟩
  | q :: r, d :: ds, t, S, so, hn, nd, .cons h1 h2 => by
    obtain ⟨x, y, ed, d1, d2⟩ := h1
    subst ed
    have hq := hn q List.mem_cons_self
    rw [List.map_cons, List.nodup_cons] at nd
    have f := fr_grow so hq (.tup [q.2.1, q.2.2])
    have so1 := so.grow hq (.tup [q.2.1, q.2.2])
    have r1 := so.newTup hq (.cons d1 (.cons d2 .nil))
    obtain ⟨t', e, f2, so2, rv⟩ := put_pairs (ps := r) (ds := ds) so1 (fun p hp => by
      show upd t.H q.1 _ p.1 = none
      rw [upd_ne (fun z => nd.1 (by rw [← z]; exact List.mem_map_of_mem hp))]
      exact hn p (List.mem_cons_of_mem _ hp)) nd.2 (Paired.mapP h2 fun p d ⟨x, y, e, a, b⟩ => ⟨x, y, e, dl_mono f.same _ _ a, dl_mono f.same _ _ b⟩)
    exact ⟨t', e, f.trans f2, so2, .cons (r1.mono f2) rv⟩
theorem zip_paired {K : PySem.W.Frag} {H : Hp} : ∀ {xs ys : List PyData} {vs us : List V} {ps : List Pr}, DlAll K H vs xs → DlAll K H us ys → ps.map (fun q => (q.2.1, q.2.2)) = vs.zip us → Paired (fun (q : Pr) (d : PyData) => ∃ x y, d = .tuple [x, y] ∧ Dl K H q.2.1 x ∧ Dl K H q.2.2 y) ps (zipD xs ys)
  | [], ys, _, us, ps, h, h', e => by
    cases h
    have : ps = [] := List.map_eq_nil_iff.mp e
    subst this
    exact .nil
  | x :: xs, [], _, _, ps, h, h', e => by
    cases h'
    rw [List.zip_nil_right] at e
    have : ps = [] := List.map_eq_nil_iff.mp e
    subst this
    exact .nil
  | x :: xs, y :: ys, _, _, ps, h, h', e => by
    cases h with
    | cons a1 a2 =>
      cases h' with
      | cons b1 b2 =>
        cases ps with
        | nil => cases e
        | cons q r =>
          rw [List.map_cons, List.zip_cons_cons] at e
          obtain ⟨e1, e2⟩ := List.cons.inj e
          obtain ⟨g1, g2⟩ := Prod.mk.inj e1
          exact .cons ⟨x, y, rfl, by rw [g1]; exact a1, by rw [g2]; exact b1⟩ (zip_paired a2 b2 e2)
theorem re_lzip2 {e1 e2 : Expr} {ma : MA} {p p2 pos pos2 : Pos} (hc : X.calm = true) (hg : Gl X "list") (hm : X.mg "list" = none) (hg2 : Gl X "zip") (hm2 : X.mg "zip" = none) (ha : RA X G Wx [e1, e2] ma) (hK : G.K = X.K := by rfl)
    (hs0 : starEach [.Call (.Name "zip" p2) [e1, e2] [] pos2] X.env = (false, eval (.Call (.Name "zip" p2) [e1, e2] [] pos2) X.env) :: starEach [] X.env := by rfl)
    (hs : starEach [e1, e2] X.env = (false, eval e1 X.env) :: starEach [e2] X.env := by rfl) (hpl : (backTo pos2 (starEach [e2] X.env)).any (·.1) = false := by rfl) : RE X G Wx (.Call (.Name "list" p) [.Call (.Name "zip" p2) [e1, e2] [] pos2] [] pos) (mN ma lzipV) :=
  ⟨(pe_lzip hc hg hm hg2 hm2 ha.pe hs0 hs hpl).imp fun σ H Q h => by
  obtain ⟨s, S, env, rfl, so, eo, h⟩ := h
  refine ⟨s, S, env, rfl, so, eo, (Post.bind h).imp fun vs H1 ⟨t, ws, S1, e, f, so, eo, rv, p⟩ => ?_⟩
  subst e
  obtain ⟨res, S', e, q⟩ := p.aft eo
  unfold lzipV at e
  split at e
  · rename_i a b
    obtain ⟨x, y, ex, r1, r2⟩ := rep2 rv
    subst ex
    split at e
    · rename_i xs ys h1 h2
      cases e
      obtain ⟨a1, v1, rfl, q1, d1⟩ := lsD_ok r1 h1
      obtain ⟨a2, v2, rfl, q2, d2⟩ := lsD_ok r2 h2
      refine ⟨a1, a2, v1, v2, rfl, hK ▸ seqL_mono vis_all q1, hK ▸ seqL_mono vis_all q2, fun A ps m nd nS hA hps => ?_⟩
      obtain ⟨t', eH, f2, so2, rvs⟩ := put_pairs so hps nd (zip_paired d1 d2 m)
      have hA2 : t'.H A = none := by
        rw [eH, putP_off (fun p hp z => nS (by rw [← z]; exact List.mem_map_of_mem hp))]; exact hA
      have z := q (t'.putH A (.lst (ps.map fun q => V.ref q.1))) _ (f2.trans (fr_growH so2 hA2 _)) (so2.growH hA2 _) (so2.newList hA2 rvs)
      show Q (.ref A) (upd (putP t.H ps) A _)
      rw [← eH]; exact z
    · cases e
  · cases e⟩
end
end Bk
/-! text Q68 -/
set_option Elab.async false
set_option linter.all false
set_option maxRecDepth 100000
set_option maxHeartbeats 4000000
set_option autoImplicit false
namespace Qk68
open PySem PySem.Spec PyProof.Rows L2 Bk
def top (i : Nat) : Stmt := PySem.Challenge.pw_bucketsalong_k68_walkers_stands_and_what.main.body.getD i (.Pass ⟨0, 0, 0, 0⟩)
def sub (i j : Nat) : Stmt := (C8.clsBody (top i)).getD j (.Pass ⟨0, 0, 0, 0⟩)
abbrev PP : Program := (PySem.Challenge.rw_bucketsalong_k68_walkers_stands_and_what).prog
def k_ZERO : PyData := .tuple [.int 0, .int 1]
def k_ONE : PyData := .tuple [.int 1, .int 1]
def k_MOST_CUTS : PyData := .int 5
def k_MOST_PEOPLE_brigades : PyData := .int 5
def k_SYMBOL : PyData := .tuple [.tuple [.int 0, .int 1], .tuple [.int 1, .int 1]]
def k_NOUGHT : PyData := .tuple [.tuple [.int 0, .int 1], .tuple [.int 0, .int 1]]
def k_MOST_PEOPLE_rescales : PyData := .int 5
def k_MOST_OUT : PyData := .int 40
abbrev st_is_integer : Stmt := top 8
abbrev sc_is_integer : Scope := defScope st_is_integer
abbrev st_is_tuple : Stmt := top 9
abbrev sc_is_tuple : Scope := defScope st_is_tuple
abbrev st_is_word : Stmt := top 10
abbrev sc_is_word : Scope := defScope st_is_word
abbrev st_need_number : Stmt := top 11
abbrev sc_need_number : Scope := defScope st_need_number
abbrev st_is_below : Stmt := top 23
abbrev sc_is_below : Scope := defScope st_is_below
abbrev st_Crew_meeting : Stmt := sub 65 1
abbrev sc_Crew_meeting : Scope := defScope st_Crew_meeting
abbrev st_Crew_stands : Stmt := sub 65 10
abbrev sc_Crew_stands : Scope := defScope st_Crew_stands
abbrev st__law_pool : Stmt := top 85
abbrev sc__law_pool : Scope := defScope st__law_pool
abbrev st__law_take : Stmt := top 86
abbrev sc__law_take : Scope := defScope st__law_take
abbrev st__law_make : Stmt := top 87
abbrev sc__law_make : Scope := defScope st__law_make
abbrev st__law_settled : Stmt := top 92
abbrev sc__law_settled : Scope := defScope st__law_settled
abbrev st_is_fraction : Stmt := top 22
abbrev sc_is_fraction : Scope := defScope st_is_fraction
abbrev st_are_growing : Stmt := top 25
abbrev sc_are_growing : Scope := defScope st_are_growing
abbrev st_Crew_turned : Stmt := sub 65 2
abbrev sc_Crew_turned : Scope := defScope st_Crew_turned
abbrev st__law_twelfths : Stmt := top 88
abbrev sc__law_twelfths : Scope := defScope st__law_twelfths
abbrev st__law_places : Stmt := top 89
abbrev sc__law_places : Scope := defScope st__law_places
abbrev st__law_speed : Stmt := top 90
abbrev sc__law_speed : Scope := defScope st__law_speed
abbrev st__law_bad_walkers : Stmt := top 95
abbrev sc__law_bad_walkers : Scope := defScope st__law_bad_walkers
abbrev st__law_bad_stands : Stmt := top 96
abbrev sc__law_bad_stands : Scope := defScope st__law_bad_stands
abbrev st_is_positive : Stmt := top 24
abbrev sc_is_positive : Scope := defScope st_is_positive
abbrev st_are_cuts : Stmt := top 34
abbrev sc_are_cuts : Scope := defScope st_are_cuts
abbrev st_is_place : Stmt := top 60
abbrev sc_is_place : Scope := defScope st_is_place
abbrev st_Crew_settle : Stmt := sub 65 3
abbrev sc_Crew_settle : Scope := defScope st_Crew_settle
abbrev st__law_brigade : Stmt := top 91
abbrev sc__law_brigade : Scope := defScope st__law_brigade
abbrev st__law_stands : Stmt := top 94
abbrev sc__law_stands : Scope := defScope st__law_stands
abbrev st_are_speeds : Stmt := top 35
abbrev sc_are_speeds : Scope := defScope st_are_speeds
abbrev st_are_any_places : Stmt := top 61
abbrev sc_are_any_places : Scope := defScope st_are_any_places
abbrev st_Crew___init__ : Stmt := sub 65 0
abbrev sc_Crew___init__ : Scope := defScope st_Crew___init__
abbrev st__law_walkers : Stmt := top 93
abbrev sc__law_walkers : Scope := defScope st__law_walkers
abbrev st_is_a_brigade : Stmt := top 36
abbrev sc_is_a_brigade : Scope := defScope st_is_a_brigade
abbrev st_are_right_stands : Stmt := top 72
abbrev sc_are_right_stands : Scope := defScope st_are_right_stands
abbrev st_are_walkers : Stmt := top 70
abbrev sc_are_walkers : Scope := defScope st_are_walkers
abbrev st_anew : Stmt := top 12
abbrev sc_anew : Scope := defScope st_anew
abbrev st_need_time : Stmt := top 67
abbrev sc_need_time : Scope := defScope st_need_time
abbrev st_need_walkers : Stmt := top 71
abbrev sc_need_walkers : Scope := defScope st_need_walkers
abbrev st_are_stands : Stmt := top 73
abbrev sc_are_stands : Scope := defScope st_are_stands
abbrev st_need_stands : Stmt := top 74
abbrev sc_need_stands : Scope := defScope st_need_stands
abbrev st_joined : Stmt := top 80
abbrev sc_joined : Scope := defScope st_joined
abbrev st_round_of_all : Stmt := top 83
abbrev sc_round_of_all : Scope := defScope st_round_of_all
abbrev st_at_once : Stmt := top 75
abbrev sc_at_once : Scope := defScope st_at_once
abbrev st_stands_at : Stmt := top 76
abbrev sc_stands_at : Scope := defScope st_stands_at
abbrev st_outs_of : Stmt := top 77
abbrev sc_outs_of : Scope := defScope st_outs_of
abbrev st__law_about : Stmt := top 97
abbrev sc__law_about : Scope := defScope st__law_about
abbrev st__law_caught : Stmt := top 98
abbrev sc__law_caught : Scope := defScope st__law_caught
abbrev st_law : Stmt := top 99
abbrev sc_law : Scope := defScope st_law
abbrev dd_is_integer : He.DefD := ⟨("is_integer", none), "is_integer", "is_integer", defArgs st_is_integer, defBody st_is_integer, sc_is_integer, [], []⟩
abbrev dd_is_tuple : He.DefD := ⟨("is_tuple", none), "is_tuple", "is_tuple", defArgs st_is_tuple, defBody st_is_tuple, sc_is_tuple, [], []⟩
abbrev dd_is_word : He.DefD := ⟨("is_word", none), "is_word", "is_word", defArgs st_is_word, defBody st_is_word, sc_is_word, [], []⟩
abbrev dd_need_number : He.DefD := ⟨("need_number", none), "need_number", "need_number", defArgs st_need_number, defBody st_need_number, sc_need_number, [], []⟩
abbrev dd_is_below : He.DefD := ⟨("is_below", none), "is_below", "is_below", defArgs st_is_below, defBody st_is_below, sc_is_below, [], []⟩
abbrev dd_Crew_meeting : He.DefD := ⟨("Crew", some "meeting"), "meeting", "Crew.meeting", defArgs st_Crew_meeting, defBody st_Crew_meeting, sc_Crew_meeting, [], []⟩
abbrev dd_Crew_stands : He.DefD := ⟨("Crew", some "stands"), "stands", "Crew.stands", defArgs st_Crew_stands, defBody st_Crew_stands, sc_Crew_stands, [], []⟩
abbrev dd__law_pool : He.DefD := ⟨("_law_pool", none), "_law_pool", "_law_pool", defArgs st__law_pool, defBody st__law_pool, sc__law_pool, [], []⟩
abbrev dd__law_take : He.DefD := ⟨("_law_take", none), "_law_take", "_law_take", defArgs st__law_take, defBody st__law_take, sc__law_take, [], []⟩
abbrev dd__law_make : He.DefD := ⟨("_law_make", none), "_law_make", "_law_make", defArgs st__law_make, defBody st__law_make, sc__law_make, [], []⟩
abbrev dd__law_settled : He.DefD := ⟨("_law_settled", none), "_law_settled", "_law_settled", defArgs st__law_settled, defBody st__law_settled, sc__law_settled, [], []⟩
abbrev dd_is_fraction : He.DefD := ⟨("is_fraction", none), "is_fraction", "is_fraction", defArgs st_is_fraction, defBody st_is_fraction, sc_is_fraction, [], []⟩
abbrev dd_are_growing : He.DefD := ⟨("are_growing", none), "are_growing", "are_growing", defArgs st_are_growing, defBody st_are_growing, sc_are_growing, [], []⟩
abbrev dd_Crew_turned : He.DefD := ⟨("Crew", some "turned"), "turned", "Crew.turned", defArgs st_Crew_turned, defBody st_Crew_turned, sc_Crew_turned, [], []⟩
abbrev dd__law_twelfths : He.DefD := ⟨("_law_twelfths", none), "_law_twelfths", "_law_twelfths", defArgs st__law_twelfths, defBody st__law_twelfths, sc__law_twelfths, [], []⟩
abbrev dd__law_places : He.DefD := ⟨("_law_places", none), "_law_places", "_law_places", defArgs st__law_places, defBody st__law_places, sc__law_places, [], []⟩
abbrev dd__law_speed : He.DefD := ⟨("_law_speed", none), "_law_speed", "_law_speed", defArgs st__law_speed, defBody st__law_speed, sc__law_speed, [], []⟩
abbrev dd__law_bad_walkers : He.DefD := ⟨("_law_bad_walkers", none), "_law_bad_walkers", "_law_bad_walkers", defArgs st__law_bad_walkers, defBody st__law_bad_walkers, sc__law_bad_walkers, [], []⟩
abbrev dd__law_bad_stands : He.DefD := ⟨("_law_bad_stands", none), "_law_bad_stands", "_law_bad_stands", defArgs st__law_bad_stands, defBody st__law_bad_stands, sc__law_bad_stands, [], []⟩
abbrev dd_is_positive : He.DefD := ⟨("is_positive", none), "is_positive", "is_positive", defArgs st_is_positive, defBody st_is_positive, sc_is_positive, [], []⟩
abbrev dd_are_cuts : He.DefD := ⟨("are_cuts", none), "are_cuts", "are_cuts", defArgs st_are_cuts, defBody st_are_cuts, sc_are_cuts, [], []⟩
abbrev dd_is_place : He.DefD := ⟨("is_place", none), "is_place", "is_place", defArgs st_is_place, defBody st_is_place, sc_is_place, [], []⟩
abbrev dd_Crew_settle : He.DefD := ⟨("Crew", some "settle"), "settle", "Crew.settle", defArgs st_Crew_settle, defBody st_Crew_settle, sc_Crew_settle, [], []⟩
abbrev dd__law_brigade : He.DefD := ⟨("_law_brigade", none), "_law_brigade", "_law_brigade", defArgs st__law_brigade, defBody st__law_brigade, sc__law_brigade, [], []⟩
abbrev dd__law_stands : He.DefD := ⟨("_law_stands", none), "_law_stands", "_law_stands", defArgs st__law_stands, defBody st__law_stands, sc__law_stands, [], []⟩
abbrev dd_are_speeds : He.DefD := ⟨("are_speeds", none), "are_speeds", "are_speeds", defArgs st_are_speeds, defBody st_are_speeds, sc_are_speeds, [], []⟩
abbrev dd_are_any_places : He.DefD := ⟨("are_any_places", none), "are_any_places", "are_any_places", defArgs st_are_any_places, defBody st_are_any_places, sc_are_any_places, [], []⟩
abbrev dd_Crew___init__ : He.DefD := ⟨("Crew", some "__init__"), "__init__", "Crew.__init__", defArgs st_Crew___init__, defBody st_Crew___init__, sc_Crew___init__, [], []⟩
abbrev dd__law_walkers : He.DefD := ⟨("_law_walkers", none), "_law_walkers", "_law_walkers", defArgs st__law_walkers, defBody st__law_walkers, sc__law_walkers, [], []⟩
abbrev dd_is_a_brigade : He.DefD := ⟨("is_a_brigade", none), "is_a_brigade", "is_a_brigade", defArgs st_is_a_brigade, defBody st_is_a_brigade, sc_is_a_brigade, [], []⟩
abbrev dd_are_right_stands : He.DefD := ⟨("are_right_stands", none), "are_right_stands", "are_right_stands", defArgs st_are_right_stands, defBody st_are_right_stands, sc_are_right_stands, [], []⟩
abbrev dd_are_walkers : He.DefD := ⟨("are_walkers", none), "are_walkers", "are_walkers", defArgs st_are_walkers, defBody st_are_walkers, sc_are_walkers, [], []⟩
abbrev dd_anew : He.DefD := ⟨("anew", none), "anew", "anew", defArgs st_anew, defBody st_anew, sc_anew, [], []⟩
abbrev dd_need_time : He.DefD := ⟨("need_time", none), "need_time", "need_time", defArgs st_need_time, defBody st_need_time, sc_need_time, [], []⟩
abbrev dd_need_walkers : He.DefD := ⟨("need_walkers", none), "need_walkers", "need_walkers", defArgs st_need_walkers, defBody st_need_walkers, sc_need_walkers, [], []⟩
abbrev dd_are_stands : He.DefD := ⟨("are_stands", none), "are_stands", "are_stands", defArgs st_are_stands, defBody st_are_stands, sc_are_stands, [], []⟩
abbrev dd_need_stands : He.DefD := ⟨("need_stands", none), "need_stands", "need_stands", defArgs st_need_stands, defBody st_need_stands, sc_need_stands, [], []⟩
abbrev dd_joined : He.DefD := ⟨("joined", none), "joined", "joined", defArgs st_joined, defBody st_joined, sc_joined, [], []⟩
abbrev dd_round_of_all : He.DefD := ⟨("round_of_all", none), "round_of_all", "round_of_all", defArgs st_round_of_all, defBody st_round_of_all, sc_round_of_all, [], []⟩
abbrev dd_at_once : He.DefD := ⟨("at_once", none), "at_once", "at_once", defArgs st_at_once, defBody st_at_once, sc_at_once, [], []⟩
abbrev dd_stands_at : He.DefD := ⟨("stands_at", none), "stands_at", "stands_at", defArgs st_stands_at, defBody st_stands_at, sc_stands_at, [], []⟩
abbrev dd_outs_of : He.DefD := ⟨("outs_of", none), "outs_of", "outs_of", defArgs st_outs_of, defBody st_outs_of, sc_outs_of, [], []⟩
abbrev dd__law_about : He.DefD := ⟨("_law_about", none), "_law_about", "_law_about", defArgs st__law_about, defBody st__law_about, sc__law_about, [], []⟩
abbrev dd__law_caught : He.DefD := ⟨("_law_caught", none), "_law_caught", "_law_caught", defArgs st__law_caught, defBody st__law_caught, sc__law_caught, [], []⟩
abbrev dd_law : He.DefD := ⟨("law", none), "law", "law", defArgs st_law, defBody st_law, sc_law, [], []⟩
def fn : List He.DefD := [dd_is_integer, dd_is_tuple, dd_is_word, dd_need_number, dd_is_below, dd_Crew_meeting, dd_Crew_stands, dd__law_pool, dd__law_take, dd__law_make, dd__law_settled, dd_is_fraction, dd_are_growing, dd_Crew_turned, dd__law_twelfths, dd__law_places, dd__law_speed, dd__law_bad_walkers, dd__law_bad_stands, dd_is_positive, dd_are_cuts, dd_is_place, dd_Crew_settle, dd__law_brigade, dd__law_stands, dd_are_speeds, dd_are_any_places, dd_Crew___init__, dd__law_walkers, dd_is_a_brigade, dd_are_right_stands, dd_are_walkers, dd_anew, dd_need_time, dd_need_walkers, dd_are_stands, dd_need_stands, dd_joined, dd_round_of_all, dd_at_once, dd_stands_at, dd_outs_of, dd__law_about, dd__law_caught, dd_law]
def fa : List He.Fa := [.glo "is_integer", .glo "is_tuple", .glo "is_word", .glo "need_number", .glo "is_below", .glo "_law_pool", .glo "_law_take", .glo "_law_make", .glo "_law_settled", .glo "is_fraction", .glo "are_growing", .glo "_law_twelfths", .glo "_law_places", .glo "_law_speed", .glo "_law_bad_walkers", .glo "_law_bad_stands", .glo "is_positive", .glo "are_cuts", .glo "is_place", .glo "_law_brigade", .glo "_law_stands", .glo "are_speeds", .glo "are_any_places", .glo "_law_walkers", .glo "is_a_brigade", .glo "are_right_stands", .glo "are_walkers", .glo "anew", .glo "need_time", .glo "need_walkers", .glo "are_stands", .glo "need_stands", .glo "joined", .glo "round_of_all", .glo "at_once", .glo "stands_at", .glo "outs_of", .glo "_law_about", .glo "_law_caught", .glo "law", .free "abs", .free "all", .free "any", .free "bool", .free "int", .free "isinstance", .free "len", .free "list", .free "range", .free "repr", .free "sorted", .free "str", .free "tuple", .free "zip", .glo "ZERO", .glo "ONE", .int "MOST_CUTS" 5, .int "MOST_PEOPLE_brigades" 5, .glo "SYMBOL", .glo "NOUGHT", .int "MOST_PEOPLE_rescales" 5, .int "MOST_OUT" 40, .cls "Crew", .mkr "Crew", .glo "Crew", .meth "Crew" "meeting", .meth "Crew" "stands", .meth "Crew" "turned", .meth "Crew" "settle", .noat "Crew" "ahead", .noat "Crew" "backs", .noat "Crew" "cuts", .noat "Crew" "out", .noat "Crew" "people", .noat "Crew" "places", .noat "Crew" "time", .glo "BucketError", .free "super", .glo "InvalidNumber", .glo "InvalidTime", .glo "InvalidWalkers", .glo "InvalidStands"]
def clsN : List Str := ["BucketError", "InvalidNumber", "InvalidTime", "InvalidWalkers", "InvalidStands", "Beyond", "Crew"]
def exL (K : PySem.W.Frag) : List Bool := [He.tupB K "ZERO" [.int 0, .int 1],
  He.tupB K "ONE" [.int 1, .int 1],
  He.tupB K "SYMBOL" [.glo "ZERO", .glo "ONE"],
  He.tupB K "NOUGHT" [.glo "ZERO", .glo "ZERO"],
  He.eqO (PySem.W.nsIn K mainGlobals "gcd") (some (some (.builtin "math.gcd"))),
  supB K (He.ga K "InvalidNumber") (He.ga K "BucketError"),
  supB K (He.ga K "InvalidTime") (He.ga K "BucketError"),
  supB K (He.ga K "InvalidWalkers") (He.ga K "BucketError"),
  supB K (He.ga K "InvalidStands") (He.ga K "BucketError"),
  decide (PySem.W.exmOne K (.ref (He.ga K "InvalidNumber")) (.ref (He.ga K "BucketError")) = some true),
  decide (PySem.W.exmOne K (.ref (He.ga K "InvalidTime")) (.ref (He.ga K "BucketError")) = some true),
  decide (PySem.W.exmOne K (.ref (He.ga K "InvalidWalkers")) (.ref (He.ga K "BucketError")) = some true),
  decide (PySem.W.exmOne K (.ref (He.ga K "InvalidStands")) (.ref (He.ga K "BucketError")) = some true),
  xiB K (He.ga K "InvalidNumber"),
  xiB K (He.ga K "InvalidTime"),
  xiB K (He.ga K "InvalidWalkers"),
  xiB K (He.ga K "InvalidStands"),
  decide (PySem.W.kitOne K (.type "NoneType") (.ref (He.ga K "InvalidNumber")) = some false),
  decide (PySem.W.kitOne K (.ref (He.ga K "InvalidNumber")) (.ref (He.ga K "InvalidNumber")) = some true),
  decide (PySem.W.kitOne K (.ref (He.ga K "InvalidTime")) (.ref (He.ga K "InvalidNumber")) = some false),
  decide (PySem.W.kitOne K (.ref (He.ga K "InvalidWalkers")) (.ref (He.ga K "InvalidNumber")) = some false),
  decide (PySem.W.kitOne K (.ref (He.ga K "InvalidStands")) (.ref (He.ga K "InvalidNumber")) = some false),
  decide (PySem.W.kitOne K (.type "NoneType") (.ref (He.ga K "InvalidStands")) = some false),
  decide (PySem.W.kitOne K (.ref (He.ga K "InvalidNumber")) (.ref (He.ga K "InvalidStands")) = some false),
  decide (PySem.W.kitOne K (.ref (He.ga K "InvalidTime")) (.ref (He.ga K "InvalidStands")) = some false),
  decide (PySem.W.kitOne K (.ref (He.ga K "InvalidWalkers")) (.ref (He.ga K "InvalidStands")) = some false),
  decide (PySem.W.kitOne K (.ref (He.ga K "InvalidStands")) (.ref (He.ga K "InvalidStands")) = some true),
  decide (PySem.W.kitOne K (.type "NoneType") (.ref (He.ga K "InvalidTime")) = some false),
  decide (PySem.W.kitOne K (.ref (He.ga K "InvalidNumber")) (.ref (He.ga K "InvalidTime")) = some false),
  decide (PySem.W.kitOne K (.ref (He.ga K "InvalidTime")) (.ref (He.ga K "InvalidTime")) = some true),
  decide (PySem.W.kitOne K (.ref (He.ga K "InvalidWalkers")) (.ref (He.ga K "InvalidTime")) = some false),
  decide (PySem.W.kitOne K (.ref (He.ga K "InvalidStands")) (.ref (He.ga K "InvalidTime")) = some false),
  decide (PySem.W.kitOne K (.type "NoneType") (.ref (He.ga K "InvalidWalkers")) = some false),
  decide (PySem.W.kitOne K (.ref (He.ga K "InvalidNumber")) (.ref (He.ga K "InvalidWalkers")) = some false),
  decide (PySem.W.kitOne K (.ref (He.ga K "InvalidTime")) (.ref (He.ga K "InvalidWalkers")) = some false),
  decide (PySem.W.kitOne K (.ref (He.ga K "InvalidWalkers")) (.ref (He.ga K "InvalidWalkers")) = some true),
  decide (PySem.W.kitOne K (.ref (He.ga K "InvalidStands")) (.ref (He.ga K "InvalidWalkers")) = some false)]
def exB (K : PySem.W.Frag) : Bool := (exL K).all id
abbrev GG (K : PySem.W.Frag) : Gx := ⟨K, fun _ => 0, fun k => He.ga K (clsN.getD k "")⟩
abbrev BB (K : PySem.W.Frag) (mg : Str → Option Value) : Prop := Bs fa fn exB K mg
section
variable {w : World} {K : PySem.W.Frag} {mg : Str → Option Value} {base : Heap}
theorem exAt (B : BB K mg) (i : Nat) {b : Bool} (h : (exL K)[i]? = some b) : b = true := List.all_eq_true.mp B.more b (List.mem_of_getElem? h)
theorem gcd_ok (B : BB K mg) : mg "gcd" = some (.builtin "math.gcd") := B.mgOf (He.eqO_ok (exAt B 4 rfl))
theorem dl_ZERO (B : BB K mg) (H : Hp) : Dl K H (.ref (He.ga K "ZERO")) k_ZERO := .tup (He.tupB_ok (exAt B 0 rfl) H) (.cons (.int _) (.cons (.int _) (.nil)))
theorem g_ZERO (B : BB K mg) {X : Cx} (h : X.mg = mg) : GCon X (GG K) "ZERO" k_ZERO := ⟨V.ref (He.ga K "ZERO"), Value.ref (He.ga K "ZERO"), by rw [h]; exact B.glo 54 rfl, rfl, dl_ZERO B⟩
theorem dl_ONE (B : BB K mg) (H : Hp) : Dl K H (.ref (He.ga K "ONE")) k_ONE := .tup (He.tupB_ok (exAt B 1 rfl) H) (.cons (.int _) (.cons (.int _) (.nil)))
theorem g_ONE (B : BB K mg) {X : Cx} (h : X.mg = mg) : GCon X (GG K) "ONE" k_ONE := ⟨V.ref (He.ga K "ONE"), Value.ref (He.ga K "ONE"), by rw [h]; exact B.glo 55 rfl, rfl, dl_ONE B⟩
theorem g_MOST_CUTS (B : BB K mg) {X : Cx} (h : X.mg = mg) : GCon X (GG K) "MOST_CUTS" k_MOST_CUTS := by
  obtain ⟨t, e⟩ := B.intF 56 rfl
  exact ⟨.int 5, _, by rw [h]; exact e, ⟨t, rfl⟩, fun H => .int _⟩
theorem g_MOST_PEOPLE_brigades (B : BB K mg) {X : Cx} (h : X.mg = mg) : GCon X (GG K) "MOST_PEOPLE_brigades" k_MOST_PEOPLE_brigades := by
  obtain ⟨t, e⟩ := B.intF 57 rfl
  exact ⟨.int 5, _, by rw [h]; exact e, ⟨t, rfl⟩, fun H => .int _⟩
theorem dl_SYMBOL (B : BB K mg) (H : Hp) : Dl K H (.ref (He.ga K "SYMBOL")) k_SYMBOL := .tup (He.tupB_ok (exAt B 2 rfl) H) (.cons (dl_ZERO B H) (.cons (dl_ONE B H) (.nil)))
theorem g_SYMBOL (B : BB K mg) {X : Cx} (h : X.mg = mg) : GCon X (GG K) "SYMBOL" k_SYMBOL := ⟨V.ref (He.ga K "SYMBOL"), Value.ref (He.ga K "SYMBOL"), by rw [h]; exact B.glo 58 rfl, rfl, dl_SYMBOL B⟩
theorem dl_NOUGHT (B : BB K mg) (H : Hp) : Dl K H (.ref (He.ga K "NOUGHT")) k_NOUGHT := .tup (He.tupB_ok (exAt B 3 rfl) H) (.cons (dl_ZERO B H) (.cons (dl_ZERO B H) (.nil)))
theorem g_NOUGHT (B : BB K mg) {X : Cx} (h : X.mg = mg) : GCon X (GG K) "NOUGHT" k_NOUGHT := ⟨V.ref (He.ga K "NOUGHT"), Value.ref (He.ga K "NOUGHT"), by rw [h]; exact B.glo 59 rfl, rfl, dl_NOUGHT B⟩
theorem g_MOST_PEOPLE_rescales (B : BB K mg) {X : Cx} (h : X.mg = mg) : GCon X (GG K) "MOST_PEOPLE_rescales" k_MOST_PEOPLE_rescales := by
  obtain ⟨t, e⟩ := B.intF 60 rfl
  exact ⟨.int 5, _, by rw [h]; exact e, ⟨t, rfl⟩, fun H => .int _⟩
theorem g_MOST_OUT (B : BB K mg) {X : Cx} (h : X.mg = mg) : GCon X (GG K) "MOST_OUT" k_MOST_OUT := by
  obtain ⟨t, e⟩ := B.intF 61 rfl
  exact ⟨.int 40, _, by rw [h]; exact e, ⟨t, rfl⟩, fun H => .int _⟩
theorem cf_ahead (B : BB K mg) {X : Cx} (hK : X.K = K) : Cf X (GG K) [6] "ahead" := by
  intro c hc
  subst hK
  rcases List.mem_singleton.mp hc with rfl
  exact ⟨He.cls_ok (B.fact 62 rfl), He.noat_ok (B.fact 69 rfl)⟩
theorem cf_backs (B : BB K mg) {X : Cx} (hK : X.K = K) : Cf X (GG K) [6] "backs" := by
  intro c hc
  subst hK
  rcases List.mem_singleton.mp hc with rfl
  exact ⟨He.cls_ok (B.fact 62 rfl), He.noat_ok (B.fact 70 rfl)⟩
theorem cf_cuts (B : BB K mg) {X : Cx} (hK : X.K = K) : Cf X (GG K) [6] "cuts" := by
  intro c hc
  subst hK
  rcases List.mem_singleton.mp hc with rfl
  exact ⟨He.cls_ok (B.fact 62 rfl), He.noat_ok (B.fact 71 rfl)⟩
theorem cf_out (B : BB K mg) {X : Cx} (hK : X.K = K) : Cf X (GG K) [6] "out" := by
  intro c hc
  subst hK
  rcases List.mem_singleton.mp hc with rfl
  exact ⟨He.cls_ok (B.fact 62 rfl), He.noat_ok (B.fact 72 rfl)⟩
theorem cf_people (B : BB K mg) {X : Cx} (hK : X.K = K) : Cf X (GG K) [6] "people" := by
  intro c hc
  subst hK
  rcases List.mem_singleton.mp hc with rfl
  exact ⟨He.cls_ok (B.fact 62 rfl), He.noat_ok (B.fact 73 rfl)⟩
theorem cf_places (B : BB K mg) {X : Cx} (hK : X.K = K) : Cf X (GG K) [6] "places" := by
  intro c hc
  subst hK
  rcases List.mem_singleton.mp hc with rfl
  exact ⟨He.cls_ok (B.fact 62 rfl), He.noat_ok (B.fact 74 rfl)⟩
theorem cf_time (B : BB K mg) {X : Cx} (hK : X.K = K) : Cf X (GG K) [6] "time" := by
  intro c hc
  subst hK
  rcases List.mem_singleton.mp hc with rfl
  exact ⟨He.cls_ok (B.fact 62 rfl), He.noat_ok (B.fact 75 rfl)⟩
theorem gx_BucketError (B : BB K mg) : mg "BucketError" = some (.ref (He.ga K "BucketError")) := B.glo 76 rfl
theorem gx_InvalidNumber (B : BB K mg) : mg "InvalidNumber" = some (.ref (He.ga K "InvalidNumber")) := B.glo 78 rfl
theorem rz_InvalidNumber (B : BB K mg) (S : SupB K PP) {X : Cx} (hK : X.K = K) (hp : X.prog = PP) (hm : X.mg = mg) : Rz X (GG K) "InvalidNumber" 1 := ⟨by subst hK; rw [hp]; exact sup_of (exAt B 5 rfl) S, by rw [hm]; exact gx_InvalidNumber B, by rw [hm]; exact B.free 77 rfl⟩
theorem gx_InvalidTime (B : BB K mg) : mg "InvalidTime" = some (.ref (He.ga K "InvalidTime")) := B.glo 79 rfl
theorem rz_InvalidTime (B : BB K mg) (S : SupB K PP) {X : Cx} (hK : X.K = K) (hp : X.prog = PP) (hm : X.mg = mg) : Rz X (GG K) "InvalidTime" 2 := ⟨by subst hK; rw [hp]; exact sup_of (exAt B 6 rfl) S, by rw [hm]; exact gx_InvalidTime B, by rw [hm]; exact B.free 77 rfl⟩
theorem gx_InvalidWalkers (B : BB K mg) : mg "InvalidWalkers" = some (.ref (He.ga K "InvalidWalkers")) := B.glo 80 rfl
theorem rz_InvalidWalkers (B : BB K mg) (S : SupB K PP) {X : Cx} (hK : X.K = K) (hp : X.prog = PP) (hm : X.mg = mg) : Rz X (GG K) "InvalidWalkers" 3 := ⟨by subst hK; rw [hp]; exact sup_of (exAt B 7 rfl) S, by rw [hm]; exact gx_InvalidWalkers B, by rw [hm]; exact B.free 77 rfl⟩
theorem gx_InvalidStands (B : BB K mg) : mg "InvalidStands" = some (.ref (He.ga K "InvalidStands")) := B.glo 81 rfl
theorem rz_InvalidStands (B : BB K mg) (S : SupB K PP) {X : Cx} (hK : X.K = K) (hp : X.prog = PP) (hm : X.mg = mg) : Rz X (GG K) "InvalidStands" 4 := ⟨by subst hK; rw [hp]; exact sup_of (exAt B 8 rfl) S, by rw [hm]; exact gx_InvalidStands B, by rw [hm]; exact B.free 77 rfl⟩
theorem exm_all (B : BB K mg) {X : Cx} (hK : X.K = K) : ∀ k ∈ ([1, 2, 3, 4] : List Nat), PySem.W.exmOne X.K (.ref ((GG K).cls k)) (.ref (He.ga K "BucketError")) = some true := by
  intro c hc
  subst hK
  simp only [List.mem_cons, List.not_mem_nil, or_false] at hc
  rcases hc with rfl | rfl | rfl | rfl
  · exact of_decide_eq_true (exAt B 9 rfl)
  · exact of_decide_eq_true (exAt B 10 rfl)
  · exact of_decide_eq_true (exAt B 11 rfl)
  · exact of_decide_eq_true (exAt B 12 rfl)
theorem xi_all (B : BB K mg) {X : Cx} (hK : X.K = K) : ∀ k ∈ ([1, 2, 3, 4] : List Nat), Xi X (GG K) k := by
  intro c hc
  subst hK
  simp only [List.mem_cons, List.not_mem_nil, or_false] at hc
  rcases hc with rfl | rfl | rfl | rfl
  · exact xi_of (exAt B 13 rfl)
  · exact xi_of (exAt B 14 rfl)
  · exact xi_of (exAt B 15 rfl)
  · exact xi_of (exAt B 16 rfl)
theorem xc_all (B : BB K mg) {X : Cx} (hK : X.K = K) : ∀ k ∈ ([1, 2, 3, 4] : List Nat), Xc X (GG K) k := fun k h => (xi_all B hK k h).toXc
def tb_InvalidNumber : List (Nat × Bool) := [(1, true), (2, false), (3, false), (4, false)]
theorem nn_InvalidNumber (B : BB K mg) : PySem.W.kitOne K (.type "NoneType") (.ref (He.ga K "InvalidNumber")) = some false := of_decide_eq_true (exAt B 17 rfl)
theorem tbk_InvalidNumber (B : BB K mg) {X : Cx} (hK : X.K = K) : ∀ p ∈ tb_InvalidNumber, Xi X (GG K) p.1 ∧ PySem.W.kitOne X.K (.ref ((GG K).cls p.1)) (.ref (He.ga K "InvalidNumber")) = some p.2 := by
  intro c hc
  have hx := xi_all B hK
  subst hK
  simp only [tb_InvalidNumber, List.mem_cons, List.not_mem_nil, or_false] at hc
  rcases hc with rfl | rfl | rfl | rfl
  · exact ⟨hx _ (by decide), of_decide_eq_true (exAt B 18 rfl)⟩
  · exact ⟨hx _ (by decide), of_decide_eq_true (exAt B 19 rfl)⟩
  · exact ⟨hx _ (by decide), of_decide_eq_true (exAt B 20 rfl)⟩
  · exact ⟨hx _ (by decide), of_decide_eq_true (exAt B 21 rfl)⟩
def tb_InvalidStands : List (Nat × Bool) := [(1, false), (2, false), (3, false), (4, true)]
theorem nn_InvalidStands (B : BB K mg) : PySem.W.kitOne K (.type "NoneType") (.ref (He.ga K "InvalidStands")) = some false := of_decide_eq_true (exAt B 22 rfl)
theorem tbk_InvalidStands (B : BB K mg) {X : Cx} (hK : X.K = K) : ∀ p ∈ tb_InvalidStands, Xi X (GG K) p.1 ∧ PySem.W.kitOne X.K (.ref ((GG K).cls p.1)) (.ref (He.ga K "InvalidStands")) = some p.2 := by
  intro c hc
  have hx := xi_all B hK
  subst hK
  simp only [tb_InvalidStands, List.mem_cons, List.not_mem_nil, or_false] at hc
  rcases hc with rfl | rfl | rfl | rfl
  · exact ⟨hx _ (by decide), of_decide_eq_true (exAt B 23 rfl)⟩
  · exact ⟨hx _ (by decide), of_decide_eq_true (exAt B 24 rfl)⟩
  · exact ⟨hx _ (by decide), of_decide_eq_true (exAt B 25 rfl)⟩
  · exact ⟨hx _ (by decide), of_decide_eq_true (exAt B 26 rfl)⟩
def tb_InvalidTime : List (Nat × Bool) := [(1, false), (2, true), (3, false), (4, false)]
theorem nn_InvalidTime (B : BB K mg) : PySem.W.kitOne K (.type "NoneType") (.ref (He.ga K "InvalidTime")) = some false := of_decide_eq_true (exAt B 27 rfl)
theorem tbk_InvalidTime (B : BB K mg) {X : Cx} (hK : X.K = K) : ∀ p ∈ tb_InvalidTime, Xi X (GG K) p.1 ∧ PySem.W.kitOne X.K (.ref ((GG K).cls p.1)) (.ref (He.ga K "InvalidTime")) = some p.2 := by
  intro c hc
  have hx := xi_all B hK
  subst hK
  simp only [tb_InvalidTime, List.mem_cons, List.not_mem_nil, or_false] at hc
  rcases hc with rfl | rfl | rfl | rfl
  · exact ⟨hx _ (by decide), of_decide_eq_true (exAt B 28 rfl)⟩
  · exact ⟨hx _ (by decide), of_decide_eq_true (exAt B 29 rfl)⟩
  · exact ⟨hx _ (by decide), of_decide_eq_true (exAt B 30 rfl)⟩
  · exact ⟨hx _ (by decide), of_decide_eq_true (exAt B 31 rfl)⟩
def tb_InvalidWalkers : List (Nat × Bool) := [(1, false), (2, false), (3, true), (4, false)]
theorem nn_InvalidWalkers (B : BB K mg) : PySem.W.kitOne K (.type "NoneType") (.ref (He.ga K "InvalidWalkers")) = some false := of_decide_eq_true (exAt B 32 rfl)
theorem tbk_InvalidWalkers (B : BB K mg) {X : Cx} (hK : X.K = K) : ∀ p ∈ tb_InvalidWalkers, Xi X (GG K) p.1 ∧ PySem.W.kitOne X.K (.ref ((GG K).cls p.1)) (.ref (He.ga K "InvalidWalkers")) = some p.2 := by
  intro c hc
  have hx := xi_all B hK
  subst hK
  simp only [tb_InvalidWalkers, List.mem_cons, List.not_mem_nil, or_false] at hc
  rcases hc with rfl | rfl | rfl | rfl
  · exact ⟨hx _ (by decide), of_decide_eq_true (exAt B 33 rfl)⟩
  · exact ⟨hx _ (by decide), of_decide_eq_true (exAt B 34 rfl)⟩
  · exact ⟨hx _ (by decide), of_decide_eq_true (exAt B 35 rfl)⟩
  · exact ⟨hx _ (by decide), of_decide_eq_true (exAt B 36 rfl)⟩
def p0 {α : Type} (l : List α) : List α := match l with
  | [a] => [a]
  | _ => []
theorem gp_p0 {G : Gx} : GPerm G @p0 1 := ⟨by
  intro s vs ws hw r
  cases r with
  | nil => simp at hw
  | cons h0 r =>
    cases r with
    | nil => exact .cons h0 (.nil)
    | cons h1 r => simp at hw, by
  intro α ws hw
  match ws, hw with
  | [a], _ => rfl⟩
theorem gv_p0 {vs : List V} {us : List Value} (r : Vals vs us) : Vals (p0 vs) (p0 us) := by
  cases r with
  | nil => exact .nil
  | cons h0 r =>
    cases r with
    | nil => exact .cons h0 (.nil)
    | cons h1 r => exact .nil
def p10 {α : Type} (l : List α) : List α := match l with
  | [a, b] => [b, a]
  | _ => []
theorem gp_p10 {G : Gx} : GPerm G @p10 2 := ⟨by
  intro s vs ws hw r
  cases r with
  | nil => simp at hw
  | cons h0 r =>
    cases r with
    | nil => simp at hw
    | cons h1 r =>
      cases r with
      | nil => exact .cons h1 (.cons h0 (.nil))
      | cons h2 r => simp at hw, by
  intro α ws hw
  match ws, hw with
  | [a, b], _ => rfl⟩
theorem gv_p10 {vs : List V} {us : List Value} (r : Vals vs us) : Vals (p10 vs) (p10 us) := by
  cases r with
  | nil => exact .nil
  | cons h0 r =>
    cases r with
    | nil => exact .nil
    | cons h1 r =>
      cases r with
      | nil => exact .cons h1 (.cons h0 (.nil))
      | cons h2 r => exact .nil
def p210 {α : Type} (l : List α) : List α := match l with
  | [a, b, c] => [c, b, a]
  | _ => []
theorem gp_p210 {G : Gx} : GPerm G @p210 3 := ⟨by
  intro s vs ws hw r
  cases r with
  | nil => simp at hw
  | cons h0 r =>
    cases r with
    | nil => simp at hw
    | cons h1 r =>
      cases r with
      | nil => simp at hw
      | cons h2 r =>
        cases r with
        | nil => exact .cons h2 (.cons h1 (.cons h0 (.nil)))
        | cons h3 r => simp at hw, by
  intro α ws hw
  match ws, hw with
  | [a, b, c], _ => rfl⟩
theorem gv_p210 {vs : List V} {us : List Value} (r : Vals vs us) : Vals (p210 vs) (p210 us) := by
  cases r with
  | nil => exact .nil
  | cons h0 r =>
    cases r with
    | nil => exact .nil
    | cons h1 r =>
      cases r with
      | nil => exact .nil
      | cons h2 r =>
        cases r with
        | nil => exact .cons h2 (.cons h1 (.cons h0 (.nil)))
        | cons h3 r => exact .nil
/-! is_integer -/
theorem nd_is_integer : (["value"] : List Str).Nodup := by decide +kernel
def m_is_integer : MS :=
    (mret (me (mandV (misi "int" (mVar 0)) (mnotV (misi "bool" (mVar 0))))))
theorem fs_is_integer : FnScope (["value"] : List Str) (["value"] : List Str) sc_is_integer := ⟨rfl, rfl, rfl, nd_is_integer, rfl, by decide +kernel, by decide +kernel⟩
def F_is_integer : Fn := trimF (runF 1 (m_is_integer))
theorem r_is_integer (B : BB K mg) (Z : SupB K PP) (f : Addr) : ∀ (cdv : Value) (A : Around) (outer : List Env) (s : Shared) (H : Hp) (E : XK), Room 0 (A.deeper (envOfC "is_integer" sc_is_integer s.heap.objs.size f cdv)) →
    RSs (cxOf (L2.CX PP w) PP w K mg base (["value"] : List Str) "is_integer" sc_is_integer f cdv A outer s H E) (GG K) (WxE E) (defBody st_is_integer) (m_is_integer) := by
  have bl_bool : mg "bool" = none := B.free 43 rfl
  have bl_int : mg "int" = none := B.free 44 rfl
  have bl_isinstance : mg "isinstance" = none := B.free 45 rfl
  exact fun cdv A outer s H E hr =>
    (rs_one (rs_ret (RW.re (rw_and (rw_isi (by decide) PyProof.Rows.boot_int rfl bl_isinstance rfl bl_int (rw_var 0)) (rw_one (rw_not (rw_isi (by decide) PyProof.Rows.boot_bool rfl bl_isinstance rfl bl_bool (rw_var 0))))))))
theorem d_is_integer (B : BB K mg) (Z : SupB K PP) : Df PP w K mg base (GG K) 1 "is_integer" 1 (F_is_integer) := by
  obtain ⟨fd, F⟩ := B.def_ 0 (d := dd_is_integer) rfl
  exact df_okD (["value"] : List Str) (["value"]) F (B.glo 0 rfl) fs_is_integer (fun _ _ _ _ _ _ us hl => match us, hl with | [_], _ => rfl) rfl (r_is_integer B Z _)
/-! is_tuple -/
theorem nd_is_tuple : (["value", "low", "high"] : List Str).Nodup := by decide +kernel
def m_is_tuple : MS :=
    (mret (me (mandV (misi "tuple" (mVar 0)) (mw (mchain (mVar 1) (mw (mN (mcons (mVar 0) mnil) lenV)) (mVar 2) ile ile)))))
theorem fs_is_tuple : FnScope (["value", "low", "high"] : List Str) (["value", "low", "high"] : List Str) sc_is_tuple := ⟨rfl, rfl, rfl, nd_is_tuple, rfl, by decide +kernel, by decide +kernel⟩
def F_is_tuple : Fn := trimF (runF 3 (m_is_tuple))
theorem r_is_tuple (B : BB K mg) (Z : SupB K PP) (f : Addr) : ∀ (cdv : Value) (A : Around) (outer : List Env) (s : Shared) (H : Hp) (E : XK), Room 0 (A.deeper (envOfC "is_tuple" sc_is_tuple s.heap.objs.size f cdv)) →
    RSs (cxOf (L2.CX PP w) PP w K mg base (["value", "low", "high"] : List Str) "is_tuple" sc_is_tuple f cdv A outer s H E) (GG K) (WxE E) (defBody st_is_tuple) (m_is_tuple) := by
  have bl_isinstance : mg "isinstance" = none := B.free 45 rfl
  have bl_len : mg "len" = none := B.free 46 rfl
  have bl_tuple : mg "tuple" = none := B.free 52 rfl
  exact fun cdv A outer s H E hr =>
    (rs_one (rs_ret (RW.re (rw_and (rw_isi (by decide) PyProof.Rows.boot_tuple rfl bl_isinstance rfl bl_tuple (rw_var 0)) (rw_one (RE.rw (re_leLe (rw_var 1) (RE.rw (re_len rfl bl_len (ra_cons (rw_var 0) ra_nil))) (rw_var 2))))))))
theorem d_is_tuple (B : BB K mg) (Z : SupB K PP) : Df PP w K mg base (GG K) 1 "is_tuple" 3 (F_is_tuple) := by
  obtain ⟨fd, F⟩ := B.def_ 1 (d := dd_is_tuple) rfl
  exact df_okD (["value", "low", "high"] : List Str) (["value", "low", "high"]) F (B.glo 1 rfl) fs_is_tuple (fun _ _ _ _ _ _ us hl => match us, hl with | [_, _, _], _ => rfl) rfl (r_is_tuple B Z _)
/-! is_word -/
theorem nd_is_word : (["value", "words"] : List Str).Nodup := by decide +kernel
def m_is_word : MS :=
    (mret (me (mandV (misi "str" (mVar 0)) (mw (m2 (mVar 0) (mVar 1) (inV false))))))
theorem fs_is_word : FnScope (["value", "words"] : List Str) (["value", "words"] : List Str) sc_is_word := ⟨rfl, rfl, rfl, nd_is_word, rfl, by decide +kernel, by decide +kernel⟩
def F_is_word : Fn := trimF (runF 2 (m_is_word))
theorem r_is_word (B : BB K mg) (Z : SupB K PP) (f : Addr) : ∀ (cdv : Value) (A : Around) (outer : List Env) (s : Shared) (H : Hp) (E : XK), Room 0 (A.deeper (envOfC "is_word" sc_is_word s.heap.objs.size f cdv)) →
    RSs (cxOf (L2.CX PP w) PP w K mg base (["value", "words"] : List Str) "is_word" sc_is_word f cdv A outer s H E) (GG K) (WxE E) (defBody st_is_word) (m_is_word) := by
  have bl_isinstance : mg "isinstance" = none := B.free 45 rfl
  have bl_str : mg "str" = none := B.free 51 rfl
  exact fun cdv A outer s H E hr =>
    (rs_one (rs_ret (RW.re (rw_and (rw_isi (by decide) PyProof.Rows.boot_str rfl bl_isinstance rfl bl_str (rw_var 0)) (rw_one (RE.rw (re_c (cm_in) (rw_var 0) (rw_var 1))))))))
theorem d_is_word (B : BB K mg) (Z : SupB K PP) : Df PP w K mg base (GG K) 1 "is_word" 2 (F_is_word) := by
  obtain ⟨fd, F⟩ := B.def_ 2 (d := dd_is_word) rfl
  exact df_okD (["value", "words"] : List Str) (["value", "words"]) F (B.glo 2 rfl) fs_is_word (fun _ _ _ _ _ _ us hl => match us, hl with | [_, _], _ => rfl) rfl (r_is_word B Z _)
/-! need_number -/
theorem nd_need_number : (["number", "low", "high"] : List Str).Nodup := by decide +kernel
def m_need_number : MS :=
    (mIf (mor (mb (mw (m2 (mVar 0) (mVar 1) ilt))) (mand (mb (mw (m2 (mVar 2) (mC .none) (opIsN true)))) (mb (mw (m2 (mVar 0) (mVar 2) igt))))) (mraise 1 (mcons (mVar 0) mnil)) mnext)
theorem fs_need_number : FnScope (["number", "low", "high"] : List Str) (["number", "low", "high"] : List Str) sc_need_number := ⟨rfl, rfl, rfl, nd_need_number, rfl, by decide +kernel, by decide +kernel⟩
def F_need_number : Fn := trimF (runF 3 (m_need_number))
theorem r_need_number (B : BB K mg) (Z : SupB K PP) (f : Addr) : ∀ (cdv : Value) (A : Around) (outer : List Env) (s : Shared) (H : Hp) (E : XK), Room 0 (A.deeper (envOfC "need_number" sc_need_number s.heap.objs.size f cdv)) →
    RSs (cxOf (L2.CX PP w) PP w K mg base (["number", "low", "high"] : List Str) "need_number" sc_need_number f cdv A outer s H E) (GG K) (WxE E) (defBody st_need_number) (m_need_number) := by
  exact fun cdv A outer s H E hr =>
    (rs_one (rs_if (RP.rt (rp_or (rt_c cm_lt (rw_var 0) (rw_var 1)) (rp_or1 (RP.rt (rp_and (rt_c cm_notN (rw_var 2) rw_non) (rp_and1 (rt_c cm_gt (rw_var 0) (rw_var 2)))))))) (rs_one (rs_raise (rz_InvalidNumber B Z rfl rfl rfl) hr rfl (takes_of rfl rfl rfl rfl) rfl (ra_cons (rw_var 0) ra_nil))) rs_nil))
theorem d_need_number (B : BB K mg) (Z : SupB K PP) : Df PP w K mg base (GG K) 1 "need_number" 3 (F_need_number) := by
  obtain ⟨fd, F⟩ := B.def_ 3 (d := dd_need_number) rfl
  exact df_okD (["number", "low", "high"] : List Str) (["number", "low", "high"]) F (B.glo 3 rfl) fs_need_number (fun _ _ _ _ _ _ us hl => match us, hl with | [_, _, _], _ => rfl) rfl (r_need_number B Z _)
/-! is_below -/
theorem nd_is_below : (["one", "other"] : List Str).Nodup := by decide +kernel
def m_is_below : MS :=
    (mret (m2 (mw (m2 (mw (m2 (mVar 0) (mC (.int 0)) ixV)) (mw (m2 (mVar 1) (mC (.int 1)) ixV)) imul)) (mw (m2 (mw (m2 (mVar 1) (mC (.int 0)) ixV)) (mw (m2 (mVar 0) (mC (.int 1)) ixV)) imul)) ilt))
theorem fs_is_below : FnScope (["one", "other"] : List Str) (["one", "other"] : List Str) sc_is_below := ⟨rfl, rfl, rfl, nd_is_below, rfl, by decide +kernel, by decide +kernel⟩
def F_is_below : Fn := trimF (runF 2 (m_is_below))
theorem r_is_below (B : BB K mg) (Z : SupB K PP) (f : Addr) : ∀ (cdv : Value) (A : Around) (outer : List Env) (s : Shared) (H : Hp) (E : XK), Room 0 (A.deeper (envOfC "is_below" sc_is_below s.heap.objs.size f cdv)) →
    RSs (cxOf (L2.CX PP w) PP w K mg base (["one", "other"] : List Str) "is_below" sc_is_below f cdv A outer s H E) (GG K) (WxE E) (defBody st_is_below) (m_is_below) := by
  exact fun cdv A outer s H E hr =>
    (rs_one (rs_ret (re_c cm_lt (RE.rw (re_mul (RE.rw (re_ix (rw_var 0) rw_int)) (RE.rw (re_ix (rw_var 1) rw_int)))) (RE.rw (re_mul (RE.rw (re_ix (rw_var 1) rw_int)) (RE.rw (re_ix (rw_var 0) rw_int)))))))
theorem d_is_below (B : BB K mg) (Z : SupB K PP) : Df PP w K mg base (GG K) 1 "is_below" 2 (F_is_below) := by
  obtain ⟨fd, F⟩ := B.def_ 4 (d := dd_is_below) rfl
  exact df_okD (["one", "other"] : List Str) (["one", "other"]) F (B.glo 4 rfl) fs_is_below (fun _ _ _ _ _ _ us hl => match us, hl with | [_, _], _ => rfl) rfl (r_is_below B Z _)
/-! Crew.meeting -/
theorem nd_Crew_meeting : (["self", "index", "is_pair"] : List Str).Nodup := by decide +kernel
def m_Crew_meeting : MS :=
    (mseq (mfor (mrng1 (mcons (mw (m2 (mw (mN (mcons (mfld [6] "places" (mVar 0)) mnil) lenV)) (mC (.int 1)) isub)) mnil)) (mgN 1) (mseq (mset 2 (mandV (mw (m2 (mfld [6] "ahead" (mVar 0)) (mVar 1) ixV)) (mnotV (mw (m2 (mfld [6] "ahead" (mVar 0)) (mw (m2 (mVar 1) (mC (.int 1)) addV)) ixV)))))
    (mIf (mand (mb (mVar 2)) (mb (mw (m2 (mw (m2 (mfld [6] "places" (mVar 0)) (mVar 1) ixV)) (mw (m2 (mfld [6] "places" (mVar 0)) (mw (m2 (mVar 1) (mC (.int 1)) addV)) ixV)) (eqv false))))) (mret (me (mVar 1))) mnext)))
    (mret (me (mC .none))))
theorem fs_Crew_meeting : FnScope (["self", "index", "is_pair"] : List Str) (["self"] : List Str) sc_Crew_meeting := ⟨rfl, rfl, rfl, nd_Crew_meeting, rfl, by decide +kernel, by decide +kernel⟩
def F_Crew_meeting : Fn := trimF (runF 3 (m_Crew_meeting))
theorem r_Crew_meeting (B : BB K mg) (Z : SupB K PP) (f : Addr) : ∀ (cdv : Value) (A : Around) (outer : List Env) (s : Shared) (H : Hp) (E : XK), Room 0 (A.deeper (envOfC "Crew.meeting" sc_Crew_meeting s.heap.objs.size f cdv)) →
    RSs (cxOf (L2.CX PP w) PP w K mg base (["self", "index", "is_pair"] : List Str) "Crew.meeting" sc_Crew_meeting f cdv A outer s H E) (GG K) (WxE E) (defBody st_Crew_meeting) (m_Crew_meeting) := by
  have bl_len : mg "len" = none := B.free 46 rfl
  have bl_range : mg "range" = none := B.free 48 rfl
  exact fun cdv A outer s H E hr =>
    (rs_cons (rs_for (passes_of rfl) rfl (ri_range1 rfl bl_range (ra_cons (RE.rw (re_sub (RE.rw (re_len rfl bl_len (ra_cons (rw_fld [6] "places" (cf_places B rfl) (rw_var 0)) ra_nil))) rw_int)) ra_nil)) (rg_name (vs := [1]) 1 nd_Crew_meeting) (rs_cons (rs_set 2 nd_Crew_meeting (rw_and (RE.rw (re_ix (rw_fld [6] "ahead" (cf_ahead B rfl) (rw_var 0)) (rw_var 1))) (rw_one (rw_not (RE.rw (re_ix (rw_fld [6] "ahead" (cf_ahead B rfl) (rw_var 0)) (RE.rw (re_add (rw_var 1) rw_int))))))))
    (rs_one (rs_if (RP.rt (rp_and (rt_val (rw_var 2)) (rp_and1 (rt_c (cm_eq hr) (RE.rw (re_ix (rw_fld [6] "places" (cf_places B rfl) (rw_var 0)) (rw_var 1))) (RE.rw (re_ix (rw_fld [6] "places" (cf_places B rfl) (rw_var 0)) (RE.rw (re_add (rw_var 1) rw_int)))))))) (rs_one (rs_ret (RW.re (rw_var 1)))) rs_nil))))
    (rs_one (rs_ret (RW.re rw_non))))
theorem d_Crew_meeting (B : BB K mg) (Z : SupB K PP) : Mf PP w K mg base (GG K) 1 6 "meeting" 1 (F_Crew_meeting) := by
  obtain ⟨fd, F⟩ := B.def_ 5 (d := dd_Crew_meeting) rfl
  exact mf_okD (["self", "index", "is_pair"] : List Str) (["self"]) (He.cls_ok (B.fact 62 rfl)) (He.meth_ok (B.fact 65 rfl)) F fs_Crew_meeting (fun _ _ _ _ _ _ us hl => match us, hl with | [_], _ => rfl) rfl (r_Crew_meeting B Z _)
/-! Crew.stands -/
theorem nd_Crew_stands : (["self", "ways", "is_ahead"] : List Str).Nodup := by decide +kernel
theorem bo_Crew_stands_0 : BlkOk (["self", "ways", "is_ahead"] : List Str) (sc_Crew_stands) { kind := .function, names := [(".0", .local), ("is_ahead", .local)], isGenerator := false, isCoroutine := false, more := [] : PySem.Scope } [("is_ahead", 2)] := ⟨rfl, by decide +kernel, by decide +kernel, by decide +kernel, by decide +kernel⟩
def m_Crew_stands : MS :=
    (mseq (msetLc 1 (mlc [2] (misrc (mfld [6] "ahead" (mVar 0))) (mgN 2) myes (mw (mif (mb (mVar 2)) (me (mC (.str "ahead"))) (me (mC (.str "back")))))) true)
    (mret (mN (mcons (mw (mN (mcons (mfld [6] "places" (mVar 0)) (mcons (mVar 1) mnil)) lzipV)) mnil) tupV)))
theorem fs_Crew_stands : FnScope (["self", "ways", "is_ahead"] : List Str) (["self"] : List Str) sc_Crew_stands := ⟨rfl, rfl, rfl, nd_Crew_stands, rfl, by decide +kernel, by decide +kernel⟩
def F_Crew_stands : Fn := trimF (runF 3 (m_Crew_stands))
theorem r_Crew_stands (B : BB K mg) (Z : SupB K PP) (f : Addr) : ∀ (cdv : Value) (A : Around) (outer : List Env) (s : Shared) (H : Hp) (E : XK), Room 0 (A.deeper (envOfC "Crew.stands" sc_Crew_stands s.heap.objs.size f cdv)) →
    RSs (cxOf (L2.CX PP w) PP w K mg base (["self", "ways", "is_ahead"] : List Str) "Crew.stands" sc_Crew_stands f cdv A outer s H E) (GG K) (WxE E) (defBody st_Crew_stands) (m_Crew_stands) := by
  have bl_list : mg "list" = none := B.free 47 rfl
  have bl_tuple : mg "tuple" = none := B.free 52 rfl
  have bl_zip : mg "zip" = none := B.free 53 rfl
  exact fun cdv A outer s H E hr =>
    (rs_cons (rs_setLc 1 true [("is_ahead", 2)] rfl nd_Crew_stands (ri_seq (rw_fld [6] "ahead" (cf_ahead B rfl) (rw_var 0))) bo_Crew_stands_0 (fun s H C cl fp => (rg_name (vs := [2]) 2 nd_Crew_stands)) (fun s H C cl fp => rts_nil) (fun s H C cl fp => (RE.rw (re_ifExp (rt_val (rw_var 2)) (RW.re rw_str) (RW.re rw_str)))) rfl rfl rfl)
    (rs_one (rs_ret (re_tuple rfl bl_tuple (ra_cons (RE.rw (re_lzip2 rfl rfl bl_list rfl bl_zip (ra_cons (rw_fld [6] "places" (cf_places B rfl) (rw_var 0)) (ra_cons (rw_var 1) ra_nil)))) ra_nil)))))
theorem d_Crew_stands (B : BB K mg) (Z : SupB K PP) : Mf PP w K mg base (GG K) 1 6 "stands" 1 (F_Crew_stands) := by
  obtain ⟨fd, F⟩ := B.def_ 6 (d := dd_Crew_stands) rfl
  exact mf_okD (["self", "ways", "is_ahead"] : List Str) (["self"]) (He.cls_ok (B.fact 62 rfl)) (He.meth_ok (B.fact 66 rfl)) F fs_Crew_stands (fun _ _ _ _ _ _ us hl => match us, hl with | [_], _ => rfl) rfl (r_Crew_stands B Z _)
/-! _law_pool -/
theorem nd__law_pool : (["script", "many", "pool", "seed", "cell", "left", "k"] : List Str).Nodup := by decide +kernel
def m__law_pool : MS :=
    (mseq (mset 2 (mwM (mlst mnil)))
    (mseq (mset 3 (mC (.int 32788)))
    (mseq (mfor (misrc (mw (mslice (mVar 0) moN (moS (mC (.int 63)))))) (mgN 4) (mseq (mset 5 (mw (mN (mcons (mw (mN (mcons (mVar 4) mnil) intV)) mnil) absV)))
    (mseq (mset 3 (mw (m2 (mw (m2 (mw (m2 (mw (m2 (mw (m2 (mVar 3) (mC (.int 48271)) imul)) (mw (m2 (mw (mN (mcons (mVar 5) mnil) intV)) (mC (.int 2147483629)) imod)) addV)) (mw (m2 (mC (.int 7)) (mw (mN (mcons (mVar 2) mnil) lenV)) imul)) addV)) (mw (mN (mcons (mw (m2 (mVar 4) (mC (.int 0)) ilt)) mnil) intV)) addV)) (mC (.int 2147483647)) imod)))
    (mIf (mb (mw (m2 (mVar 5) (mw (m2 (mC (.int 10)) (mC (.int 18)) ipow)) ige))) (mfor (mrng1 (mcons (mC (.int 60)) mnil)) (mgN 6) (mIf (mb (mw (m2 (mVar 5) (mC (.int 0)) igt))) (mseq (mexpr (mmtL (mVar 2) (mcons (mw (m2 (mw (mN (mcons (mVar 5) mnil) intV)) (mC (.int 1000)) imod)) mnil) appendM))
    (mset 5 (mw (m2 (mVar 5) (mC (.int 1000)) idiv)))) mnext)) mnext))))
    (mseq (mfor (mrng1 (mcons (mVar 1) mnil)) (mgN 6) (mseq (mset 3 (mw (m2 (mw (m2 (mw (m2 (mw (m2 (mVar 3) (mC (.int 69621)) imul)) (mC (.int 12347)) addV)) (mVar 6) addV)) (mC (.int 2147483647)) imod)))
    (mexpr (mmtL (mVar 2) (mcons (mw (m2 (mw (m2 (mw (m2 (mw (mN (mcons (mw (m2 (mVar 3) (mw (m2 (mw (m2 (mVar 3) (mw (m2 (mC (.int 2)) (mVar 6) imul)) addV)) (mC (.int 1)) addV)) imul)) mnil) intV)) (mC (.int 2147483629)) imod)) (mC (.int 1009)) idiv)) (mC (.int 1000)) imod)) mnil) appendM))))
    (mret (m1 (mVar 2) revV))))))
theorem fs__law_pool : FnScope (["script", "many", "pool", "seed", "cell", "left", "k"] : List Str) (["script", "many"] : List Str) sc__law_pool := ⟨rfl, rfl, rfl, nd__law_pool, rfl, by decide +kernel, by decide +kernel⟩
def F__law_pool : Fn := trimF (runF 7 (m__law_pool))
theorem r__law_pool (B : BB K mg) (Z : SupB K PP) (f : Addr) : ∀ (cdv : Value) (A : Around) (outer : List Env) (s : Shared) (H : Hp) (E : XK), Room 0 (A.deeper (envOfC "_law_pool" sc__law_pool s.heap.objs.size f cdv)) →
    RSs (cxOf (L2.CX PP w) PP w K mg base (["script", "many", "pool", "seed", "cell", "left", "k"] : List Str) "_law_pool" sc__law_pool f cdv A outer s H E) (GG K) (WxE E) (defBody st__law_pool) (m__law_pool) := by
  have bl_abs : mg "abs" = none := B.free 40 rfl
  have bl_int : mg "int" = none := B.free 44 rfl
  have bl_len : mg "len" = none := B.free 46 rfl
  have bl_range : mg "range" = none := B.free 48 rfl
  exact fun cdv A outer s H E hr =>
    (rs_cons (rs_set 2 nd__law_pool (RE.rwM (re_lst ra_nil)))
    (rs_cons (rs_set 3 nd__law_pool rw_int)
    (rs_cons (rs_for (passes_of rfl) rfl (ri_seq (RE.rw (re_slice (rw_var 0) ro_none (ro_some rw_int)))) (rg_name (vs := [4]) 4 nd__law_pool) (rs_cons (rs_set 5 nd__law_pool (RE.rw (re_abs rfl bl_abs (ra_cons (RE.rw (re_int rfl bl_int (ra_cons (rw_var 4) ra_nil))) ra_nil))))
    (rs_cons (rs_set 3 nd__law_pool (RE.rw (re_mod (RE.rw (re_add (RE.rw (re_add (RE.rw (re_add (RE.rw (re_mul (rw_var 3) rw_int)) (RE.rw (re_mod (RE.rw (re_int rfl bl_int (ra_cons (rw_var 5) ra_nil))) rw_int)))) (RE.rw (re_mul rw_int (RE.rw (re_len rfl bl_len (ra_cons (rw_var 2) ra_nil))))))) (RE.rw (re_int rfl bl_int (ra_cons (RE.rw (re_c cm_lt (rw_var 4) rw_int)) ra_nil))))) rw_int)))
    (rs_one (rs_if (rt_c cm_ge (rw_var 5) (RE.rw (re_pow rw_int rw_int))) (rs_one (rs_for (passes_of rfl) rfl (ri_range1 rfl bl_range (ra_cons rw_int ra_nil)) (rg_name (vs := [6]) 6 nd__law_pool) (rs_one (rs_if (rt_c cm_gt (rw_var 5) rw_int) (rs_cons (rs_expr (re_append (rw_var 2) (ra_cons (RE.rw (re_mod (RE.rw (re_int rfl bl_int (ra_cons (rw_var 5) ra_nil))) rw_int)) ra_nil)))
    (rs_one (rs_set 5 nd__law_pool (RE.rw (re_div (rw_var 5) rw_int))))) rs_nil)))) rs_nil)))))
    (rs_cons (rs_for (passes_of rfl) rfl (ri_range1 rfl bl_range (ra_cons (rw_var 1) ra_nil)) (rg_name (vs := [6]) 6 nd__law_pool) (rs_cons (rs_set 3 nd__law_pool (RE.rw (re_mod (RE.rw (re_add (RE.rw (re_add (RE.rw (re_mul (rw_var 3) rw_int)) rw_int)) (rw_var 6))) rw_int)))
    (rs_one (rs_expr (re_append (rw_var 2) (ra_cons (RE.rw (re_mod (RE.rw (re_div (RE.rw (re_mod (RE.rw (re_int rfl bl_int (ra_cons (RE.rw (re_mul (rw_var 3) (RE.rw (re_add (RE.rw (re_add (rw_var 3) (RE.rw (re_mul rw_int (rw_var 6))))) rw_int)))) ra_nil))) rw_int)) rw_int)) rw_int)) ra_nil))))))
    (rs_one (rs_ret (re_rev (rw_var 2))))))))
theorem d__law_pool (B : BB K mg) (Z : SupB K PP) : Df PP w K mg base (GG K) 1 "_law_pool" 2 (F__law_pool) := by
  obtain ⟨fd, F⟩ := B.def_ 7 (d := dd__law_pool) rfl
  exact df_okD (["script", "many", "pool", "seed", "cell", "left", "k"] : List Str) (["script", "many"]) F (B.glo 5 rfl) fs__law_pool (fun _ _ _ _ _ _ us hl => match us, hl with | [_, _], _ => rfl) rfl (r__law_pool B Z _)
/-! _law_take -/
theorem nd__law_take : (["pool", "limit"] : List Str).Nodup := by decide +kernel
def m__law_take : MS :=
    (mseq (mIf (mb (mw (m2 (mVar 0) (mw (mlst mnil)) (eqv false)))) (mret (me (mC (.int 0)))) mnext)
    (mret (m2 (mw (mN (mcons (mw (mpop0 (mVar 0))) mnil) intV)) (mVar 1) imod)))
theorem fs__law_take : FnScope (["pool", "limit"] : List Str) (["pool", "limit"] : List Str) sc__law_take := ⟨rfl, rfl, rfl, nd__law_take, rfl, by decide +kernel, by decide +kernel⟩
def F__law_take : Fn := trimF (runF 2 (m__law_take))
theorem r__law_take (B : BB K mg) (Z : SupB K PP) (f : Addr) : ∀ (cdv : Value) (A : Around) (outer : List Env) (s : Shared) (H : Hp) (E : XK), Room 0 (A.deeper (envOfC "_law_take" sc__law_take s.heap.objs.size f cdv)) →
    RSs (cxOf (L2.CX PP w) PP w K mg base (["pool", "limit"] : List Str) "_law_take" sc__law_take f cdv A outer s H E) (GG K) (WxE E) (defBody st__law_take) (m__law_take) := by
  have bl_int : mg "int" = none := B.free 44 rfl
  exact fun cdv A outer s H E hr =>
    (rs_cons (rs_if (rt_c (cm_eq hr) (rw_var 0) (RE.rw (re_lst ra_nil))) (rs_one (rs_ret (RW.re rw_int))) rs_nil)
    (rs_one (rs_ret (re_mod (RE.rw (re_int rfl bl_int (ra_cons (RE.rw (re_pop0 (rw_var 0))) ra_nil))) (rw_var 1)))))
theorem d__law_take (B : BB K mg) (Z : SupB K PP) : Df PP w K mg base (GG K) 1 "_law_take" 2 (F__law_take) := by
  obtain ⟨fd, F⟩ := B.def_ 8 (d := dd__law_take) rfl
  exact df_okD (["pool", "limit"] : List Str) (["pool", "limit"]) F (B.glo 6 rfl) fs__law_take (fun _ _ _ _ _ _ us hl => match us, hl with | [_, _], _ => rfl) rfl (r__law_take B Z _)
/-! _law_make -/
theorem nd__law_make : (["above", "below", "one", "other"] : List Str).Nodup := by decide +kernel
def m__law_make (fuel : Nat) : MS :=
    (mseq (mIf (mb (mw (m2 (mVar 1) (mC (.int 0)) ilt))) (mpar 0 1 (mcons (mw (m1 (mVar 0) ineg)) (mcons (mw (m1 (mVar 1) ineg)) mnil))) mnext)
    (mseq (mpar 2 3 (mcons (mw (mN (mcons (mVar 0) mnil) absV)) (mcons (mVar 1) mnil)))
    (mseq (wloop (mb (mw (m2 (mVar 3) (mC (.int 0)) (eqv true)))) (mpar 2 3 (mcons (mVar 3) (mcons (mw (m2 (mw (mN (mcons (mVar 2) mnil) intV)) (mVar 3) imod)) mnil))) fuel)
    (mret (me (mtup (mcons (mw (m2 (mVar 0) (mVar 2) idiv)) (mcons (mw (m2 (mVar 1) (mVar 2) idiv)) mnil))))))))
theorem fs__law_make : FnScope (["above", "below", "one", "other"] : List Str) (["above", "below"] : List Str) sc__law_make := ⟨rfl, rfl, rfl, nd__law_make, rfl, by decide +kernel, by decide +kernel⟩
def F__law_make (fuel : Nat) : Fn := trimF (runF 4 (m__law_make fuel))
theorem r__law_make (B : BB K mg) (Z : SupB K PP) (fuel : Nat) (f : Addr) : ∀ (cdv : Value) (A : Around) (outer : List Env) (s : Shared) (H : Hp) (E : XK), Room 0 (A.deeper (envOfC "_law_make" sc__law_make s.heap.objs.size f cdv)) →
    RSs (cxOf (L2.CX PP w) PP w K mg base (["above", "below", "one", "other"] : List Str) "_law_make" sc__law_make f cdv A outer s H E) (GG K) (WxE E) (defBody st__law_make) (m__law_make fuel) := by
  have bl_abs : mg "abs" = none := B.free 40 rfl
  have bl_int : mg "int" = none := B.free 44 rfl
  exact fun cdv A outer s H E hr =>
    (rs_cons (rs_if (rt_c cm_lt (rw_var 1) rw_int) (rs_one (rs_par 0 1 rfl nd__law_make (ra_cons (RE.rw (re_neg (rw_var 0))) (ra_cons (RE.rw (re_neg (rw_var 1))) ra_nil)))) rs_nil)
    (rs_cons (rs_par 2 3 rfl nd__law_make (ra_cons (RE.rw (re_abs rfl bl_abs (ra_cons (rw_var 0) ra_nil))) (ra_cons (rw_var 1) ra_nil)))
    (rs_cons (rs_while fuel (passes_of rfl) (rt_c (cm_ne hr) (rw_var 3) rw_int) (rs_one (rs_par 2 3 rfl nd__law_make (ra_cons (rw_var 3) (ra_cons (RE.rw (re_mod (RE.rw (re_int rfl bl_int (ra_cons (rw_var 2) ra_nil))) (rw_var 3))) ra_nil)))))
    (rs_one (rs_ret (RW.re (rw_tup (ra_cons (RE.rw (re_div (rw_var 0) (rw_var 2))) (ra_cons (RE.rw (re_div (rw_var 1) (rw_var 2))) ra_nil)))))))))
theorem d__law_make (B : BB K mg) (Z : SupB K PP) (fuel : Nat) : Df PP w K mg base (GG K) 1 "_law_make" 2 (F__law_make fuel) := by
  obtain ⟨fd, F⟩ := B.def_ 9 (d := dd__law_make) rfl
  exact df_okD (["above", "below", "one", "other"] : List Str) (["above", "below"]) F (B.glo 7 rfl) fs__law_make (fun _ _ _ _ _ _ us hl => match us, hl with | [_, _], _ => rfl) rfl (r__law_make B Z fuel _)
/-! _law_settled -/
theorem nd__law_settled : (["out", "stands", "is_open", "i", "one", "other"] : List Str).Nodup := by decide +kernel
def m__law_settled (fuel : Nat) : MS :=
    (mseq (mpar 1 2 (mcons (mwM (mN (mcons (mVar 1) mnil) listV)) (mcons (mC (.bool true)) mnil)))
    (mseq (wloop (mb (mVar 2)) (mseq (mset 2 (mC (.bool false)))
    (mseq (mfor (mrng1 (mcons (mw (m2 (mw (mN (mcons (mVar 1) mnil) lenV)) (mC (.int 1)) isub)) mnil)) (mgN 3) (mseq (mpar 4 5 (mcons (mw (m2 (mVar 1) (mVar 3) ixV)) (mcons (mw (m2 (mVar 1) (mw (m2 (mVar 3) (mC (.int 1)) addV)) ixV)) mnil)))
    (mIf (mand (mb (mw (m2 (mw (m2 (mVar 4) (mC (.int 1)) ixV)) (mC (.str "ahead")) (eqv false)))) (mand (mb (mw (m2 (mw (m2 (mVar 5) (mC (.int 1)) ixV)) (mC (.str "back")) (eqv false)))) (mb (mw (m2 (mw (m2 (mVar 4) (mC (.int 0)) ixV)) (mw (m2 (mVar 5) (mC (.int 0)) ixV)) (eqv false)))))) (masgT 3 (mcons (mtup (mcons (mw (m2 (mVar 4) (mC (.int 0)) ixV)) (mcons (mC (.str "back")) mnil))) (mcons (mtup (mcons (mw (m2 (mVar 4) (mC (.int 0)) ixV)) (mcons (mC (.str "ahead")) mnil))) (mcons (mC (.bool true)) mnil))) (mgcons (mgsub (mVar 1) (mVar 3)) (mgcons (mgsub (mVar 1) (mw (m2 (mVar 3) (mC (.int 1)) addV))) (mgcons (mgN 2) mgnil)))) mnext)))
    (mseq (mIf (mb (mw (m2 (mw (m2 (mVar 1) (mw (m1 (mC (.int 1)) ineg)) ixV)) (mtup (mcons (mtup (mcons (mC (.int 1)) (mcons (mC (.int 1)) mnil))) (mcons (mC (.str "ahead")) mnil))) (eqv false)))) (masgT 3 (mcons (mtup (mcons (mtup (mcons (mC (.int 1)) (mcons (mC (.int 1)) mnil))) (mcons (mC (.str "back")) mnil))) (mcons (mw (m2 (mVar 0) (mC (.int 1)) addV)) (mcons (mC (.bool true)) mnil))) (mgcons (mgsub (mVar 1) (mw (m1 (mC (.int 1)) ineg))) (mgcons (mgN 0) (mgcons (mgN 2) mgnil)))) mnext)
    (mIf (mb (mw (m2 (mw (m2 (mVar 1) (mC (.int 0)) ixV)) (mtup (mcons (mtup (mcons (mC (.int 0)) (mcons (mC (.int 1)) mnil))) (mcons (mC (.str "back")) mnil))) (eqv false)))) (masgT 2 (mcons (mtup (mcons (mtup (mcons (mC (.int 0)) (mcons (mC (.int 1)) mnil))) (mcons (mC (.str "ahead")) mnil))) (mcons (mC (.bool true)) mnil)) (mgcons (mgsub (mVar 1) (mC (.int 0))) (mgcons (mgN 2) mgnil))) mnext)))) fuel)
    (mret (me (mtup (mcons (mVar 0) (mcons (mw (mN (mcons (mVar 1) mnil) tupV)) mnil)))))))
theorem fs__law_settled : FnScope (["out", "stands", "is_open", "i", "one", "other"] : List Str) (["out", "stands"] : List Str) sc__law_settled := ⟨rfl, rfl, rfl, nd__law_settled, rfl, by decide +kernel, by decide +kernel⟩
def F__law_settled (fuel : Nat) : Fn := trimF (runF 6 (m__law_settled fuel))
theorem r__law_settled (B : BB K mg) (Z : SupB K PP) (fuel : Nat) (f : Addr) : ∀ (cdv : Value) (A : Around) (outer : List Env) (s : Shared) (H : Hp) (E : XK), Room 0 (A.deeper (envOfC "_law_settled" sc__law_settled s.heap.objs.size f cdv)) →
    RSs (cxOf (L2.CX PP w) PP w K mg base (["out", "stands", "is_open", "i", "one", "other"] : List Str) "_law_settled" sc__law_settled f cdv A outer s H E) (GG K) (WxE E) (defBody st__law_settled) (m__law_settled fuel) := by
  have bl_len : mg "len" = none := B.free 46 rfl
  have bl_list : mg "list" = none := B.free 47 rfl
  have bl_range : mg "range" = none := B.free 48 rfl
  have bl_tuple : mg "tuple" = none := B.free 52 rfl
  exact fun cdv A outer s H E hr =>
    (rs_cons (rs_par 1 2 rfl nd__law_settled (ra_cons (RE.rwM (re_list rfl bl_list (ra_cons (rw_var 1) ra_nil))) (ra_cons rw_bl ra_nil)))
    (rs_cons (rs_while fuel (passes_of rfl) (rt_val (rw_var 2)) (rs_cons (rs_set 2 nd__law_settled rw_bl)
    (rs_cons (rs_for (passes_of rfl) rfl (ri_range1 rfl bl_range (ra_cons (RE.rw (re_sub (RE.rw (re_len rfl bl_len (ra_cons (rw_var 1) ra_nil))) rw_int)) ra_nil)) (rg_name (vs := [3]) 3 nd__law_settled) (rs_cons (rs_par 4 5 rfl nd__law_settled (ra_cons (RE.rw (re_ix (rw_var 1) (rw_var 3))) (ra_cons (RE.rw (re_ix (rw_var 1) (RE.rw (re_add (rw_var 3) rw_int)))) ra_nil)))
    (rs_one (rs_if (RP.rt (rp_and (rt_c (cm_eq hr) (RE.rw (re_ix (rw_var 4) rw_int)) rw_str) (rp_and (rt_c (cm_eq hr) (RE.rw (re_ix (rw_var 5) rw_int)) rw_str) (rp_and1 (rt_c (cm_eq hr) (RE.rw (re_ix (rw_var 4) rw_int)) (RE.rw (re_ix (rw_var 5) rw_int))))))) (rs_one (rs_asgT (vs := [1, 2, 3]) rfl (ra_cons (rw_tup (ra_cons (RE.rw (re_ix (rw_var 4) rw_int)) (ra_cons rw_str ra_nil))) (ra_cons (rw_tup (ra_cons (RE.rw (re_ix (rw_var 4) rw_int)) (ra_cons rw_str ra_nil))) (ra_cons rw_bl ra_nil))) (rg_cons (rg_sub (vs := [1, 2, 3]) (rw_var 1) (rw_var 3)) (rg_cons (rg_sub (vs := [1, 2, 3]) (rw_var 1) (RE.rw (re_add (rw_var 3) rw_int))) (rg_cons (rg_name (vs := [1, 2, 3]) 2 nd__law_settled) rg_nil))))) rs_nil))))
    (rs_cons (rs_if (rt_c (cm_eq hr) (RE.rw (re_ix (rw_var 1) (RE.rw (re_neg rw_int)))) (rw_tup (ra_cons (rw_tup (ra_cons rw_int (ra_cons rw_int ra_nil))) (ra_cons rw_str ra_nil)))) (rs_one (rs_asgT (vs := [0, 1, 2]) rfl (ra_cons (rw_tup (ra_cons (rw_tup (ra_cons rw_int (ra_cons rw_int ra_nil))) (ra_cons rw_str ra_nil))) (ra_cons (RE.rw (re_add (rw_var 0) rw_int)) (ra_cons rw_bl ra_nil))) (rg_cons (rg_sub (vs := [0, 1, 2]) (rw_var 1) (RE.rw (re_neg rw_int))) (rg_cons (rg_name (vs := [0, 1, 2]) 0 nd__law_settled) (rg_cons (rg_name (vs := [0, 1, 2]) 2 nd__law_settled) rg_nil))))) rs_nil)
    (rs_one (rs_if (rt_c (cm_eq hr) (RE.rw (re_ix (rw_var 1) rw_int)) (rw_tup (ra_cons (rw_tup (ra_cons rw_int (ra_cons rw_int ra_nil))) (ra_cons rw_str ra_nil)))) (rs_one (rs_asgT (vs := [1, 2]) rfl (ra_cons (rw_tup (ra_cons (rw_tup (ra_cons rw_int (ra_cons rw_int ra_nil))) (ra_cons rw_str ra_nil))) (ra_cons rw_bl ra_nil)) (rg_cons (rg_sub (vs := [1, 2]) (rw_var 1) rw_int) (rg_cons (rg_name (vs := [1, 2]) 2 nd__law_settled) rg_nil)))) rs_nil))))))
    (rs_one (rs_ret (RW.re (rw_tup (ra_cons (rw_var 0) (ra_cons (RE.rw (re_tuple rfl bl_tuple (ra_cons (rw_var 1) ra_nil))) ra_nil))))))))
theorem d__law_settled (B : BB K mg) (Z : SupB K PP) (fuel : Nat) : Df PP w K mg base (GG K) 1 "_law_settled" 2 (F__law_settled fuel) := by
  obtain ⟨fd, F⟩ := B.def_ 10 (d := dd__law_settled) rfl
  exact df_okD (["out", "stands", "is_open", "i", "one", "other"] : List Str) (["out", "stands"]) F (B.glo 8 rfl) fs__law_settled (fun _ _ _ _ _ _ us hl => match us, hl with | [_, _], _ => rfl) rfl (r__law_settled B Z fuel _)
/-! is_fraction -/
theorem nd_is_fraction : (["value"] : List Str).Nodup := by decide +kernel
def m_is_fraction : MS :=
    (mseq (mIf (mor (mnot (mb (mw (mcall 3 F_is_tuple (mcons (mVar 0) (mcons (mC (.int 2)) (mcons (mC (.int 2)) mnil))))))) (mor (mnot (mb (mw (mcall 1 F_is_integer (mcons (mw (m2 (mVar 0) (mC (.int 0)) ixV)) mnil))))) (mnot (mb (mw (mcall 1 F_is_integer (mcons (mw (m2 (mVar 0) (mC (.int 1)) ixV)) mnil))))))) (mret (me (mC (.bool false)))) mnext)
    (mret (me (mandV (mw (m2 (mw (m2 (mVar 0) (mC (.int 1)) ixV)) (mC (.int 1)) ige)) (mw (m2 (mw (mN (mcons (mw (m2 (mVar 0) (mC (.int 0)) ixV)) (mcons (mw (m2 (mVar 0) (mC (.int 1)) ixV)) mnil)) gcdV)) (mC (.int 1)) (eqv false)))))))
theorem fs_is_fraction : FnScope (["value"] : List Str) (["value"] : List Str) sc_is_fraction := ⟨rfl, rfl, rfl, nd_is_fraction, rfl, by decide +kernel, by decide +kernel⟩
def F_is_fraction : Fn := trimF (runF 1 (m_is_fraction))
theorem r_is_fraction (B : BB K mg) (Z : SupB K PP) (f : Addr) : ∀ (cdv : Value) (A : Around) (outer : List Env) (s : Shared) (H : Hp) (E : XK), Room 1 (A.deeper (envOfC "is_fraction" sc_is_fraction s.heap.objs.size f cdv)) →
    RSs (cxOf (L2.CX PP w) PP w K mg base (["value"] : List Str) "is_fraction" sc_is_fraction f cdv A outer s H E) (GG K) (WxE E) (defBody st_is_fraction) (m_is_fraction) := by
  exact fun cdv A outer s H E hr =>
    (rs_cons (rs_if (RP.rt (rp_or (rt_not (rt_val (RE.rw (re_call (d_is_tuple B Z) hr (by decide) rfl (takes_of rfl rfl rfl rfl) (ra_cons (rw_var 0) (ra_cons rw_int (ra_cons rw_int ra_nil))))))) (rp_or (rt_not (rt_val (RE.rw (re_call (d_is_integer B Z) hr (by decide) rfl (takes_of rfl rfl rfl rfl) (ra_cons (RE.rw (re_ix (rw_var 0) rw_int)) ra_nil))))) (rp_or1 (rt_not (rt_val (RE.rw (re_call (d_is_integer B Z) hr (by decide) rfl (takes_of rfl rfl rfl rfl) (ra_cons (RE.rw (re_ix (rw_var 0) rw_int)) ra_nil))))))))) (rs_one (rs_ret (RW.re rw_bl))) rs_nil)
    (rs_one (rs_ret (RW.re (rw_and (RE.rw (re_c cm_ge (RE.rw (re_ix (rw_var 0) rw_int)) rw_int)) (rw_one (RE.rw (re_c (cm_eq hr) (RE.rw (re_gcd rfl (gcd_ok B) (ra_cons (RE.rw (re_ix (rw_var 0) rw_int)) (ra_cons (RE.rw (re_ix (rw_var 0) rw_int)) ra_nil)))) rw_int))))))))
theorem d_is_fraction (B : BB K mg) (Z : SupB K PP) : Df PP w K mg base (GG K) 2 "is_fraction" 1 (F_is_fraction) := by
  obtain ⟨fd, F⟩ := B.def_ 11 (d := dd_is_fraction) rfl
  exact df_okD (["value"] : List Str) (["value"]) F (B.glo 9 rfl) fs_is_fraction (fun _ _ _ _ _ _ us hl => match us, hl with | [_], _ => rfl) rfl (r_is_fraction B Z _)
/-! are_growing -/
theorem nd_are_growing : (["fractions", "one", "other"] : List Str).Nodup := by decide +kernel
theorem bo_are_growing_0 : BlkOk (["fractions", "one", "other"] : List Str) (sc_are_growing) { kind := .function, names := [(".0", .local), ("one", .local), ("other", .local), ("is_below", .globalImplicit)], isGenerator := false, isCoroutine := false, more := [] : PySem.Scope } [("one", 1), ("other", 2)] := ⟨rfl, by decide +kernel, by decide +kernel, by decide +kernel, by decide +kernel⟩
def m_are_growing : MS :=
    (mret (mN (mcons (mw (mlc [1, 2] (mzip (mcons (mVar 0) (mcons (mw (mslice (mVar 0) (moS (mC (.int 1))) moN)) mnil))) (mgtup 2 (mgcons (mgN 1) (mgcons (mgN 2) mgnil))) myes (mw (mcall 2 F_is_below (mcons (mVar 1) (mcons (mVar 2) mnil)))))) mnil) (allV fun bs => bs.all id)))
theorem fs_are_growing : FnScope (["fractions", "one", "other"] : List Str) (["fractions"] : List Str) sc_are_growing := ⟨rfl, rfl, rfl, nd_are_growing, rfl, by decide +kernel, by decide +kernel⟩
def F_are_growing : Fn := trimF (runF 3 (m_are_growing))
theorem r_are_growing (B : BB K mg) (Z : SupB K PP) (f : Addr) : ∀ (cdv : Value) (A : Around) (outer : List Env) (s : Shared) (H : Hp) (E : XK), Room 1 (A.deeper (envOfC "are_growing" sc_are_growing s.heap.objs.size f cdv)) →
    RSs (cxOf (L2.CX PP w) PP w K mg base (["fractions", "one", "other"] : List Str) "are_growing" sc_are_growing f cdv A outer s H E) (GG K) (WxE E) (defBody st_are_growing) (m_are_growing) := by
  have bl_all : mg "all" = none := B.free 41 rfl
  have bl_zip : mg "zip" = none := B.free 53 rfl
  exact fun cdv A outer s H E hr =>
    (rs_one (rs_ret (re_all rfl rfl bl_all (ra_cons (RE.rw (re_lc [("one", 1), ("other", 2)] rfl nd_are_growing (ri_zip2 rfl bl_zip (ra_cons (rw_var 0) (ra_cons (RE.rw (re_slice (rw_var 0) (ro_some rw_int) ro_none)) ra_nil))) bo_are_growing_0 (fun s H C cl fp => (rg_tup rfl (rg_cons (rg_name (vs := [1, 2]) 1 nd_are_growing) (rg_cons (rg_name (vs := [1, 2]) 2 nd_are_growing) rg_nil)))) (fun s H C cl fp => rts_nil) (fun s H C cl fp => (RE.rw (re_call (d_is_below B Z) hr (by decide) rfl takes0 (ra_cons (rw_var 1) (ra_cons (rw_var 2) ra_nil))))))) ra_nil))))
theorem d_are_growing (B : BB K mg) (Z : SupB K PP) : Df PP w K mg base (GG K) 2 "are_growing" 1 (F_are_growing) := by
  obtain ⟨fd, F⟩ := B.def_ 12 (d := dd_are_growing) rfl
  exact df_okD (["fractions", "one", "other"] : List Str) (["fractions"]) F (B.glo 10 rfl) fs_are_growing (fun _ _ _ _ _ _ us hl => match us, hl with | [_], _ => rfl) rfl (r_are_growing B Z _)
/-! Crew.turned -/
theorem nd_Crew_turned : (["self", "index"] : List Str).Nodup := by decide +kernel
def m_Crew_turned : MS :=
    (mseq (mIf (mand (mb (mw (m2 (mfld [6] "ahead" (mVar 0)) (mw (m1 (mC (.int 1)) ineg)) ixV))) (mb (mw (m2 (mw (m2 (mfld [6] "places" (mVar 0)) (mw (m1 (mC (.int 1)) ineg)) ixV)) (mC k_ONE) (eqv false))))) (mseq (masgT 2 (mcons (mC (.bool false)) (mcons (mw (m2 (mfld [6] "out" (mVar 0)) (mC (.int 1)) addV)) mnil)) (mgcons (mgsub (mfld [6] "ahead" (mVar 0)) (mw (m1 (mC (.int 1)) ineg))) (mgcons (mgfld [6] "out" (mVar 0)) mgnil)))
    (mret (me (mC (.bool true))))) mnext)
    (mseq (mIf (mand (mnot (mb (mw (m2 (mfld [6] "ahead" (mVar 0)) (mC (.int 0)) ixV)))) (mb (mw (m2 (mw (m2 (mfld [6] "places" (mVar 0)) (mC (.int 0)) ixV)) (mC k_ZERO) (eqv false))))) (mseq (masg (mC (.bool true)) fun w env S => ((mgsub (mfld [6] "ahead" (mVar 0)) (mC (.int 0))) w env S).pl)
    (mret (me (mC (.bool true))))) mnext)
    (mseq (mset 1 (mw (mmeth 6 "meeting" 1 F_Crew_meeting (mVar 0) mnil)))
    (mseq (mIf (mb (mw (m2 (mVar 1) (mC .none) (opIsN true)))) (masgT 2 (mcons (mC (.bool false)) (mcons (mC (.bool true)) mnil)) (mgcons (mgsub (mfld [6] "ahead" (mVar 0)) (mVar 1)) (mgcons (mgsub (mfld [6] "ahead" (mVar 0)) (mw (m2 (mVar 1) (mC (.int 1)) addV))) mgnil))) mnext)
    (mret (m2 (mVar 1) (mC .none) (opIsN true)))))))
theorem fs_Crew_turned : FnScope (["self", "index"] : List Str) (["self"] : List Str) sc_Crew_turned := ⟨rfl, rfl, rfl, nd_Crew_turned, rfl, by decide +kernel, by decide +kernel⟩
def F_Crew_turned : Fn := trimF (runF 2 (m_Crew_turned))
theorem r_Crew_turned (B : BB K mg) (Z : SupB K PP) (f : Addr) : ∀ (cdv : Value) (A : Around) (outer : List Env) (s : Shared) (H : Hp) (E : XK), Room 1 (A.deeper (envOfC "Crew.turned" sc_Crew_turned s.heap.objs.size f cdv)) →
    RSs (cxOf (L2.CX PP w) PP w K mg base (["self", "index"] : List Str) "Crew.turned" sc_Crew_turned f cdv A outer s H E) (GG K) (WxE E) (defBody st_Crew_turned) (m_Crew_turned) := by
  exact fun cdv A outer s H E hr =>
    (rs_cons (rs_if (RP.rt (rp_and (rt_val (RE.rw (re_ix (rw_fld [6] "ahead" (cf_ahead B rfl) (rw_var 0)) (RE.rw (re_neg rw_int))))) (rp_and1 (rt_c (cm_eq hr) (RE.rw (re_ix (rw_fld [6] "places" (cf_places B rfl) (rw_var 0)) (RE.rw (re_neg rw_int)))) (rw_glob rfl (g_ONE B rfl)))))) (rs_cons (rs_asgT (vs := [0]) rfl (ra_cons rw_bl (ra_cons (RE.rw (re_add (rw_fld [6] "out" (cf_out B rfl) (rw_var 0)) rw_int)) ra_nil)) (rg_cons (rg_sub (vs := [0]) (rw_fld [6] "ahead" (cf_ahead B rfl) (rw_var 0)) (RE.rw (re_neg rw_int))) (rg_cons (rg_fld (vs := [0]) [6] "out" (cf_out B rfl) (rw_var 0)) rg_nil)))
    (rs_one (rs_ret (RW.re rw_bl)))) rs_nil)
    (rs_cons (rs_if (RP.rt (rp_and (rt_not (rt_val (RE.rw (re_ix (rw_fld [6] "ahead" (cf_ahead B rfl) (rw_var 0)) rw_int)))) (rp_and1 (rt_c (cm_eq hr) (RE.rw (re_ix (rw_fld [6] "places" (cf_places B rfl) (rw_var 0)) rw_int)) (rw_glob rfl (g_ZERO B rfl)))))) (rs_cons (rs_asg (vs := []) rw_bl (rg_sub (vs := []) (rw_fld [6] "ahead" (cf_ahead B rfl) (rw_var 0)) rw_int))
    (rs_one (rs_ret (RW.re rw_bl)))) rs_nil)
    (rs_cons (rs_set 1 nd_Crew_turned (RE.rw (re_meth0 (d_Crew_meeting B Z) hr (by decide) (takes_of rfl rfl rfl rfl) (rw_var 0))))
    (rs_cons (rs_if (rt_c cm_notN (rw_var 1) rw_non) (rs_one (rs_asgT (vs := [0, 1]) rfl (ra_cons rw_bl (ra_cons rw_bl ra_nil)) (rg_cons (rg_sub (vs := [0, 1]) (rw_fld [6] "ahead" (cf_ahead B rfl) (rw_var 0)) (rw_var 1)) (rg_cons (rg_sub (vs := [0, 1]) (rw_fld [6] "ahead" (cf_ahead B rfl) (rw_var 0)) (RE.rw (re_add (rw_var 1) rw_int))) rg_nil)))) rs_nil)
    (rs_one (rs_ret (re_c cm_notN (rw_var 1) rw_non)))))))
theorem d_Crew_turned (B : BB K mg) (Z : SupB K PP) : Mf PP w K mg base (GG K) 2 6 "turned" 1 (F_Crew_turned) := by
  obtain ⟨fd, F⟩ := B.def_ 13 (d := dd_Crew_turned) rfl
  exact mf_okD (["self", "index"] : List Str) (["self"]) (He.cls_ok (B.fact 62 rfl)) (He.meth_ok (B.fact 67 rfl)) F fs_Crew_turned (fun _ _ _ _ _ _ us hl => match us, hl with | [_], _ => rfl) rfl (r_Crew_turned B Z _)
/-! _law_twelfths -/
theorem nd__law_twelfths : (["pool", "most", "low", "high", "found", "k", "number"] : List Str).Nodup := by decide +kernel
theorem bo__law_twelfths_0 : BlkOk (["pool", "most", "low", "high", "found", "k", "number"] : List Str) (sc__law_twelfths) { kind := .function, names := [(".0", .local), ("number", .local), ("_law_make", .globalImplicit)], isGenerator := false, isCoroutine := false, more := [] : PySem.Scope } [("number", 6)] := ⟨rfl, by decide +kernel, by decide +kernel, by decide +kernel, by decide +kernel⟩
def m__law_twelfths (fuel : Nat) : MS :=
    (mseq (mset 4 mdict0)
    (mseq (mfor (mrng1 (mcons (mw (mcall 2 F__law_take (mcons (mVar 0) (mcons (mw (m2 (mVar 1) (mC (.int 1)) addV)) mnil)))) mnil)) (mgN 5) (mdput (mVar 4) (mw (m2 (mVar 2) (mw (mcall 2 F__law_take (mcons (mVar 0) (mcons (mw (m2 (mw (m2 (mVar 3) (mVar 2) isub)) (mC (.int 1)) addV)) mnil)))) addV)) (mC (.bool true))))
    (mret (mN (mcons (mw (mlc [6] (misrc (mw (mN (mcons (mVar 4) mnil) sortV))) (mgN 6) myes (mw (mcall 2 (F__law_make fuel) (mcons (mVar 6) (mcons (mC (.int 12)) mnil)))))) mnil) tupV))))
theorem fs__law_twelfths : FnScope (["pool", "most", "low", "high", "found", "k", "number"] : List Str) (["pool", "most", "low", "high"] : List Str) sc__law_twelfths := ⟨rfl, rfl, rfl, nd__law_twelfths, rfl, by decide +kernel, by decide +kernel⟩
def F__law_twelfths (fuel : Nat) : Fn := trimF (runF 7 (m__law_twelfths fuel))
theorem r__law_twelfths (B : BB K mg) (Z : SupB K PP) (fuel : Nat) (f : Addr) : ∀ (cdv : Value) (A : Around) (outer : List Env) (s : Shared) (H : Hp) (E : XK), Room 1 (A.deeper (envOfC "_law_twelfths" sc__law_twelfths s.heap.objs.size f cdv)) →
    RSs (cxOf (L2.CX PP w) PP w K mg base (["pool", "most", "low", "high", "found", "k", "number"] : List Str) "_law_twelfths" sc__law_twelfths f cdv A outer s H E) (GG K) (WxE E) (defBody st__law_twelfths) (m__law_twelfths fuel) := by
  have bl_range : mg "range" = none := B.free 48 rfl
  have bl_sorted : mg "sorted" = none := B.free 50 rfl
  have bl_tuple : mg "tuple" = none := B.free 52 rfl
  exact fun cdv A outer s H E hr =>
    (rs_cons (rs_set 4 nd__law_twelfths rw_dict0)
    (rs_cons (rs_for (passes_of rfl) rfl (ri_range1 rfl bl_range (ra_cons (RE.rw (re_call (d__law_take B Z) hr (by decide) rfl (takes_of rfl rfl rfl rfl) (ra_cons (rw_var 0) (ra_cons (RE.rw (re_add (rw_var 1) rw_int)) ra_nil)))) ra_nil)) (rg_name (vs := [5]) 5 nd__law_twelfths) (rs_one (rs_dput hr (rw_var 4) (RE.rw (re_add (rw_var 2) (RE.rw (re_call (d__law_take B Z) hr (by decide) rfl (takes_of rfl rfl rfl rfl) (ra_cons (rw_var 0) (ra_cons (RE.rw (re_add (RE.rw (re_sub (rw_var 3) (rw_var 2))) rw_int)) ra_nil)))))) rw_bl)))
    (rs_one (rs_ret (re_tuple rfl bl_tuple (ra_cons (RE.rw (re_lc [("number", 6)] rfl nd__law_twelfths (ri_seq (RE.rw (re_sorted rfl rfl bl_sorted (ra_cons (rw_var 4) ra_nil)))) bo__law_twelfths_0 (fun s H C cl fp => (rg_name (vs := [6]) 6 nd__law_twelfths)) (fun s H C cl fp => rts_nil) (fun s H C cl fp => (RE.rw (re_call (d__law_make B Z fuel) hr (by decide) rfl takes0 (ra_cons (rw_var 6) (ra_cons rw_int ra_nil))))))) ra_nil))))))
theorem d__law_twelfths (B : BB K mg) (Z : SupB K PP) (fuel : Nat) : Df PP w K mg base (GG K) 2 "_law_twelfths" 4 (F__law_twelfths fuel) := by
  obtain ⟨fd, F⟩ := B.def_ 14 (d := dd__law_twelfths) rfl
  exact df_okD (["pool", "most", "low", "high", "found", "k", "number"] : List Str) (["pool", "most", "low", "high"]) F (B.glo 11 rfl) fs__law_twelfths (fun _ _ _ _ _ _ us hl => match us, hl with | [_, _, _, _], _ => rfl) rfl (r__law_twelfths B Z fuel _)
/-! _law_places -/
theorem nd__law_places : (["pool", "many", "numbers", "k", "number"] : List Str).Nodup := by decide +kernel
theorem bo__law_places_0 : BlkOk (["pool", "many", "numbers", "k", "number"] : List Str) (sc__law_places) { kind := .function, names := [(".0", .local), ("number", .local), ("_law_make", .globalImplicit)], isGenerator := false, isCoroutine := false, more := [] : PySem.Scope } [("number", 4)] := ⟨rfl, by decide +kernel, by decide +kernel, by decide +kernel, by decide +kernel⟩
theorem bo__law_places_1 : BlkOk (["pool", "many", "numbers", "k", "number"] : List Str) (sc__law_places) { kind := .function, names := [(".0", .local), ("k", .local), ("_law_take", .globalImplicit), ("pool", .free)], isGenerator := false, isCoroutine := false, more := [] : PySem.Scope } [("k", 3)] := ⟨rfl, by decide +kernel, by decide +kernel, by decide +kernel, by decide +kernel⟩
def m__law_places (fuel : Nat) : MS :=
    (mseq (mset 2 (mw (mN (mcons (mw (mlc [3] (mrng1 (mcons (mVar 1) mnil)) (mgN 3) myes (mw (mcall 2 F__law_take (mcons (mVar 0) (mcons (mC (.int 13)) mnil)))))) mnil) sortV)))
    (mret (mN (mcons (mw (mlc [4] (misrc (mVar 2)) (mgN 4) myes (mw (mcall 2 (F__law_make fuel) (mcons (mVar 4) (mcons (mC (.int 12)) mnil)))))) mnil) tupV)))
theorem fs__law_places : FnScope (["pool", "many", "numbers", "k", "number"] : List Str) (["pool", "many"] : List Str) sc__law_places := ⟨rfl, rfl, rfl, nd__law_places, rfl, by decide +kernel, by decide +kernel⟩
def F__law_places (fuel : Nat) : Fn := trimF (runF 5 (m__law_places fuel))
theorem r__law_places (B : BB K mg) (Z : SupB K PP) (fuel : Nat) (f : Addr) : ∀ (cdv : Value) (A : Around) (outer : List Env) (s : Shared) (H : Hp) (E : XK), Room 1 (A.deeper (envOfC "_law_places" sc__law_places s.heap.objs.size f cdv)) →
    RSs (cxOf (L2.CX PP w) PP w K mg base (["pool", "many", "numbers", "k", "number"] : List Str) "_law_places" sc__law_places f cdv A outer s H E) (GG K) (WxE E) (defBody st__law_places) (m__law_places fuel) := by
  have bl_range : mg "range" = none := B.free 48 rfl
  have bl_sorted : mg "sorted" = none := B.free 50 rfl
  have bl_tuple : mg "tuple" = none := B.free 52 rfl
  exact fun cdv A outer s H E hr =>
    (rs_cons (rs_set 2 nd__law_places (RE.rw (re_sorted rfl rfl bl_sorted (ra_cons (RE.rw (re_lc [("k", 3)] rfl nd__law_places (ri_range1 rfl bl_range (ra_cons (rw_var 1) ra_nil)) bo__law_places_1 (fun s H C cl fp => (rg_name (vs := [3]) 3 nd__law_places)) (fun s H C cl fp => rts_nil) (fun s H C cl fp => (RE.rw (re_call (d__law_take B Z) hr (by decide) rfl takes0 (ra_cons (rw_var 0) (ra_cons rw_int ra_nil))))))) ra_nil))))
    (rs_one (rs_ret (re_tuple rfl bl_tuple (ra_cons (RE.rw (re_lc [("number", 4)] rfl nd__law_places (ri_seq (rw_var 2)) bo__law_places_0 (fun s H C cl fp => (rg_name (vs := [4]) 4 nd__law_places)) (fun s H C cl fp => rts_nil) (fun s H C cl fp => (RE.rw (re_call (d__law_make B Z fuel) hr (by decide) rfl takes0 (ra_cons (rw_var 4) (ra_cons rw_int ra_nil))))))) ra_nil)))))
theorem d__law_places (B : BB K mg) (Z : SupB K PP) (fuel : Nat) : Df PP w K mg base (GG K) 2 "_law_places" 2 (F__law_places fuel) := by
  obtain ⟨fd, F⟩ := B.def_ 15 (d := dd__law_places) rfl
  exact df_okD (["pool", "many", "numbers", "k", "number"] : List Str) (["pool", "many"]) F (B.glo 12 rfl) fs__law_places (fun _ _ _ _ _ _ us hl => match us, hl with | [_, _], _ => rfl) rfl (r__law_places B Z fuel _)
/-! _law_speed -/
theorem nd__law_speed : (["pool"] : List Str).Nodup := by decide +kernel
def m__law_speed (fuel : Nat) : MS :=
    (mret (mcall 2 (F__law_make fuel) (mcons (mw (m2 (mC (.int 1)) (mw (mcall 2 F__law_take (mcons (mVar 0) (mcons (mC (.int 6)) mnil)))) addV)) (mcons (mw (m2 (mC (.int 1)) (mw (mcall 2 F__law_take (mcons (mVar 0) (mcons (mC (.int 3)) mnil)))) addV)) mnil))))
theorem fs__law_speed : FnScope (["pool"] : List Str) (["pool"] : List Str) sc__law_speed := ⟨rfl, rfl, rfl, nd__law_speed, rfl, by decide +kernel, by decide +kernel⟩
def F__law_speed (fuel : Nat) : Fn := trimF (runF 1 (m__law_speed fuel))
theorem r__law_speed (B : BB K mg) (Z : SupB K PP) (fuel : Nat) (f : Addr) : ∀ (cdv : Value) (A : Around) (outer : List Env) (s : Shared) (H : Hp) (E : XK), Room 1 (A.deeper (envOfC "_law_speed" sc__law_speed s.heap.objs.size f cdv)) →
    RSs (cxOf (L2.CX PP w) PP w K mg base (["pool"] : List Str) "_law_speed" sc__law_speed f cdv A outer s H E) (GG K) (WxE E) (defBody st__law_speed) (m__law_speed fuel) := by
  exact fun cdv A outer s H E hr =>
    (rs_one (rs_ret (re_call (d__law_make B Z fuel) hr (by decide) rfl (takes_of rfl rfl rfl rfl) (ra_cons (RE.rw (re_add rw_int (RE.rw (re_call (d__law_take B Z) hr (by decide) rfl (takes_of rfl rfl rfl rfl) (ra_cons (rw_var 0) (ra_cons rw_int ra_nil)))))) (ra_cons (RE.rw (re_add rw_int (RE.rw (re_call (d__law_take B Z) hr (by decide) rfl (takes_of rfl rfl rfl rfl) (ra_cons (rw_var 0) (ra_cons rw_int ra_nil)))))) ra_nil)))))
theorem d__law_speed (B : BB K mg) (Z : SupB K PP) (fuel : Nat) : Df PP w K mg base (GG K) 2 "_law_speed" 1 (F__law_speed fuel) := by
  obtain ⟨fd, F⟩ := B.def_ 16 (d := dd__law_speed) rfl
  exact df_okD (["pool"] : List Str) (["pool"]) F (B.glo 13 rfl) fs__law_speed (fun _ _ _ _ _ _ us hl => match us, hl with | [_], _ => rfl) rfl (r__law_speed B Z fuel _)
/-! _law_bad_walkers -/
theorem nd__law_bad_walkers : (["pool", "walkers", "brigade", "backs", "rows"] : List Str).Nodup := by decide +kernel
def m__law_bad_walkers : MS :=
    (mseq (masg (mVar 1) fun w env S => ((mgtup 2 (mgcons (mgN 2) (mgcons (mgN 3) mgnil))) w env S).pl)
    (mseq (mset 4 (mw (mlst (mcons (mC .none) (mcons (mw (mN (mcons (mVar 1) mnil) listV)) (mcons (mtup (mcons (mVar 2) mnil)) (mcons (mtup (mcons (mVar 2) (mcons (mw (mslice (mVar 3) (moS (mC (.int 1))) moN)) mnil))) (mcons (mtup (mcons (mVar 2) (mcons (mw (m2 (mVar 3) (mw (mslice (mVar 3) moN (moS (mC (.int 1))))) addV)) mnil))) mnil))))))))
    (mseq (mset 4 (mw (m2 (mVar 4) (mw (mlst (mcons (mtup (mcons (mVar 2) (mcons (mw (mN (mcons (mVar 3) mnil) listV)) mnil))) (mcons (mVar 2) mnil)))) addV)))
    (mseq (mset 4 (mw (m2 (mVar 4) (mw (mlst (mcons (mtup (mcons (mVar 2) (mcons (mw (m2 (mw (mslice (mVar 3) moN (moS (mw (m1 (mC (.int 1)) ineg))))) (mtup (mcons (mw (m2 (mw (m2 (mVar 3) (mw (m1 (mC (.int 1)) ineg)) ixV)) (mtup (mcons (mtup (mcons (mC (.int 1)) (mcons (mC (.int 1)) mnil))) mnil)) addV)) mnil)) addV)) mnil))) mnil))) addV)))
    (mseq (mset 4 (mw (m2 (mVar 4) (mw (mlst (mcons (mtup (mcons (mVar 2) (mcons (mw (m2 (mw (mslice (mVar 3) moN (moS (mw (m1 (mC (.int 1)) ineg))))) (mtup (mcons (mw (m2 (mtup (mcons (mtup (mcons (mC (.int 0)) (mcons (mC (.int 1)) mnil))) mnil)) (mw (mN (mcons (mw (m2 (mVar 3) (mw (m1 (mC (.int 1)) ineg)) ixV)) mnil) lenV)) repTV)) mnil)) addV)) mnil))) mnil))) addV)))
    (mseq (mset 4 (mw (m2 (mVar 4) (mw (mlst (mcons (mtup (mcons (mC .none) (mcons (mVar 3) mnil))) (mcons (mtup (mcons (mtup (mcons (mw (m2 (mVar 2) (mC (.int 0)) ixV)) (mcons (mtup mnil) mnil))) (mcons (mtup mnil) mnil))) (mcons (mtup (mcons (mVar 2) (mcons (mC .none) mnil))) (mcons (mw (m2 (mVar 1) (mtup (mcons (mtup mnil) mnil)) addV)) mnil)))))) addV)))
    (mret (m2 (mVar 4) (mw (mcall 2 F__law_take (mcons (mVar 0) (mcons (mC (.int 13)) mnil)))) ixV))))))))
theorem fs__law_bad_walkers : FnScope (["pool", "walkers", "brigade", "backs", "rows"] : List Str) (["pool", "walkers"] : List Str) sc__law_bad_walkers := ⟨rfl, rfl, rfl, nd__law_bad_walkers, rfl, by decide +kernel, by decide +kernel⟩
def F__law_bad_walkers : Fn := trimF (runF 5 (m__law_bad_walkers))
theorem r__law_bad_walkers (B : BB K mg) (Z : SupB K PP) (f : Addr) : ∀ (cdv : Value) (A : Around) (outer : List Env) (s : Shared) (H : Hp) (E : XK), Room 1 (A.deeper (envOfC "_law_bad_walkers" sc__law_bad_walkers s.heap.objs.size f cdv)) →
    RSs (cxOf (L2.CX PP w) PP w K mg base (["pool", "walkers", "brigade", "backs", "rows"] : List Str) "_law_bad_walkers" sc__law_bad_walkers f cdv A outer s H E) (GG K) (WxE E) (defBody st__law_bad_walkers) (m__law_bad_walkers) := by
  have bl_len : mg "len" = none := B.free 46 rfl
  have bl_list : mg "list" = none := B.free 47 rfl
  exact fun cdv A outer s H E hr =>
    (rs_cons (rs_asg (vs := [2, 3]) (rw_var 1) (rg_tup rfl (rg_cons (rg_name (vs := [2, 3]) 2 nd__law_bad_walkers) (rg_cons (rg_name (vs := [2, 3]) 3 nd__law_bad_walkers) rg_nil))))
    (rs_cons (rs_set 4 nd__law_bad_walkers (RE.rw (re_lst (ra_cons rw_non (ra_cons (RE.rw (re_list rfl bl_list (ra_cons (rw_var 1) ra_nil))) (ra_cons (rw_tup (ra_cons (rw_var 2) ra_nil)) (ra_cons (rw_tup (ra_cons (rw_var 2) (ra_cons (RE.rw (re_slice (rw_var 3) (ro_some rw_int) ro_none)) ra_nil))) (ra_cons (rw_tup (ra_cons (rw_var 2) (ra_cons (RE.rw (re_add (rw_var 3) (RE.rw (re_slice (rw_var 3) ro_none (ro_some rw_int))))) ra_nil))) ra_nil))))))))
    (rs_cons (rs_set 4 nd__law_bad_walkers (RE.rw (re_add (rw_var 4) (RE.rw (re_lst (ra_cons (rw_tup (ra_cons (rw_var 2) (ra_cons (RE.rw (re_list rfl bl_list (ra_cons (rw_var 3) ra_nil))) ra_nil))) (ra_cons (rw_var 2) ra_nil)))))))
    (rs_cons (rs_set 4 nd__law_bad_walkers (RE.rw (re_add (rw_var 4) (RE.rw (re_lst (ra_cons (rw_tup (ra_cons (rw_var 2) (ra_cons (RE.rw (re_add (RE.rw (re_slice (rw_var 3) ro_none (ro_some (RE.rw (re_neg rw_int))))) (rw_tup (ra_cons (RE.rw (re_add (RE.rw (re_ix (rw_var 3) (RE.rw (re_neg rw_int)))) (rw_tup (ra_cons (rw_tup (ra_cons rw_int (ra_cons rw_int ra_nil))) ra_nil)))) ra_nil)))) ra_nil))) ra_nil))))))
    (rs_cons (rs_set 4 nd__law_bad_walkers (RE.rw (re_add (rw_var 4) (RE.rw (re_lst (ra_cons (rw_tup (ra_cons (rw_var 2) (ra_cons (RE.rw (re_add (RE.rw (re_slice (rw_var 3) ro_none (ro_some (RE.rw (re_neg rw_int))))) (rw_tup (ra_cons (RE.rw (re_repT (rw_tup (ra_cons (rw_tup (ra_cons rw_int (ra_cons rw_int ra_nil))) ra_nil)) (RE.rw (re_len rfl bl_len (ra_cons (RE.rw (re_ix (rw_var 3) (RE.rw (re_neg rw_int)))) ra_nil))))) ra_nil)))) ra_nil))) ra_nil))))))
    (rs_cons (rs_set 4 nd__law_bad_walkers (RE.rw (re_add (rw_var 4) (RE.rw (re_lst (ra_cons (rw_tup (ra_cons rw_non (ra_cons (rw_var 3) ra_nil))) (ra_cons (rw_tup (ra_cons (rw_tup (ra_cons (RE.rw (re_ix (rw_var 2) rw_int)) (ra_cons (rw_tup ra_nil) ra_nil))) (ra_cons (rw_tup ra_nil) ra_nil))) (ra_cons (rw_tup (ra_cons (rw_var 2) (ra_cons rw_non ra_nil))) (ra_cons (RE.rw (re_add (rw_var 1) (rw_tup (ra_cons (rw_tup ra_nil) ra_nil)))) ra_nil)))))))))
    (rs_one (rs_ret (re_ix (rw_var 4) (RE.rw (re_call (d__law_take B Z) hr (by decide) rfl (takes_of rfl rfl rfl rfl) (ra_cons (rw_var 0) (ra_cons rw_int ra_nil)))))))))))))
theorem d__law_bad_walkers (B : BB K mg) (Z : SupB K PP) : Df PP w K mg base (GG K) 2 "_law_bad_walkers" 2 (F__law_bad_walkers) := by
  obtain ⟨fd, F⟩ := B.def_ 17 (d := dd__law_bad_walkers) rfl
  exact df_okD (["pool", "walkers", "brigade", "backs", "rows"] : List Str) (["pool", "walkers"]) F (B.glo 14 rfl) fs__law_bad_walkers (fun _ _ _ _ _ _ us hl => match us, hl with | [_, _], _ => rfl) rfl (r__law_bad_walkers B Z _)
/-! _law_bad_stands -/
theorem nd__law_bad_stands : (["pool", "stands", "place", "way", "odd", "rows", "own"] : List Str).Nodup := by decide +kernel
theorem bo__law_bad_stands_0 : BlkOk (["pool", "stands", "place", "way", "odd", "rows", "own"] : List Str) (sc__law_bad_stands) { kind := .function, names := [(".0", .local), ("own", .local), ("stands", .free)], isGenerator := false, isCoroutine := false, more := [] : PySem.Scope } [("own", 6)] := ⟨rfl, by decide +kernel, by decide +kernel, by decide +kernel, by decide +kernel⟩
def m__law_bad_stands : MS :=
    (mseq (masg (mw (m2 (mVar 1) (mw (m1 (mC (.int 1)) ineg)) ixV)) fun w env S => ((mgtup 2 (mgcons (mgN 2) (mgcons (mgN 3) mgnil))) w env S).pl)
    (mseq (mset 4 (mw (mlst (mcons (mtup (mcons (mVar 2) (mcons (mC (.str "Back")) mnil))) (mcons (mtup (mcons (mVar 2) (mcons (mC .none) mnil))) (mcons (mw (mlst (mcons (mVar 2) (mcons (mVar 3) mnil)))) (mcons (mtup (mcons (mVar 2) mnil)) (mcons (mtup (mcons (mtup (mcons (mC (.int 3)) (mcons (mC (.int 2)) mnil))) (mcons (mVar 3) mnil))) (mcons (mtup (mcons (mVar 3) (mcons (mVar 2) mnil))) (mcons (mtup (mcons (mtup (mcons (mC (.int 2)) (mcons (mC (.int 2)) mnil))) (mcons (mVar 3) mnil))) (mcons (mC .none) mnil)))))))))))
    (mseq (mset 4 (mw (m2 (mVar 4) (mw (mlst (mcons (mtup (mcons (mC (.int 1)) (mcons (mVar 3) mnil))) mnil))) addV)))
    (mseq (msetLc 5 (mlc [6] (misrc (mVar 4)) (mgN 6) myes (mw (m2 (mw (mslice (mVar 1) moN (moS (mw (m1 (mC (.int 1)) ineg))))) (mtup (mcons (mVar 6) mnil)) addV))) true)
    (mseq (mset 5 (mw (m2 (mVar 5) (mw (mlst (mcons (mC .none) (mcons (mw (mN (mcons (mVar 1) mnil) listV)) (mcons (mw (m2 (mVar 1) (mtup (mcons (mtup (mcons (mtup (mcons (mC (.int 1)) (mcons (mC (.int 1)) mnil))) (mcons (mC (.str "back")) mnil))) mnil)) addV)) (mcons (mw (mslice (mVar 1) (moS (mC (.int 1))) moN)) mnil)))))) addV)))
    (mseq (mset 5 (mw (m2 (mVar 5) (mw (mlst (mcons (mw (m2 (mtup (mcons (mtup (mcons (mtup (mcons (mC (.int 1)) (mcons (mC (.int 1)) mnil))) (mcons (mC (.str "ahead")) mnil))) mnil)) (mw (m2 (mtup (mcons (mtup (mcons (mtup (mcons (mC (.int 0)) (mcons (mC (.int 1)) mnil))) (mcons (mC (.str "back")) mnil))) mnil)) (mw (mN (mcons (mVar 1) mnil) lenV)) repTV)) addV)) mnil))) addV)))
    (mret (m2 (mVar 5) (mw (mcall 2 F__law_take (mcons (mVar 0) (mcons (mC (.int 14)) mnil)))) ixV))))))))
theorem fs__law_bad_stands : FnScope (["pool", "stands", "place", "way", "odd", "rows", "own"] : List Str) (["pool", "stands"] : List Str) sc__law_bad_stands := ⟨rfl, rfl, rfl, nd__law_bad_stands, rfl, by decide +kernel, by decide +kernel⟩
def F__law_bad_stands : Fn := trimF (runF 7 (m__law_bad_stands))
theorem r__law_bad_stands (B : BB K mg) (Z : SupB K PP) (f : Addr) : ∀ (cdv : Value) (A : Around) (outer : List Env) (s : Shared) (H : Hp) (E : XK), Room 1 (A.deeper (envOfC "_law_bad_stands" sc__law_bad_stands s.heap.objs.size f cdv)) →
    RSs (cxOf (L2.CX PP w) PP w K mg base (["pool", "stands", "place", "way", "odd", "rows", "own"] : List Str) "_law_bad_stands" sc__law_bad_stands f cdv A outer s H E) (GG K) (WxE E) (defBody st__law_bad_stands) (m__law_bad_stands) := by
  have bl_len : mg "len" = none := B.free 46 rfl
  have bl_list : mg "list" = none := B.free 47 rfl
  exact fun cdv A outer s H E hr =>
    (rs_cons (rs_asg (vs := [2, 3]) (RE.rw (re_ix (rw_var 1) (RE.rw (re_neg rw_int)))) (rg_tup rfl (rg_cons (rg_name (vs := [2, 3]) 2 nd__law_bad_stands) (rg_cons (rg_name (vs := [2, 3]) 3 nd__law_bad_stands) rg_nil))))
    (rs_cons (rs_set 4 nd__law_bad_stands (RE.rw (re_lst (ra_cons (rw_tup (ra_cons (rw_var 2) (ra_cons rw_str ra_nil))) (ra_cons (rw_tup (ra_cons (rw_var 2) (ra_cons rw_non ra_nil))) (ra_cons (RE.rw (re_lst (ra_cons (rw_var 2) (ra_cons (rw_var 3) ra_nil)))) (ra_cons (rw_tup (ra_cons (rw_var 2) ra_nil)) (ra_cons (rw_tup (ra_cons (rw_tup (ra_cons rw_int (ra_cons rw_int ra_nil))) (ra_cons (rw_var 3) ra_nil))) (ra_cons (rw_tup (ra_cons (rw_var 3) (ra_cons (rw_var 2) ra_nil))) (ra_cons (rw_tup (ra_cons (rw_tup (ra_cons rw_int (ra_cons rw_int ra_nil))) (ra_cons (rw_var 3) ra_nil))) (ra_cons rw_non ra_nil)))))))))))
    (rs_cons (rs_set 4 nd__law_bad_stands (RE.rw (re_add (rw_var 4) (RE.rw (re_lst (ra_cons (rw_tup (ra_cons rw_int (ra_cons (rw_var 3) ra_nil))) ra_nil))))))
    (rs_cons (rs_setLc 5 true [("own", 6)] rfl nd__law_bad_stands (ri_seq (rw_var 4)) bo__law_bad_stands_0 (fun s H C cl fp => (rg_name (vs := [6]) 6 nd__law_bad_stands)) (fun s H C cl fp => rts_nil) (fun s H C cl fp => (RE.rw (re_add (RE.rw (re_slice (rw_var 1) ro_none (ro_some (RE.rw (re_neg rw_int))))) (rw_tup (ra_cons (rw_var 6) ra_nil))))) rfl rfl rfl)
    (rs_cons (rs_set 5 nd__law_bad_stands (RE.rw (re_add (rw_var 5) (RE.rw (re_lst (ra_cons rw_non (ra_cons (RE.rw (re_list rfl bl_list (ra_cons (rw_var 1) ra_nil))) (ra_cons (RE.rw (re_add (rw_var 1) (rw_tup (ra_cons (rw_tup (ra_cons (rw_tup (ra_cons rw_int (ra_cons rw_int ra_nil))) (ra_cons rw_str ra_nil))) ra_nil)))) (ra_cons (RE.rw (re_slice (rw_var 1) (ro_some rw_int) ro_none)) ra_nil)))))))))
    (rs_cons (rs_set 5 nd__law_bad_stands (RE.rw (re_add (rw_var 5) (RE.rw (re_lst (ra_cons (RE.rw (re_add (rw_tup (ra_cons (rw_tup (ra_cons (rw_tup (ra_cons rw_int (ra_cons rw_int ra_nil))) (ra_cons rw_str ra_nil))) ra_nil)) (RE.rw (re_repT (rw_tup (ra_cons (rw_tup (ra_cons (rw_tup (ra_cons rw_int (ra_cons rw_int ra_nil))) (ra_cons rw_str ra_nil))) ra_nil)) (RE.rw (re_len rfl bl_len (ra_cons (rw_var 1) ra_nil))))))) ra_nil))))))
    (rs_one (rs_ret (re_ix (rw_var 5) (RE.rw (re_call (d__law_take B Z) hr (by decide) rfl (takes_of rfl rfl rfl rfl) (ra_cons (rw_var 0) (ra_cons rw_int ra_nil)))))))))))))
theorem d__law_bad_stands (B : BB K mg) (Z : SupB K PP) : Df PP w K mg base (GG K) 2 "_law_bad_stands" 2 (F__law_bad_stands) := by
  obtain ⟨fd, F⟩ := B.def_ 18 (d := dd__law_bad_stands) rfl
  exact df_okD (["pool", "stands", "place", "way", "odd", "rows", "own"] : List Str) (["pool", "stands"]) F (B.glo 15 rfl) fs__law_bad_stands (fun _ _ _ _ _ _ us hl => match us, hl with | [_, _], _ => rfl) rfl (r__law_bad_stands B Z _)
/-! is_positive -/
theorem nd_is_positive : (["value"] : List Str).Nodup := by decide +kernel
def m_is_positive : MS :=
    (mret (me (mandV (mw (mcall 1 F_is_fraction (mcons (mVar 0) mnil))) (mw (m2 (mw (m2 (mVar 0) (mC (.int 0)) ixV)) (mC (.int 0)) igt)))))
theorem fs_is_positive : FnScope (["value"] : List Str) (["value"] : List Str) sc_is_positive := ⟨rfl, rfl, rfl, nd_is_positive, rfl, by decide +kernel, by decide +kernel⟩
def F_is_positive : Fn := trimF (runF 1 (m_is_positive))
theorem r_is_positive (B : BB K mg) (Z : SupB K PP) (f : Addr) : ∀ (cdv : Value) (A : Around) (outer : List Env) (s : Shared) (H : Hp) (E : XK), Room 2 (A.deeper (envOfC "is_positive" sc_is_positive s.heap.objs.size f cdv)) →
    RSs (cxOf (L2.CX PP w) PP w K mg base (["value"] : List Str) "is_positive" sc_is_positive f cdv A outer s H E) (GG K) (WxE E) (defBody st_is_positive) (m_is_positive) := by
  exact fun cdv A outer s H E hr =>
    (rs_one (rs_ret (RW.re (rw_and (RE.rw (re_call (d_is_fraction B Z) hr (by decide) rfl (takes_of rfl rfl rfl rfl) (ra_cons (rw_var 0) ra_nil))) (rw_one (RE.rw (re_c cm_gt (RE.rw (re_ix (rw_var 0) rw_int)) rw_int)))))))
theorem d_is_positive (B : BB K mg) (Z : SupB K PP) : Df PP w K mg base (GG K) 3 "is_positive" 1 (F_is_positive) := by
  obtain ⟨fd, F⟩ := B.def_ 19 (d := dd_is_positive) rfl
  exact df_okD (["value"] : List Str) (["value"]) F (B.glo 16 rfl) fs_is_positive (fun _ _ _ _ _ _ us hl => match us, hl with | [_], _ => rfl) rfl (r_is_positive B Z _)
/-! are_cuts -/
theorem nd_are_cuts : (["value", "cut"] : List Str).Nodup := by decide +kernel
theorem bo_are_cuts_0 : BlkOk (["value", "cut"] : List Str) (sc_are_cuts) { kind := .function, names := [(".0", .local), ("cut", .local), ("is_below", .globalImplicit), ("ZERO", .globalImplicit), ("ONE", .globalImplicit)], isGenerator := false, isCoroutine := false, more := [] : PySem.Scope } [("cut", 1)] := ⟨rfl, by decide +kernel, by decide +kernel, by decide +kernel, by decide +kernel⟩
theorem bo_are_cuts_1 : BlkOk (["value", "cut"] : List Str) (sc_are_cuts) { kind := .function, names := [(".0", .local), ("cut", .local), ("is_fraction", .globalImplicit)], isGenerator := false, isCoroutine := false, more := [] : PySem.Scope } [("cut", 1)] := ⟨rfl, by decide +kernel, by decide +kernel, by decide +kernel, by decide +kernel⟩
def m_are_cuts : MS :=
    (mseq (mIf (mor (mnot (mb (mw (mcall 3 F_is_tuple (mcons (mVar 0) (mcons (mC (.int 0)) (mcons (mC k_MOST_CUTS) mnil))))))) (mnot (mb (mw (mN (mcons (mw (mlc [1] (misrc (mVar 0)) (mgN 1) myes (mw (mcall 1 F_is_fraction (mcons (mVar 1) mnil))))) mnil) (allV fun bs => bs.all id)))))) (mret (me (mC (.bool false)))) mnext)
    (mret (me (mandV (mw (mcall 1 F_are_growing (mcons (mVar 0) mnil))) (mw (mN (mcons (mw (mlc [1] (misrc (mVar 0)) (mgN 1) myes (mandV (mw (mcall 2 F_is_below (mcons (mC k_ZERO) (mcons (mVar 1) mnil)))) (mw (mcall 2 F_is_below (mcons (mVar 1) (mcons (mC k_ONE) mnil))))))) mnil) (allV fun bs => bs.all id)))))))
theorem fs_are_cuts : FnScope (["value", "cut"] : List Str) (["value"] : List Str) sc_are_cuts := ⟨rfl, rfl, rfl, nd_are_cuts, rfl, by decide +kernel, by decide +kernel⟩
def F_are_cuts : Fn := trimF (runF 2 (m_are_cuts))
theorem r_are_cuts (B : BB K mg) (Z : SupB K PP) (f : Addr) : ∀ (cdv : Value) (A : Around) (outer : List Env) (s : Shared) (H : Hp) (E : XK), Room 2 (A.deeper (envOfC "are_cuts" sc_are_cuts s.heap.objs.size f cdv)) →
    RSs (cxOf (L2.CX PP w) PP w K mg base (["value", "cut"] : List Str) "are_cuts" sc_are_cuts f cdv A outer s H E) (GG K) (WxE E) (defBody st_are_cuts) (m_are_cuts) := by
  have bl_all : mg "all" = none := B.free 41 rfl
  exact fun cdv A outer s H E hr =>
    (rs_cons (rs_if (RP.rt (rp_or (rt_not (rt_val (RE.rw (re_call (d_is_tuple B Z) hr (by decide) rfl (takes_of rfl rfl rfl rfl) (ra_cons (rw_var 0) (ra_cons rw_int (ra_cons (rw_glob rfl (g_MOST_CUTS B rfl)) ra_nil))))))) (rp_or1 (rt_not (rt_val (RE.rw (re_all rfl rfl bl_all (ra_cons (RE.rw (re_lc [("cut", 1)] rfl nd_are_cuts (ri_seq (rw_var 0)) bo_are_cuts_1 (fun s H C cl fp => (rg_name (vs := [1]) 1 nd_are_cuts)) (fun s H C cl fp => rts_nil) (fun s H C cl fp => (RE.rw (re_call (d_is_fraction B Z) hr (by decide) rfl takes0 (ra_cons (rw_var 1) ra_nil)))))) ra_nil)))))))) (rs_one (rs_ret (RW.re rw_bl))) rs_nil)
    (rs_one (rs_ret (RW.re (rw_and (RE.rw (re_call (d_are_growing B Z) hr (by decide) rfl (takes_of rfl rfl rfl rfl) (ra_cons (rw_var 0) ra_nil))) (rw_one (RE.rw (re_all rfl rfl bl_all (ra_cons (RE.rw (re_lc [("cut", 1)] rfl nd_are_cuts (ri_seq (rw_var 0)) bo_are_cuts_0 (fun s H C cl fp => (rg_name (vs := [1]) 1 nd_are_cuts)) (fun s H C cl fp => rts_nil) (fun s H C cl fp => (rw_and (RE.rw (re_call (d_is_below B Z) hr (by decide) rfl takes0 (ra_cons (rw_glob rfl (g_ZERO B rfl)) (ra_cons (rw_var 1) ra_nil)))) (rw_one (RE.rw (re_call (d_is_below B Z) hr (by decide) rfl takes0 (ra_cons (rw_var 1) (ra_cons (rw_glob rfl (g_ONE B rfl)) ra_nil))))))))) ra_nil)))))))))
theorem d_are_cuts (B : BB K mg) (Z : SupB K PP) : Df PP w K mg base (GG K) 3 "are_cuts" 1 (F_are_cuts) := by
  obtain ⟨fd, F⟩ := B.def_ 20 (d := dd_are_cuts) rfl
  exact df_okD (["value", "cut"] : List Str) (["value"]) F (B.glo 17 rfl) fs_are_cuts (fun _ _ _ _ _ _ us hl => match us, hl with | [_], _ => rfl) rfl (r_are_cuts B Z _)
/-! is_place -/
theorem nd_is_place : (["value"] : List Str).Nodup := by decide +kernel
def m_is_place : MS :=
    (mret (me (mandV (mw (mcall 1 F_is_fraction (mcons (mVar 0) mnil))) (mandV (mnotV (mw (mcall 2 F_is_below (mcons (mVar 0) (mcons (mC k_ZERO) mnil))))) (mnotV (mw (mcall 2 F_is_below (mcons (mC k_ONE) (mcons (mVar 0) mnil)))))))))
theorem fs_is_place : FnScope (["value"] : List Str) (["value"] : List Str) sc_is_place := ⟨rfl, rfl, rfl, nd_is_place, rfl, by decide +kernel, by decide +kernel⟩
def F_is_place : Fn := trimF (runF 1 (m_is_place))
theorem r_is_place (B : BB K mg) (Z : SupB K PP) (f : Addr) : ∀ (cdv : Value) (A : Around) (outer : List Env) (s : Shared) (H : Hp) (E : XK), Room 2 (A.deeper (envOfC "is_place" sc_is_place s.heap.objs.size f cdv)) →
    RSs (cxOf (L2.CX PP w) PP w K mg base (["value"] : List Str) "is_place" sc_is_place f cdv A outer s H E) (GG K) (WxE E) (defBody st_is_place) (m_is_place) := by
  exact fun cdv A outer s H E hr =>
    (rs_one (rs_ret (RW.re (rw_and (RE.rw (re_call (d_is_fraction B Z) hr (by decide) rfl (takes_of rfl rfl rfl rfl) (ra_cons (rw_var 0) ra_nil))) (rw_and (rw_not (RE.rw (re_call (d_is_below B Z) hr (by decide) rfl (takes_of rfl rfl rfl rfl) (ra_cons (rw_var 0) (ra_cons (rw_glob rfl (g_ZERO B rfl)) ra_nil))))) (rw_one (rw_not (RE.rw (re_call (d_is_below B Z) hr (by decide) rfl (takes_of rfl rfl rfl rfl) (ra_cons (rw_glob rfl (g_ONE B rfl)) (ra_cons (rw_var 0) ra_nil)))))))))))
theorem d_is_place (B : BB K mg) (Z : SupB K PP) : Df PP w K mg base (GG K) 3 "is_place" 1 (F_is_place) := by
  obtain ⟨fd, F⟩ := B.def_ 21 (d := dd_is_place) rfl
  exact df_okD (["value"] : List Str) (["value"]) F (B.glo 18 rfl) fs_is_place (fun _ _ _ _ _ _ us hl => match us, hl with | [_], _ => rfl) rfl (r_is_place B Z _)
/-! Crew.settle -/
theorem nd_Crew_settle : (["self", "is_open"] : List Str).Nodup := by decide +kernel
def m_Crew_settle (fuel : Nat) : MS :=
    (mseq (mset 1 (mC (.bool true)))
    (wloop (mb (mVar 1)) (mset 1 (mw (mmeth 6 "turned" 1 F_Crew_turned (mVar 0) mnil))) fuel))
theorem fs_Crew_settle : FnScope (["self", "is_open"] : List Str) (["self"] : List Str) sc_Crew_settle := ⟨rfl, rfl, rfl, nd_Crew_settle, rfl, by decide +kernel, by decide +kernel⟩
def F_Crew_settle (fuel : Nat) : Fn := trimF (runF 2 (m_Crew_settle fuel))
theorem r_Crew_settle (B : BB K mg) (Z : SupB K PP) (fuel : Nat) (f : Addr) : ∀ (cdv : Value) (A : Around) (outer : List Env) (s : Shared) (H : Hp) (E : XK), Room 2 (A.deeper (envOfC "Crew.settle" sc_Crew_settle s.heap.objs.size f cdv)) →
    RSs (cxOf (L2.CX PP w) PP w K mg base (["self", "is_open"] : List Str) "Crew.settle" sc_Crew_settle f cdv A outer s H E) (GG K) (WxE E) (defBody st_Crew_settle) (m_Crew_settle fuel) := by
  exact fun cdv A outer s H E hr =>
    (rs_cons (rs_set 1 nd_Crew_settle rw_bl)
    (rs_one (rs_while fuel (passes_of rfl) (rt_val (rw_var 1)) (rs_one (rs_set 1 nd_Crew_settle (RE.rw (re_meth0 (d_Crew_turned B Z) hr (by decide) (takes_of rfl rfl rfl rfl) (rw_var 0))))))))
theorem d_Crew_settle (B : BB K mg) (Z : SupB K PP) (fuel : Nat) : Mf PP w K mg base (GG K) 3 6 "settle" 1 (F_Crew_settle fuel) := by
  obtain ⟨fd, F⟩ := B.def_ 22 (d := dd_Crew_settle) rfl
  exact mf_okD (["self", "is_open"] : List Str) (["self"]) (He.cls_ok (B.fact 62 rfl)) (He.meth_ok (B.fact 68 rfl)) F fs_Crew_settle (fun _ _ _ _ _ _ us hl => match us, hl with | [_], _ => rfl) rfl (r_Crew_settle B Z fuel _)
/-! _law_brigade -/
theorem nd__law_brigade : (["pool", "least", "most", "cuts", "own", "many", "person", "piece"] : List Str).Nodup := by decide +kernel
theorem bo__law_brigade_0 : BlkOk (["pool", "least", "most", "cuts", "own", "many", "person", "piece"] : List Str) (sc__law_brigade) { kind := .function, names := [(".0", .local), ("person", .local), ("tuple", .globalImplicit), ("range", .globalImplicit), ("len", .globalImplicit), ("own", .free), ("pool", .free)], isGenerator := false, isCoroutine := false, more := [] : PySem.Scope } [("person", 6)] := ⟨rfl, by decide +kernel, by decide +kernel, by decide +kernel, by decide +kernel⟩
theorem bo__law_brigade_1 : BlkOk (["pool", "least", "most", "cuts", "own", "many", "person", "piece"] : List Str) { kind := .function, names := [(".0", .local), ("person", .local), ("tuple", .globalImplicit), ("range", .globalImplicit), ("len", .globalImplicit), ("own", .cell), ("pool", .cell)], isGenerator := false, isCoroutine := false, more := [] : PySem.Scope } { kind := .function, names := [(".0", .local), ("piece", .local), ("_law_speed", .globalImplicit), ("pool", .free)], isGenerator := false, isCoroutine := false, more := [] : PySem.Scope } [("piece", 7)] := ⟨rfl, by decide +kernel, by decide +kernel, by decide +kernel, by decide +kernel⟩
def m__law_brigade (fuel : Nat) : MS :=
    (mseq (mset 4 (mw (mcall 4 (F__law_twelfths fuel) (mcons (mVar 0) (mcons (mVar 3) (mcons (mC (.int 1)) (mcons (mC (.int 11)) mnil)))))))
    (mseq (mset 5 (mw (m2 (mVar 1) (mw (mcall 2 F__law_take (mcons (mVar 0) (mcons (mw (m2 (mw (m2 (mVar 2) (mVar 1) isub)) (mC (.int 1)) addV)) mnil)))) addV)))
    (mret (me (mtup (mcons (mVar 4) (mcons (mw (mN (mcons (mw (mlc [6] (mrng1 (mcons (mVar 5) mnil)) (mgN 6) myes (mw (mN (mcons (mw (mlc [7] (mrng1 (mcons (mw (m2 (mw (mN (mcons (mVar 4) mnil) lenV)) (mC (.int 1)) addV)) mnil)) (mgN 7) myes (mw (mcall 1 (F__law_speed fuel) (mcons (mVar 0) mnil))))) mnil) tupV)))) mnil) tupV)) mnil)))))))
theorem fs__law_brigade : FnScope (["pool", "least", "most", "cuts", "own", "many", "person", "piece"] : List Str) (["pool", "least", "most", "cuts"] : List Str) sc__law_brigade := ⟨rfl, rfl, rfl, nd__law_brigade, rfl, by decide +kernel, by decide +kernel⟩
def F__law_brigade (fuel : Nat) : Fn := trimF (runF 8 (m__law_brigade fuel))
theorem r__law_brigade (B : BB K mg) (Z : SupB K PP) (fuel : Nat) (f : Addr) : ∀ (cdv : Value) (A : Around) (outer : List Env) (s : Shared) (H : Hp) (E : XK), Room 2 (A.deeper (envOfC "_law_brigade" sc__law_brigade s.heap.objs.size f cdv)) →
    RSs (cxOf (L2.CX PP w) PP w K mg base (["pool", "least", "most", "cuts", "own", "many", "person", "piece"] : List Str) "_law_brigade" sc__law_brigade f cdv A outer s H E) (GG K) (WxE E) (defBody st__law_brigade) (m__law_brigade fuel) := by
  have bl_len : mg "len" = none := B.free 46 rfl
  have bl_range : mg "range" = none := B.free 48 rfl
  have bl_tuple : mg "tuple" = none := B.free 52 rfl
  exact fun cdv A outer s H E hr =>
    (rs_cons (rs_set 4 nd__law_brigade (RE.rw (re_call (d__law_twelfths B Z fuel) hr (by decide) rfl (takes_of rfl rfl rfl rfl) (ra_cons (rw_var 0) (ra_cons (rw_var 3) (ra_cons rw_int (ra_cons rw_int ra_nil)))))))
    (rs_cons (rs_set 5 nd__law_brigade (RE.rw (re_add (rw_var 1) (RE.rw (re_call (d__law_take B Z) hr (by decide) rfl (takes_of rfl rfl rfl rfl) (ra_cons (rw_var 0) (ra_cons (RE.rw (re_add (RE.rw (re_sub (rw_var 2) (rw_var 1))) rw_int)) ra_nil)))))))
    (rs_one (rs_ret (RW.re (rw_tup (ra_cons (rw_var 4) (ra_cons (RE.rw (re_tuple rfl bl_tuple (ra_cons (RE.rw (re_lc [("person", 6)] rfl nd__law_brigade (ri_range1 rfl bl_range (ra_cons (rw_var 5) ra_nil)) bo__law_brigade_0 (fun s H C cl fp => (rg_name (vs := [6]) 6 nd__law_brigade)) (fun s H C cl fp => rts_nil) (fun s H C cl fp => (RE.rw (re_tuple rfl bl_tuple (ra_cons (RE.rw (re_lc [("piece", 7)] rfl nd__law_brigade (ri_range1 rfl bl_range (ra_cons (RE.rw (re_add (RE.rw (re_len rfl bl_len (ra_cons (rw_var 4) ra_nil))) rw_int)) ra_nil)) bo__law_brigade_1 (fun s H C cl fp => (rg_name (vs := [7]) 7 nd__law_brigade)) (fun s H C cl fp => rts_nil) (fun s H C cl fp => (RE.rw (re_call (d__law_speed B Z fuel) hr (by decide) rfl takes0 (ra_cons (rw_var 0) ra_nil)))))) ra_nil)))))) ra_nil))) ra_nil))))))))
theorem d__law_brigade (B : BB K mg) (Z : SupB K PP) (fuel : Nat) : Df PP w K mg base (GG K) 3 "_law_brigade" 4 (F__law_brigade fuel) := by
  obtain ⟨fd, F⟩ := B.def_ 23 (d := dd__law_brigade) rfl
  exact df_okD (["pool", "least", "most", "cuts", "own", "many", "person", "piece"] : List Str) (["pool", "least", "most", "cuts"]) F (B.glo 19 rfl) fs__law_brigade (fun _ _ _ _ _ _ us hl => match us, hl with | [_, _, _, _], _ => rfl) rfl (r__law_brigade B Z fuel _)
/-! _law_stands -/
theorem nd__law_stands : (["pool", "many", "place"] : List Str).Nodup := by decide +kernel
theorem bo__law_stands_0 : BlkOk (["pool", "many", "place"] : List Str) (sc__law_stands) { kind := .function, names := [(".0", .local), ("place", .local), ("_law_take", .globalImplicit), ("pool", .free)], isGenerator := false, isCoroutine := false, more := [] : PySem.Scope } [("place", 2)] := ⟨rfl, by decide +kernel, by decide +kernel, by decide +kernel, by decide +kernel⟩
def m__law_stands (fuel : Nat) : MS :=
    (mret (mN (mcons (mw (mlc [2] (misrc (mw (mcall 2 (F__law_places fuel) (mcons (mVar 0) (mcons (mVar 1) mnil))))) (mgN 2) myes (mtup (mcons (mVar 2) (mcons (mw (m2 (mw (mlst (mcons (mC (.str "ahead")) (mcons (mC (.str "back")) mnil)))) (mw (mcall 2 F__law_take (mcons (mVar 0) (mcons (mC (.int 2)) mnil)))) ixV)) mnil))))) mnil) tupV))
theorem fs__law_stands : FnScope (["pool", "many", "place"] : List Str) (["pool", "many"] : List Str) sc__law_stands := ⟨rfl, rfl, rfl, nd__law_stands, rfl, by decide +kernel, by decide +kernel⟩
def F__law_stands (fuel : Nat) : Fn := trimF (runF 3 (m__law_stands fuel))
theorem r__law_stands (B : BB K mg) (Z : SupB K PP) (fuel : Nat) (f : Addr) : ∀ (cdv : Value) (A : Around) (outer : List Env) (s : Shared) (H : Hp) (E : XK), Room 2 (A.deeper (envOfC "_law_stands" sc__law_stands s.heap.objs.size f cdv)) →
    RSs (cxOf (L2.CX PP w) PP w K mg base (["pool", "many", "place"] : List Str) "_law_stands" sc__law_stands f cdv A outer s H E) (GG K) (WxE E) (defBody st__law_stands) (m__law_stands fuel) := by
  have bl_tuple : mg "tuple" = none := B.free 52 rfl
  exact fun cdv A outer s H E hr =>
    (rs_one (rs_ret (re_tuple rfl bl_tuple (ra_cons (RE.rw (re_lc [("place", 2)] rfl nd__law_stands (ri_seq (RE.rw (re_call (d__law_places B Z fuel) hr (by decide) rfl (takes_of rfl rfl rfl rfl) (ra_cons (rw_var 0) (ra_cons (rw_var 1) ra_nil))))) bo__law_stands_0 (fun s H C cl fp => (rg_name (vs := [2]) 2 nd__law_stands)) (fun s H C cl fp => rts_nil) (fun s H C cl fp => (rw_tup (ra_cons (rw_var 2) (ra_cons (RE.rw (re_ix (RE.rw (re_lst (ra_cons rw_str (ra_cons rw_str ra_nil)))) (RE.rw (re_call (d__law_take B Z) hr (by decide) rfl takes0 (ra_cons (rw_var 0) (ra_cons rw_int ra_nil)))))) ra_nil)))))) ra_nil))))
theorem d__law_stands (B : BB K mg) (Z : SupB K PP) (fuel : Nat) : Df PP w K mg base (GG K) 3 "_law_stands" 2 (F__law_stands fuel) := by
  obtain ⟨fd, F⟩ := B.def_ 24 (d := dd__law_stands) rfl
  exact df_okD (["pool", "many", "place"] : List Str) (["pool", "many"]) F (B.glo 20 rfl) fs__law_stands (fun _ _ _ _ _ _ us hl => match us, hl with | [_, _], _ => rfl) rfl (r__law_stands B Z fuel _)
/-! are_speeds -/
theorem nd_are_speeds : (["value", "many", "speed"] : List Str).Nodup := by decide +kernel
theorem bo_are_speeds_0 : BlkOk (["value", "many", "speed"] : List Str) (sc_are_speeds) { kind := .function, names := [(".0", .local), ("speed", .local), ("is_positive", .globalImplicit)], isGenerator := false, isCoroutine := false, more := [] : PySem.Scope } [("speed", 2)] := ⟨rfl, by decide +kernel, by decide +kernel, by decide +kernel, by decide +kernel⟩
def m_are_speeds : MS :=
    (mret (me (mandV (mw (mcall 3 F_is_tuple (mcons (mVar 0) (mcons (mVar 1) (mcons (mVar 1) mnil))))) (mw (mN (mcons (mw (mlc [2] (misrc (mVar 0)) (mgN 2) myes (mw (mcall 1 F_is_positive (mcons (mVar 2) mnil))))) mnil) (allV fun bs => bs.all id))))))
theorem fs_are_speeds : FnScope (["value", "many", "speed"] : List Str) (["value", "many"] : List Str) sc_are_speeds := ⟨rfl, rfl, rfl, nd_are_speeds, rfl, by decide +kernel, by decide +kernel⟩
def F_are_speeds : Fn := trimF (runF 3 (m_are_speeds))
theorem r_are_speeds (B : BB K mg) (Z : SupB K PP) (f : Addr) : ∀ (cdv : Value) (A : Around) (outer : List Env) (s : Shared) (H : Hp) (E : XK), Room 3 (A.deeper (envOfC "are_speeds" sc_are_speeds s.heap.objs.size f cdv)) →
    RSs (cxOf (L2.CX PP w) PP w K mg base (["value", "many", "speed"] : List Str) "are_speeds" sc_are_speeds f cdv A outer s H E) (GG K) (WxE E) (defBody st_are_speeds) (m_are_speeds) := by
  have bl_all : mg "all" = none := B.free 41 rfl
  exact fun cdv A outer s H E hr =>
    (rs_one (rs_ret (RW.re (rw_and (RE.rw (re_call (d_is_tuple B Z) hr (by decide) rfl (takes_of rfl rfl rfl rfl) (ra_cons (rw_var 0) (ra_cons (rw_var 1) (ra_cons (rw_var 1) ra_nil))))) (rw_one (RE.rw (re_all rfl rfl bl_all (ra_cons (RE.rw (re_lc [("speed", 2)] rfl nd_are_speeds (ri_seq (rw_var 0)) bo_are_speeds_0 (fun s H C cl fp => (rg_name (vs := [2]) 2 nd_are_speeds)) (fun s H C cl fp => rts_nil) (fun s H C cl fp => (RE.rw (re_call (d_is_positive B Z) hr (by decide) rfl takes0 (ra_cons (rw_var 2) ra_nil)))))) ra_nil))))))))
theorem d_are_speeds (B : BB K mg) (Z : SupB K PP) : Df PP w K mg base (GG K) 4 "are_speeds" 2 (F_are_speeds) := by
  obtain ⟨fd, F⟩ := B.def_ 25 (d := dd_are_speeds) rfl
  exact df_okD (["value", "many", "speed"] : List Str) (["value", "many"]) F (B.glo 21 rfl) fs_are_speeds (fun _ _ _ _ _ _ us hl => match us, hl with | [_, _], _ => rfl) rfl (r_are_speeds B Z _)
/-! are_any_places -/
theorem nd_are_any_places : (["value", "place", "one", "other"] : List Str).Nodup := by decide +kernel
theorem bo_are_any_places_0 : BlkOk (["value", "place", "one", "other"] : List Str) (sc_are_any_places) { kind := .function, names := [(".0", .local), ("one", .local), ("other", .local), ("is_below", .globalImplicit)], isGenerator := false, isCoroutine := false, more := [] : PySem.Scope } [("one", 2), ("other", 3)] := ⟨rfl, by decide +kernel, by decide +kernel, by decide +kernel, by decide +kernel⟩
theorem bo_are_any_places_1 : BlkOk (["value", "place", "one", "other"] : List Str) (sc_are_any_places) { kind := .function, names := [(".0", .local), ("place", .local), ("is_place", .globalImplicit)], isGenerator := false, isCoroutine := false, more := [] : PySem.Scope } [("place", 1)] := ⟨rfl, by decide +kernel, by decide +kernel, by decide +kernel, by decide +kernel⟩
def m_are_any_places : MS :=
    (mseq (mIf (mor (mnot (mb (mw (mcall 3 F_is_tuple (mcons (mVar 0) (mcons (mC (.int 1)) (mcons (mC k_MOST_PEOPLE_rescales) mnil))))))) (mnot (mb (mw (mN (mcons (mw (mlc [1] (misrc (mVar 0)) (mgN 1) myes (mw (mcall 1 F_is_place (mcons (mVar 1) mnil))))) mnil) (allV fun bs => bs.all id)))))) (mret (me (mC (.bool false)))) mnext)
    (mret (me (mnotV (mw (mN (mcons (mw (mlc [2, 3] (mzip (mcons (mVar 0) (mcons (mw (mslice (mVar 0) (moS (mC (.int 1))) moN)) mnil))) (mgtup 2 (mgcons (mgN 2) (mgcons (mgN 3) mgnil))) myes (mw (mcall 2 F_is_below (mcons (mVar 3) (mcons (mVar 2) mnil)))))) mnil) (allV fun bs => bs.any id)))))))
theorem fs_are_any_places : FnScope (["value", "place", "one", "other"] : List Str) (["value"] : List Str) sc_are_any_places := ⟨rfl, rfl, rfl, nd_are_any_places, rfl, by decide +kernel, by decide +kernel⟩
def F_are_any_places : Fn := trimF (runF 4 (m_are_any_places))
theorem r_are_any_places (B : BB K mg) (Z : SupB K PP) (f : Addr) : ∀ (cdv : Value) (A : Around) (outer : List Env) (s : Shared) (H : Hp) (E : XK), Room 3 (A.deeper (envOfC "are_any_places" sc_are_any_places s.heap.objs.size f cdv)) →
    RSs (cxOf (L2.CX PP w) PP w K mg base (["value", "place", "one", "other"] : List Str) "are_any_places" sc_are_any_places f cdv A outer s H E) (GG K) (WxE E) (defBody st_are_any_places) (m_are_any_places) := by
  have bl_all : mg "all" = none := B.free 41 rfl
  have bl_any : mg "any" = none := B.free 42 rfl
  have bl_zip : mg "zip" = none := B.free 53 rfl
  exact fun cdv A outer s H E hr =>
    (rs_cons (rs_if (RP.rt (rp_or (rt_not (rt_val (RE.rw (re_call (d_is_tuple B Z) hr (by decide) rfl (takes_of rfl rfl rfl rfl) (ra_cons (rw_var 0) (ra_cons rw_int (ra_cons (rw_glob rfl (g_MOST_PEOPLE_rescales B rfl)) ra_nil))))))) (rp_or1 (rt_not (rt_val (RE.rw (re_all rfl rfl bl_all (ra_cons (RE.rw (re_lc [("place", 1)] rfl nd_are_any_places (ri_seq (rw_var 0)) bo_are_any_places_1 (fun s H C cl fp => (rg_name (vs := [1]) 1 nd_are_any_places)) (fun s H C cl fp => rts_nil) (fun s H C cl fp => (RE.rw (re_call (d_is_place B Z) hr (by decide) rfl takes0 (ra_cons (rw_var 1) ra_nil)))))) ra_nil)))))))) (rs_one (rs_ret (RW.re rw_bl))) rs_nil)
    (rs_one (rs_ret (RW.re (rw_not (RE.rw (re_any rfl rfl bl_any (ra_cons (RE.rw (re_lc [("one", 2), ("other", 3)] rfl nd_are_any_places (ri_zip2 rfl bl_zip (ra_cons (rw_var 0) (ra_cons (RE.rw (re_slice (rw_var 0) (ro_some rw_int) ro_none)) ra_nil))) bo_are_any_places_0 (fun s H C cl fp => (rg_tup rfl (rg_cons (rg_name (vs := [2, 3]) 2 nd_are_any_places) (rg_cons (rg_name (vs := [2, 3]) 3 nd_are_any_places) rg_nil)))) (fun s H C cl fp => rts_nil) (fun s H C cl fp => (RE.rw (re_call (d_is_below B Z) hr (by decide) rfl takes0 (ra_cons (rw_var 3) (ra_cons (rw_var 2) ra_nil))))))) ra_nil))))))))
theorem d_are_any_places (B : BB K mg) (Z : SupB K PP) : Df PP w K mg base (GG K) 4 "are_any_places" 1 (F_are_any_places) := by
  obtain ⟨fd, F⟩ := B.def_ 26 (d := dd_are_any_places) rfl
  exact df_okD (["value", "place", "one", "other"] : List Str) (["value"]) F (B.glo 22 rfl) fs_are_any_places (fun _ _ _ _ _ _ us hl => match us, hl with | [_], _ => rfl) rfl (r_are_any_places B Z _)
/-! Crew.__init__ -/
theorem nd_Crew___init__ : (["self", "walkers", "stands", "place", "way"] : List Str).Nodup := by decide +kernel
theorem bo_Crew___init___0 : BlkOk (["self", "walkers", "stands", "place", "way"] : List Str) (sc_Crew___init__) { kind := .function, names := [(".0", .local), ("place", .local), ("way", .local)], isGenerator := false, isCoroutine := false, more := [] : PySem.Scope } [("place", 3), ("way", 4)] := ⟨rfl, by decide +kernel, by decide +kernel, by decide +kernel, by decide +kernel⟩
theorem bo_Crew___init___1 : BlkOk (["self", "walkers", "stands", "place", "way"] : List Str) (sc_Crew___init__) { kind := .function, names := [(".0", .local), ("place", .local), ("way", .local)], isGenerator := false, isCoroutine := false, more := [] : PySem.Scope } [("place", 3), ("way", 4)] := ⟨rfl, by decide +kernel, by decide +kernel, by decide +kernel, by decide +kernel⟩
def m_Crew___init__ (fuel : Nat) : MS :=
    (mseq (masg (mVar 1) fun w env S => ((mgtup 2 (mgcons (mgtup 2 (mgcons (mgfld [6] "cuts" (mVar 0)) (mgcons (mgfld [6] "people" (mVar 0)) mgnil))) (mgcons (mgfld [6] "backs" (mVar 0)) mgnil))) w env S).pl)
    (mseq (masg (mw (mlc [3, 4] (misrc (mVar 2)) (mgtup 2 (mgcons (mgN 3) (mgcons (mgN 4) mgnil))) myes (mVar 3))) fun w env S => ((mgfld [6] "places" (mVar 0)) w env S).pl)
    (mseq (masg (mwM (mlc [3, 4] (misrc (mVar 2)) (mgtup 2 (mgcons (mgN 3) (mgcons (mgN 4) mgnil))) myes (mw (m2 (mVar 4) (mC (.str "ahead")) (eqv false))))) fun w env S => ((mgfld [6] "ahead" (mVar 0)) w env S).pl)
    (mseq (masgT 2 (mcons (mC (.int 0)) (mcons (mC k_ZERO) mnil)) (mgcons (mgfld [6] "out" (mVar 0)) (mgcons (mgfld [6] "time" (mVar 0)) mgnil)))
    (mexpr (mmeth 6 "settle" 1 (F_Crew_settle fuel) (mVar 0) mnil))))))
theorem fs_Crew___init__ : FnScope (["self", "walkers", "stands", "place", "way"] : List Str) (["self", "walkers", "stands"] : List Str) sc_Crew___init__ := ⟨rfl, rfl, rfl, nd_Crew___init__, rfl, by decide +kernel, by decide +kernel⟩
def F_Crew___init__ (fuel : Nat) : Fn := trimF (runF 5 (m_Crew___init__ fuel))
theorem r_Crew___init__ (B : BB K mg) (Z : SupB K PP) (fuel : Nat) (f : Addr) : ∀ (cdv : Value) (A : Around) (outer : List Env) (s : Shared) (H : Hp) (E : XK), Room 3 (A.deeper (envOfC "Crew.__init__" sc_Crew___init__ s.heap.objs.size f cdv)) →
    RSs (cxOf (L2.CX PP w) PP w K mg base (["self", "walkers", "stands", "place", "way"] : List Str) "Crew.__init__" sc_Crew___init__ f cdv A outer s H E) (GG K) (WxE E) (defBody st_Crew___init__) (m_Crew___init__ fuel) := by
  exact fun cdv A outer s H E hr =>
    (rs_cons (rs_asg (vs := [0]) (rw_var 1) (rg_tup rfl (rg_cons (rg_tup rfl (rg_cons (rg_fld (vs := [0]) [6] "cuts" (cf_cuts B rfl) (rw_var 0)) (rg_cons (rg_fld (vs := [0]) [6] "people" (cf_people B rfl) (rw_var 0)) rg_nil))) (rg_cons (rg_fld (vs := [0]) [6] "backs" (cf_backs B rfl) (rw_var 0)) rg_nil))))
    (rs_cons (rs_asg (vs := []) (RE.rw (re_lc [("place", 3), ("way", 4)] rfl nd_Crew___init__ (ri_seq (rw_var 2)) bo_Crew___init___1 (fun s H C cl fp => (rg_tup rfl (rg_cons (rg_name (vs := [3, 4]) 3 nd_Crew___init__) (rg_cons (rg_name (vs := [3, 4]) 4 nd_Crew___init__) rg_nil)))) (fun s H C cl fp => rts_nil) (fun s H C cl fp => (rw_var 3)))) (rg_fld (vs := []) [6] "places" (cf_places B rfl) (rw_var 0)))
    (rs_cons (rs_asg (vs := []) (RE.rwM (re_lc [("place", 3), ("way", 4)] rfl nd_Crew___init__ (ri_seq (rw_var 2)) bo_Crew___init___0 (fun s H C cl fp => (rg_tup rfl (rg_cons (rg_name (vs := [3, 4]) 3 nd_Crew___init__) (rg_cons (rg_name (vs := [3, 4]) 4 nd_Crew___init__) rg_nil)))) (fun s H C cl fp => rts_nil) (fun s H C cl fp => (RE.rw (re_c (cm_eq hr) (rw_var 4) rw_str))))) (rg_fld (vs := []) [6] "ahead" (cf_ahead B rfl) (rw_var 0)))
    (rs_cons (rs_asgT (vs := [0]) rfl (ra_cons rw_int (ra_cons (rw_glob rfl (g_ZERO B rfl)) ra_nil)) (rg_cons (rg_fld (vs := [0]) [6] "out" (cf_out B rfl) (rw_var 0)) (rg_cons (rg_fld (vs := [0]) [6] "time" (cf_time B rfl) (rw_var 0)) rg_nil)))
    (rs_one (rs_expr (re_meth0 (d_Crew_settle B Z fuel) hr (by decide) (takes_of rfl rfl rfl rfl) (rw_var 0))))))))
theorem d_Crew___init__ (B : BB K mg) (Z : SupB K PP) (fuel : Nat) : Kf PP w K mg base (GG K) 4 6 "Crew" 3 (F_Crew___init__ fuel) := by
  obtain ⟨fd, F⟩ := B.def_ 27 (d := dd_Crew___init__) rfl
  exact kf_okD (["self", "walkers", "stands", "place", "way"] : List Str) (["self", "walkers", "stands"]) (He.mkr_ok (B.fact 63 rfl)) (B.glo 64 rfl) F fs_Crew___init__ (fun _ _ _ _ _ _ us hl => match us, hl with | [_, _, _], _ => rfl) rfl (r_Crew___init__ B Z fuel _)
/-! _law_walkers -/
theorem nd__law_walkers : (["pool", "most", "cuts", "brigade", "backs", "speeds", "piece"] : List Str).Nodup := by decide +kernel
theorem bo__law_walkers_0 : BlkOk (["pool", "most", "cuts", "brigade", "backs", "speeds", "piece"] : List Str) (sc__law_walkers) { kind := .function, names := [(".0", .local), ("speeds", .local), ("tuple", .globalImplicit), ("pool", .free)], isGenerator := false, isCoroutine := false, more := [] : PySem.Scope } [("speeds", 5)] := ⟨rfl, by decide +kernel, by decide +kernel, by decide +kernel, by decide +kernel⟩
theorem bo__law_walkers_1 : BlkOk (["pool", "most", "cuts", "brigade", "backs", "speeds", "piece"] : List Str) { kind := .function, names := [(".0", .local), ("speeds", .local), ("tuple", .globalImplicit), ("pool", .cell)], isGenerator := false, isCoroutine := false, more := [] : PySem.Scope } { kind := .function, names := [(".0", .local), ("piece", .local), ("_law_speed", .globalImplicit), ("pool", .free)], isGenerator := false, isCoroutine := false, more := [] : PySem.Scope } [("piece", 6)] := ⟨rfl, by decide +kernel, by decide +kernel, by decide +kernel, by decide +kernel⟩
def m__law_walkers (fuel : Nat) : MS :=
    (mseq (mset 3 (mw (mcall 4 (F__law_brigade fuel) (mcons (mVar 0) (mcons (mC (.int 1)) (mcons (mVar 1) (mcons (mVar 2) mnil)))))))
    (mseq (msetLc 4 (mlc [5] (misrc (mw (m2 (mVar 3) (mC (.int 1)) ixV))) (mgN 5) myes (mw (mN (mcons (mw (mlc [6] (misrc (mVar 5)) (mgN 6) myes (mw (mcall 1 (F__law_speed fuel) (mcons (mVar 0) mnil))))) mnil) tupV))) true)
    (mret (me (mtup (mcons (mVar 3) (mcons (mw (mN (mcons (mVar 4) mnil) tupV)) mnil)))))))
theorem fs__law_walkers : FnScope (["pool", "most", "cuts", "brigade", "backs", "speeds", "piece"] : List Str) (["pool", "most", "cuts"] : List Str) sc__law_walkers := ⟨rfl, rfl, rfl, nd__law_walkers, rfl, by decide +kernel, by decide +kernel⟩
def F__law_walkers (fuel : Nat) : Fn := trimF (runF 7 (m__law_walkers fuel))
theorem r__law_walkers (B : BB K mg) (Z : SupB K PP) (fuel : Nat) (f : Addr) : ∀ (cdv : Value) (A : Around) (outer : List Env) (s : Shared) (H : Hp) (E : XK), Room 3 (A.deeper (envOfC "_law_walkers" sc__law_walkers s.heap.objs.size f cdv)) →
    RSs (cxOf (L2.CX PP w) PP w K mg base (["pool", "most", "cuts", "brigade", "backs", "speeds", "piece"] : List Str) "_law_walkers" sc__law_walkers f cdv A outer s H E) (GG K) (WxE E) (defBody st__law_walkers) (m__law_walkers fuel) := by
  have bl_tuple : mg "tuple" = none := B.free 52 rfl
  exact fun cdv A outer s H E hr =>
    (rs_cons (rs_set 3 nd__law_walkers (RE.rw (re_call (d__law_brigade B Z fuel) hr (by decide) rfl (takes_of rfl rfl rfl rfl) (ra_cons (rw_var 0) (ra_cons rw_int (ra_cons (rw_var 1) (ra_cons (rw_var 2) ra_nil)))))))
    (rs_cons (rs_setLc 4 true [("speeds", 5)] rfl nd__law_walkers (ri_seq (RE.rw (re_ix (rw_var 3) rw_int))) bo__law_walkers_0 (fun s H C cl fp => (rg_name (vs := [5]) 5 nd__law_walkers)) (fun s H C cl fp => rts_nil) (fun s H C cl fp => (RE.rw (re_tuple rfl bl_tuple (ra_cons (RE.rw (re_lc [("piece", 6)] rfl nd__law_walkers (ri_seq (rw_var 5)) bo__law_walkers_1 (fun s H C cl fp => (rg_name (vs := [6]) 6 nd__law_walkers)) (fun s H C cl fp => rts_nil) (fun s H C cl fp => (RE.rw (re_call (d__law_speed B Z fuel) hr (by decide) rfl takes0 (ra_cons (rw_var 0) ra_nil)))))) ra_nil)))) rfl rfl rfl)
    (rs_one (rs_ret (RW.re (rw_tup (ra_cons (rw_var 3) (ra_cons (RE.rw (re_tuple rfl bl_tuple (ra_cons (rw_var 4) ra_nil))) ra_nil))))))))
theorem d__law_walkers (B : BB K mg) (Z : SupB K PP) (fuel : Nat) : Df PP w K mg base (GG K) 4 "_law_walkers" 3 (F__law_walkers fuel) := by
  obtain ⟨fd, F⟩ := B.def_ 28 (d := dd__law_walkers) rfl
  exact df_okD (["pool", "most", "cuts", "brigade", "backs", "speeds", "piece"] : List Str) (["pool", "most", "cuts"]) F (B.glo 23 rfl) fs__law_walkers (fun _ _ _ _ _ _ us hl => match us, hl with | [_, _, _], _ => rfl) rfl (r__law_walkers B Z fuel _)
/-! is_a_brigade -/
theorem nd_is_a_brigade : (["value", "speeds"] : List Str).Nodup := by decide +kernel
theorem bo_is_a_brigade_0 : BlkOk (["value", "speeds"] : List Str) (sc_is_a_brigade) { kind := .function, names := [(".0", .local), ("speeds", .local), ("are_speeds", .globalImplicit), ("len", .globalImplicit), ("value", .free)], isGenerator := false, isCoroutine := false, more := [] : PySem.Scope } [("speeds", 1)] := ⟨rfl, by decide +kernel, by decide +kernel, by decide +kernel, by decide +kernel⟩
def m_is_a_brigade : MS :=
    (mseq (mIf (mor (mnot (mb (mw (mcall 3 F_is_tuple (mcons (mVar 0) (mcons (mC (.int 2)) (mcons (mC (.int 2)) mnil))))))) (mor (mnot (mb (mw (mcall 1 F_are_cuts (mcons (mw (m2 (mVar 0) (mC (.int 0)) ixV)) mnil))))) (mnot (mb (mw (mcall 3 F_is_tuple (mcons (mw (m2 (mVar 0) (mC (.int 1)) ixV)) (mcons (mC (.int 1)) (mcons (mC k_MOST_PEOPLE_brigades) mnil))))))))) (mret (me (mC (.bool false)))) mnext)
    (mret (mN (mcons (mw (mlc [1] (misrc (mw (m2 (mVar 0) (mC (.int 1)) ixV))) (mgN 1) myes (mw (mcall 2 F_are_speeds (mcons (mVar 1) (mcons (mw (m2 (mw (mN (mcons (mw (m2 (mVar 0) (mC (.int 0)) ixV)) mnil) lenV)) (mC (.int 1)) addV)) mnil)))))) mnil) (allV fun bs => bs.all id))))
theorem fs_is_a_brigade : FnScope (["value", "speeds"] : List Str) (["value"] : List Str) sc_is_a_brigade := ⟨rfl, rfl, rfl, nd_is_a_brigade, rfl, by decide +kernel, by decide +kernel⟩
def F_is_a_brigade : Fn := trimF (runF 2 (m_is_a_brigade))
theorem r_is_a_brigade (B : BB K mg) (Z : SupB K PP) (f : Addr) : ∀ (cdv : Value) (A : Around) (outer : List Env) (s : Shared) (H : Hp) (E : XK), Room 4 (A.deeper (envOfC "is_a_brigade" sc_is_a_brigade s.heap.objs.size f cdv)) →
    RSs (cxOf (L2.CX PP w) PP w K mg base (["value", "speeds"] : List Str) "is_a_brigade" sc_is_a_brigade f cdv A outer s H E) (GG K) (WxE E) (defBody st_is_a_brigade) (m_is_a_brigade) := by
  have bl_all : mg "all" = none := B.free 41 rfl
  have bl_len : mg "len" = none := B.free 46 rfl
  exact fun cdv A outer s H E hr =>
    (rs_cons (rs_if (RP.rt (rp_or (rt_not (rt_val (RE.rw (re_call (d_is_tuple B Z) hr (by decide) rfl (takes_of rfl rfl rfl rfl) (ra_cons (rw_var 0) (ra_cons rw_int (ra_cons rw_int ra_nil))))))) (rp_or (rt_not (rt_val (RE.rw (re_call (d_are_cuts B Z) hr (by decide) rfl (takes_of rfl rfl rfl rfl) (ra_cons (RE.rw (re_ix (rw_var 0) rw_int)) ra_nil))))) (rp_or1 (rt_not (rt_val (RE.rw (re_call (d_is_tuple B Z) hr (by decide) rfl (takes_of rfl rfl rfl rfl) (ra_cons (RE.rw (re_ix (rw_var 0) rw_int)) (ra_cons rw_int (ra_cons (rw_glob rfl (g_MOST_PEOPLE_brigades B rfl)) ra_nil))))))))))) (rs_one (rs_ret (RW.re rw_bl))) rs_nil)
    (rs_one (rs_ret (re_all rfl rfl bl_all (ra_cons (RE.rw (re_lc [("speeds", 1)] rfl nd_is_a_brigade (ri_seq (RE.rw (re_ix (rw_var 0) rw_int))) bo_is_a_brigade_0 (fun s H C cl fp => (rg_name (vs := [1]) 1 nd_is_a_brigade)) (fun s H C cl fp => rts_nil) (fun s H C cl fp => (RE.rw (re_call (d_are_speeds B Z) hr (by decide) rfl takes0 (ra_cons (rw_var 1) (ra_cons (RE.rw (re_add (RE.rw (re_len rfl bl_len (ra_cons (RE.rw (re_ix (rw_var 0) rw_int)) ra_nil))) rw_int)) ra_nil))))))) ra_nil)))))
theorem d_is_a_brigade (B : BB K mg) (Z : SupB K PP) : Df PP w K mg base (GG K) 5 "is_a_brigade" 1 (F_is_a_brigade) := by
  obtain ⟨fd, F⟩ := B.def_ 29 (d := dd_is_a_brigade) rfl
  exact df_okD (["value", "speeds"] : List Str) (["value"]) F (B.glo 24 rfl) fs_is_a_brigade (fun _ _ _ _ _ _ us hl => match us, hl with | [_], _ => rfl) rfl (r_is_a_brigade B Z _)
/-! are_right_stands -/
theorem nd_are_right_stands : (["many", "value", "stand", "place", "way"] : List Str).Nodup := by decide +kernel
theorem bo_are_right_stands_0 : BlkOk (["many", "value", "stand", "place", "way"] : List Str) (sc_are_right_stands) { kind := .function, names := [(".0", .local), ("place", .local), ("way", .local)], isGenerator := false, isCoroutine := false, more := [] : PySem.Scope } [("place", 3), ("way", 4)] := ⟨rfl, by decide +kernel, by decide +kernel, by decide +kernel, by decide +kernel⟩
theorem bo_are_right_stands_1 : BlkOk (["many", "value", "stand", "place", "way"] : List Str) (sc_are_right_stands) { kind := .function, names := [(".0", .local), ("place", .local), ("way", .local), ("is_word", .globalImplicit)], isGenerator := false, isCoroutine := false, more := [] : PySem.Scope } [("place", 3), ("way", 4)] := ⟨rfl, by decide +kernel, by decide +kernel, by decide +kernel, by decide +kernel⟩
theorem bo_are_right_stands_2 : BlkOk (["many", "value", "stand", "place", "way"] : List Str) (sc_are_right_stands) { kind := .function, names := [(".0", .local), ("stand", .local), ("is_tuple", .globalImplicit)], isGenerator := false, isCoroutine := false, more := [] : PySem.Scope } [("stand", 2)] := ⟨rfl, by decide +kernel, by decide +kernel, by decide +kernel, by decide +kernel⟩
def m_are_right_stands : MS :=
    (mseq (mIf (mor (mnot (mb (mw (mcall 3 F_is_tuple (mcons (mVar 1) (mcons (mVar 0) (mcons (mVar 0) mnil))))))) (mnot (mb (mw (mN (mcons (mw (mlc [2] (misrc (mVar 1)) (mgN 2) myes (mw (mcall 3 F_is_tuple (mcons (mVar 2) (mcons (mC (.int 2)) (mcons (mC (.int 2)) mnil))))))) mnil) (allV fun bs => bs.all id)))))) (mret (me (mC (.bool false)))) mnext)
    (mseq (mIf (mnot (mb (mw (mN (mcons (mw (mlc [3, 4] (misrc (mVar 1)) (mgtup 2 (mgcons (mgN 3) (mgcons (mgN 4) mgnil))) myes (mw (mcall 2 F_is_word (mcons (mVar 4) (mcons (mw (mlst (mcons (mC (.str "ahead")) (mcons (mC (.str "back")) mnil)))) mnil)))))) mnil) (allV fun bs => bs.all id))))) (mret (me (mC (.bool false)))) mnext)
    (mret (mcall 1 F_are_any_places (mcons (mw (mN (mcons (mw (mlc [3, 4] (misrc (mVar 1)) (mgtup 2 (mgcons (mgN 3) (mgcons (mgN 4) mgnil))) myes (mVar 3))) mnil) tupV)) mnil)))))
theorem fs_are_right_stands : FnScope (["many", "value", "stand", "place", "way"] : List Str) (["many", "value"] : List Str) sc_are_right_stands := ⟨rfl, rfl, rfl, nd_are_right_stands, rfl, by decide +kernel, by decide +kernel⟩
def F_are_right_stands : Fn := trimF (runF 5 (m_are_right_stands))
theorem r_are_right_stands (B : BB K mg) (Z : SupB K PP) (f : Addr) : ∀ (cdv : Value) (A : Around) (outer : List Env) (s : Shared) (H : Hp) (E : XK), Room 4 (A.deeper (envOfC "are_right_stands" sc_are_right_stands s.heap.objs.size f cdv)) →
    RSs (cxOf (L2.CX PP w) PP w K mg base (["many", "value", "stand", "place", "way"] : List Str) "are_right_stands" sc_are_right_stands f cdv A outer s H E) (GG K) (WxE E) (defBody st_are_right_stands) (m_are_right_stands) := by
  have bl_all : mg "all" = none := B.free 41 rfl
  have bl_tuple : mg "tuple" = none := B.free 52 rfl
  exact fun cdv A outer s H E hr =>
    (rs_cons (rs_if (RP.rt (rp_or (rt_not (rt_val (RE.rw (re_call (d_is_tuple B Z) hr (by decide) rfl (takes_of rfl rfl rfl rfl) (ra_cons (rw_var 1) (ra_cons (rw_var 0) (ra_cons (rw_var 0) ra_nil))))))) (rp_or1 (rt_not (rt_val (RE.rw (re_all rfl rfl bl_all (ra_cons (RE.rw (re_lc [("stand", 2)] rfl nd_are_right_stands (ri_seq (rw_var 1)) bo_are_right_stands_2 (fun s H C cl fp => (rg_name (vs := [2]) 2 nd_are_right_stands)) (fun s H C cl fp => rts_nil) (fun s H C cl fp => (RE.rw (re_call (d_is_tuple B Z) hr (by decide) rfl takes0 (ra_cons (rw_var 2) (ra_cons rw_int (ra_cons rw_int ra_nil)))))))) ra_nil)))))))) (rs_one (rs_ret (RW.re rw_bl))) rs_nil)
    (rs_cons (rs_if (rt_not (rt_val (RE.rw (re_all rfl rfl bl_all (ra_cons (RE.rw (re_lc [("place", 3), ("way", 4)] rfl nd_are_right_stands (ri_seq (rw_var 1)) bo_are_right_stands_1 (fun s H C cl fp => (rg_tup rfl (rg_cons (rg_name (vs := [3, 4]) 3 nd_are_right_stands) (rg_cons (rg_name (vs := [3, 4]) 4 nd_are_right_stands) rg_nil)))) (fun s H C cl fp => rts_nil) (fun s H C cl fp => (RE.rw (re_call (d_is_word B Z) hr (by decide) rfl takes0 (ra_cons (rw_var 4) (ra_cons (RE.rw (re_lst (ra_cons rw_str (ra_cons rw_str ra_nil)))) ra_nil))))))) ra_nil))))) (rs_one (rs_ret (RW.re rw_bl))) rs_nil)
    (rs_one (rs_ret (re_call (d_are_any_places B Z) hr (by decide) rfl (takes_of rfl rfl rfl rfl) (ra_cons (RE.rw (re_tuple rfl bl_tuple (ra_cons (RE.rw (re_lc [("place", 3), ("way", 4)] rfl nd_are_right_stands (ri_seq (rw_var 1)) bo_are_right_stands_0 (fun s H C cl fp => (rg_tup rfl (rg_cons (rg_name (vs := [3, 4]) 3 nd_are_right_stands) (rg_cons (rg_name (vs := [3, 4]) 4 nd_are_right_stands) rg_nil)))) (fun s H C cl fp => rts_nil) (fun s H C cl fp => (rw_var 3)))) ra_nil))) ra_nil))))))
theorem d_are_right_stands (B : BB K mg) (Z : SupB K PP) : Df PP w K mg base (GG K) 5 "are_right_stands" 2 (F_are_right_stands) := by
  obtain ⟨fd, F⟩ := B.def_ 30 (d := dd_are_right_stands) rfl
  exact df_okD (["many", "value", "stand", "place", "way"] : List Str) (["many", "value"]) F (B.glo 25 rfl) fs_are_right_stands (fun _ _ _ _ _ _ us hl => match us, hl with | [_, _], _ => rfl) rfl (r_are_right_stands B Z _)
/-! are_walkers -/
theorem nd_are_walkers : (["value"] : List Str).Nodup := by decide +kernel
def m_are_walkers : MS :=
    (mseq (mIf (mor (mnot (mb (mw (mcall 3 F_is_tuple (mcons (mVar 0) (mcons (mC (.int 2)) (mcons (mC (.int 2)) mnil))))))) (mor (mnot (mb (mw (mcall 1 F_is_a_brigade (mcons (mw (m2 (mVar 0) (mC (.int 0)) ixV)) mnil))))) (mnot (mb (mw (mcall 1 F_is_a_brigade (mcons (mtup (mcons (mw (m2 (mw (m2 (mVar 0) (mC (.int 0)) ixV)) (mC (.int 0)) ixV)) (mcons (mw (m2 (mVar 0) (mC (.int 1)) ixV)) mnil))) mnil))))))) (mret (me (mC (.bool false)))) mnext)
    (mret (m2 (mw (mN (mcons (mw (m2 (mVar 0) (mC (.int 1)) ixV)) mnil) lenV)) (mw (mN (mcons (mw (m2 (mw (m2 (mVar 0) (mC (.int 0)) ixV)) (mC (.int 1)) ixV)) mnil) lenV)) (eqv false))))
theorem fs_are_walkers : FnScope (["value"] : List Str) (["value"] : List Str) sc_are_walkers := ⟨rfl, rfl, rfl, nd_are_walkers, rfl, by decide +kernel, by decide +kernel⟩
def F_are_walkers : Fn := trimF (runF 1 (m_are_walkers))
theorem r_are_walkers (B : BB K mg) (Z : SupB K PP) (f : Addr) : ∀ (cdv : Value) (A : Around) (outer : List Env) (s : Shared) (H : Hp) (E : XK), Room 5 (A.deeper (envOfC "are_walkers" sc_are_walkers s.heap.objs.size f cdv)) →
    RSs (cxOf (L2.CX PP w) PP w K mg base (["value"] : List Str) "are_walkers" sc_are_walkers f cdv A outer s H E) (GG K) (WxE E) (defBody st_are_walkers) (m_are_walkers) := by
  have bl_len : mg "len" = none := B.free 46 rfl
  exact fun cdv A outer s H E hr =>
    (rs_cons (rs_if (RP.rt (rp_or (rt_not (rt_val (RE.rw (re_call (d_is_tuple B Z) hr (by decide) rfl (takes_of rfl rfl rfl rfl) (ra_cons (rw_var 0) (ra_cons rw_int (ra_cons rw_int ra_nil))))))) (rp_or (rt_not (rt_val (RE.rw (re_call (d_is_a_brigade B Z) hr (by decide) rfl (takes_of rfl rfl rfl rfl) (ra_cons (RE.rw (re_ix (rw_var 0) rw_int)) ra_nil))))) (rp_or1 (rt_not (rt_val (RE.rw (re_call (d_is_a_brigade B Z) hr (by decide) rfl (takes_of rfl rfl rfl rfl) (ra_cons (rw_tup (ra_cons (RE.rw (re_ix (RE.rw (re_ix (rw_var 0) rw_int)) rw_int)) (ra_cons (RE.rw (re_ix (rw_var 0) rw_int)) ra_nil))) ra_nil))))))))) (rs_one (rs_ret (RW.re rw_bl))) rs_nil)
    (rs_one (rs_ret (re_c (cm_eq hr) (RE.rw (re_len rfl bl_len (ra_cons (RE.rw (re_ix (rw_var 0) rw_int)) ra_nil))) (RE.rw (re_len rfl bl_len (ra_cons (RE.rw (re_ix (RE.rw (re_ix (rw_var 0) rw_int)) rw_int)) ra_nil)))))))
theorem d_are_walkers (B : BB K mg) (Z : SupB K PP) : Df PP w K mg base (GG K) 6 "are_walkers" 1 (F_are_walkers) := by
  obtain ⟨fd, F⟩ := B.def_ 31 (d := dd_are_walkers) rfl
  exact df_okD (["value"] : List Str) (["value"]) F (B.glo 26 rfl) fs_are_walkers (fun _ _ _ _ _ _ us hl => match us, hl with | [_], _ => rfl) rfl (r_are_walkers B Z _)
theorem dk_are_walkers_p0 (B : BB K mg) (Z : SupB K PP) : DfK PP w K mg base (GG K) 6 "are_walkers" ["value"] 1 @p0 (F_are_walkers) := by
  obtain ⟨fd, F⟩ := B.def_ 31 (d := dd_are_walkers) rfl
  exact df_okK (["value"] : List Str) (["value"]) _ @p0 F (B.glo 26 rfl) fs_are_walkers (fun _ _ _ _ _ _ ws hl => match ws, hl with | [_], _ => rfl) gv_p0 rfl (r_are_walkers B Z _)
/-! anew -/
theorem nd_anew : (["value", "part"] : List Str).Nodup := by decide +kernel
theorem bo_anew_0 : BlkOk (["value", "part"] : List Str) (sc_anew) { kind := .function, names := [(".0", .local), ("part", .local), ("anew", .globalImplicit)], isGenerator := false, isCoroutine := false, more := [] : PySem.Scope } [("part", 1)] := ⟨rfl, by decide +kernel, by decide +kernel, by decide +kernel, by decide +kernel⟩
theorem bo_anew_1 : BlkOk (["value", "part"] : List Str) (sc_anew) { kind := .function, names := [(".0", .local), ("part", .local), ("anew", .globalImplicit)], isGenerator := false, isCoroutine := false, more := [] : PySem.Scope } [("part", 1)] := ⟨rfl, by decide +kernel, by decide +kernel, by decide +kernel, by decide +kernel⟩
def m_anew (F_rec : Fn) : MS :=
    (mseq (mIf (mb (misi "list" (mVar 0))) (mret (mlc [1] (misrc (mVar 0)) (mgN 1) myes (mw (mcall 1 F_rec (mcons (mVar 1) mnil))))) mnext)
    (mseq (mIf (mb (misi "tuple" (mVar 0))) (mret (mN (mcons (mw (mlc [1] (misrc (mVar 0)) (mgN 1) myes (mw (mcall 1 F_rec (mcons (mVar 1) mnil))))) mnil) tupV)) mnext)
    (mret (me (mVar 0)))))
theorem fs_anew : FnScope (["value", "part"] : List Str) (["value"] : List Str) sc_anew := ⟨rfl, rfl, rfl, nd_anew, rfl, by decide +kernel, by decide +kernel⟩
def F_anew : Nat → Fn
  | 0 => fun _ _ => .fail
  | n + 1 => trimF (runF 2 (m_anew (F_anew n)))
theorem r_anew (B : BB K mg) (Z : SupB K PP) {n : Nat} {F_rec : Fn} (drec : Df PP w K mg base (GG K) (n + 1) "anew" 1 F_rec) (f : Addr) : ∀ (cdv : Value) (A : Around) (outer : List Env) (s : Shared) (H : Hp) (E : XK), Room (n + 1) (A.deeper (envOfC "anew" sc_anew s.heap.objs.size f cdv)) →
    RSs (cxOf (L2.CX PP w) PP w K mg base (["value", "part"] : List Str) "anew" sc_anew f cdv A outer s H E) (GG K) (WxE E) (defBody st_anew) (m_anew F_rec) := by
  have bl_isinstance : mg "isinstance" = none := B.free 45 rfl
  have bl_list : mg "list" = none := B.free 47 rfl
  have bl_tuple : mg "tuple" = none := B.free 52 rfl
  exact fun cdv A outer s H E hr =>
    (rs_cons (rs_if (rt_val (rw_isi (by decide) PyProof.Rows.boot_list rfl bl_isinstance rfl bl_list (rw_var 0))) (rs_one (rs_ret (re_lc [("part", 1)] rfl nd_anew (ri_seq (rw_var 0)) bo_anew_1 (fun s H C cl fp => (rg_name (vs := [1]) 1 nd_anew)) (fun s H C cl fp => rts_nil) (fun s H C cl fp => (RE.rw (re_call drec hr (Nat.le_refl _) rfl takes0 (ra_cons (rw_var 1) ra_nil))))))) rs_nil)
    (rs_cons (rs_if (rt_val (rw_isi (by decide) PyProof.Rows.boot_tuple rfl bl_isinstance rfl bl_tuple (rw_var 0))) (rs_one (rs_ret (re_tuple rfl bl_tuple (ra_cons (RE.rw (re_lc [("part", 1)] rfl nd_anew (ri_seq (rw_var 0)) bo_anew_0 (fun s H C cl fp => (rg_name (vs := [1]) 1 nd_anew)) (fun s H C cl fp => rts_nil) (fun s H C cl fp => (RE.rw (re_call drec hr (Nat.le_refl _) rfl takes0 (ra_cons (rw_var 1) ra_nil)))))) ra_nil)))) rs_nil)
    (rs_one (rs_ret (RW.re (rw_var 0))))))
theorem d_anew (B : BB K mg) (Z : SupB K PP) : ∀ n, Df PP w K mg base (GG K) (n + 1) "anew" 1 (F_anew n)
  | 0 => by
    obtain ⟨fd, F⟩ := B.def_ 32 (d := dd_anew) rfl
    exact ⟨_, fd, ["value"], B.glo 27 rfl, F.kp, F.bindsN (fun _ _ _ _ _ _ us hl => match us, hl with | [_], _ => rfl), rfl, ⟨fun vs H Q E h => h.1, fun A outer s H args us vs Q E hr he hb hv hs => by obtain ⟨_, _, _, _, _, _, _, z⟩ := hs; exact z.elim⟩⟩
  | n + 1 => by
    obtain ⟨fd, F⟩ := B.def_ 32 (d := dd_anew) rfl
    exact df_okD (["value", "part"] : List Str) (["value"]) F (B.glo 27 rfl) fs_anew (fun _ _ _ _ _ _ us hl => match us, hl with | [_], _ => rfl) rfl (r_anew B Z (d_anew B Z n) _)
/-! need_time -/
theorem nd_need_time : (["time"] : List Str).Nodup := by decide +kernel
def m_need_time : MS :=
    (mIf (mor (mnot (mb (mw (mcall 1 F_is_fraction (mcons (mVar 0) mnil))))) (mb (mw (mcall 2 F_is_below (mcons (mVar 0) (mcons (mC k_ZERO) mnil)))))) (mraise 2 (mcons (mw (mcall 1 (F_anew 8) (mcons (mVar 0) mnil))) mnil)) mnext)
theorem fs_need_time : FnScope (["time"] : List Str) (["time"] : List Str) sc_need_time := ⟨rfl, rfl, rfl, nd_need_time, rfl, by decide +kernel, by decide +kernel⟩
def F_need_time : Fn := trimF (runF 1 (m_need_time))
theorem r_need_time (B : BB K mg) (Z : SupB K PP) (f : Addr) : ∀ (cdv : Value) (A : Around) (outer : List Env) (s : Shared) (H : Hp) (E : XK), Room 9 (A.deeper (envOfC "need_time" sc_need_time s.heap.objs.size f cdv)) →
    RSs (cxOf (L2.CX PP w) PP w K mg base (["time"] : List Str) "need_time" sc_need_time f cdv A outer s H E) (GG K) (WxE E) (defBody st_need_time) (m_need_time) := by
  exact fun cdv A outer s H E hr =>
    (rs_one (rs_if (RP.rt (rp_or (rt_not (rt_val (RE.rw (re_call (d_is_fraction B Z) hr (by decide) rfl (takes_of rfl rfl rfl rfl) (ra_cons (rw_var 0) ra_nil))))) (rp_or1 (rt_val (RE.rw (re_call (d_is_below B Z) hr (by decide) rfl (takes_of rfl rfl rfl rfl) (ra_cons (rw_var 0) (ra_cons (rw_glob rfl (g_ZERO B rfl)) ra_nil)))))))) (rs_one (rs_raise (rz_InvalidTime B Z rfl rfl rfl) hr rfl (takes_of rfl rfl rfl rfl) rfl (ra_cons (RE.rw (re_call (d_anew B Z 8) hr (by decide) rfl (takes_of rfl rfl rfl rfl) (ra_cons (rw_var 0) ra_nil))) ra_nil))) rs_nil))
theorem d_need_time (B : BB K mg) (Z : SupB K PP) : Df PP w K mg base (GG K) 10 "need_time" 1 (F_need_time) := by
  obtain ⟨fd, F⟩ := B.def_ 33 (d := dd_need_time) rfl
  exact df_okD (["time"] : List Str) (["time"]) F (B.glo 28 rfl) fs_need_time (fun _ _ _ _ _ _ us hl => match us, hl with | [_], _ => rfl) rfl (r_need_time B Z _)
/-! need_walkers -/
theorem nd_need_walkers : (["walkers"] : List Str).Nodup := by decide +kernel
def m_need_walkers : MS :=
    (mIf (mnot (mb (mw (mcall 1 F_are_walkers (mcons (mVar 0) mnil))))) (mraise 3 (mcons (mw (mcall 1 (F_anew 8) (mcons (mVar 0) mnil))) mnil)) mnext)
theorem fs_need_walkers : FnScope (["walkers"] : List Str) (["walkers"] : List Str) sc_need_walkers := ⟨rfl, rfl, rfl, nd_need_walkers, rfl, by decide +kernel, by decide +kernel⟩
def F_need_walkers : Fn := trimF (runF 1 (m_need_walkers))
theorem r_need_walkers (B : BB K mg) (Z : SupB K PP) (f : Addr) : ∀ (cdv : Value) (A : Around) (outer : List Env) (s : Shared) (H : Hp) (E : XK), Room 9 (A.deeper (envOfC "need_walkers" sc_need_walkers s.heap.objs.size f cdv)) →
    RSs (cxOf (L2.CX PP w) PP w K mg base (["walkers"] : List Str) "need_walkers" sc_need_walkers f cdv A outer s H E) (GG K) (WxE E) (defBody st_need_walkers) (m_need_walkers) := by
  exact fun cdv A outer s H E hr =>
    (rs_one (rs_if (rt_not (rt_val (RE.rw (re_call (d_are_walkers B Z) hr (by decide) rfl (takes_of rfl rfl rfl rfl) (ra_cons (rw_var 0) ra_nil))))) (rs_one (rs_raise (rz_InvalidWalkers B Z rfl rfl rfl) hr rfl (takes_of rfl rfl rfl rfl) rfl (ra_cons (RE.rw (re_call (d_anew B Z 8) hr (by decide) rfl (takes_of rfl rfl rfl rfl) (ra_cons (rw_var 0) ra_nil))) ra_nil))) rs_nil))
theorem d_need_walkers (B : BB K mg) (Z : SupB K PP) : Df PP w K mg base (GG K) 10 "need_walkers" 1 (F_need_walkers) := by
  obtain ⟨fd, F⟩ := B.def_ 34 (d := dd_need_walkers) rfl
  exact df_okD (["walkers"] : List Str) (["walkers"]) F (B.glo 29 rfl) fs_need_walkers (fun _ _ _ _ _ _ us hl => match us, hl with | [_], _ => rfl) rfl (r_need_walkers B Z _)
/-! are_stands -/
theorem nd_are_stands : (["walkers", "value"] : List Str).Nodup := by decide +kernel
def m_are_stands : MS :=
    (mseq (mexpr (mcall 1 F_need_walkers (mcons (mVar 0) mnil)))
    (mret (mcall 2 F_are_right_stands (mcons (mw (mN (mcons (mw (m2 (mVar 0) (mC (.int 1)) ixV)) mnil) lenV)) (mcons (mVar 1) mnil)))))
theorem fs_are_stands : FnScope (["walkers", "value"] : List Str) (["walkers", "value"] : List Str) sc_are_stands := ⟨rfl, rfl, rfl, nd_are_stands, rfl, by decide +kernel, by decide +kernel⟩
def F_are_stands : Fn := trimF (runF 2 (m_are_stands))
theorem r_are_stands (B : BB K mg) (Z : SupB K PP) (f : Addr) : ∀ (cdv : Value) (A : Around) (outer : List Env) (s : Shared) (H : Hp) (E : XK), Room 10 (A.deeper (envOfC "are_stands" sc_are_stands s.heap.objs.size f cdv)) →
    RSs (cxOf (L2.CX PP w) PP w K mg base (["walkers", "value"] : List Str) "are_stands" sc_are_stands f cdv A outer s H E) (GG K) (WxE E) (defBody st_are_stands) (m_are_stands) := by
  have bl_len : mg "len" = none := B.free 46 rfl
  exact fun cdv A outer s H E hr =>
    (rs_cons (rs_expr (re_call (d_need_walkers B Z) hr (by decide) rfl (takes_of rfl rfl rfl rfl) (ra_cons (rw_var 0) ra_nil)))
    (rs_one (rs_ret (re_call (d_are_right_stands B Z) hr (by decide) rfl (takes_of rfl rfl rfl rfl) (ra_cons (RE.rw (re_len rfl bl_len (ra_cons (RE.rw (re_ix (rw_var 0) rw_int)) ra_nil))) (ra_cons (rw_var 1) ra_nil))))))
theorem d_are_stands (B : BB K mg) (Z : SupB K PP) : Df PP w K mg base (GG K) 11 "are_stands" 2 (F_are_stands) := by
  obtain ⟨fd, F⟩ := B.def_ 35 (d := dd_are_stands) rfl
  exact df_okD (["walkers", "value"] : List Str) (["walkers", "value"]) F (B.glo 30 rfl) fs_are_stands (fun _ _ _ _ _ _ us hl => match us, hl with | [_, _], _ => rfl) rfl (r_are_stands B Z _)
theorem dk_are_stands_p10 (B : BB K mg) (Z : SupB K PP) : DfK PP w K mg base (GG K) 11 "are_stands" ["value", "walkers"] 2 @p10 (F_are_stands) := by
  obtain ⟨fd, F⟩ := B.def_ 35 (d := dd_are_stands) rfl
  exact df_okK (["walkers", "value"] : List Str) (["walkers", "value"]) _ @p10 F (B.glo 30 rfl) fs_are_stands (fun _ _ _ _ _ _ ws hl => match ws, hl with | [_, _], _ => rfl) gv_p10 rfl (r_are_stands B Z _)
/-! need_stands -/
theorem nd_need_stands : (["walkers", "stands"] : List Str).Nodup := by decide +kernel
def m_need_stands : MS :=
    (mseq (mexpr (mcall 1 F_need_walkers (mcons (mVar 0) mnil)))
    (mIf (mnot (mb (mw (mcall 2 F_are_right_stands (mcons (mw (mN (mcons (mw (m2 (mVar 0) (mC (.int 1)) ixV)) mnil) lenV)) (mcons (mVar 1) mnil)))))) (mraise 4 (mcons (mw (mcall 1 (F_anew 8) (mcons (mVar 1) mnil))) mnil)) mnext))
theorem fs_need_stands : FnScope (["walkers", "stands"] : List Str) (["walkers", "stands"] : List Str) sc_need_stands := ⟨rfl, rfl, rfl, nd_need_stands, rfl, by decide +kernel, by decide +kernel⟩
def F_need_stands : Fn := trimF (runF 2 (m_need_stands))
theorem r_need_stands (B : BB K mg) (Z : SupB K PP) (f : Addr) : ∀ (cdv : Value) (A : Around) (outer : List Env) (s : Shared) (H : Hp) (E : XK), Room 10 (A.deeper (envOfC "need_stands" sc_need_stands s.heap.objs.size f cdv)) →
    RSs (cxOf (L2.CX PP w) PP w K mg base (["walkers", "stands"] : List Str) "need_stands" sc_need_stands f cdv A outer s H E) (GG K) (WxE E) (defBody st_need_stands) (m_need_stands) := by
  have bl_len : mg "len" = none := B.free 46 rfl
  exact fun cdv A outer s H E hr =>
    (rs_cons (rs_expr (re_call (d_need_walkers B Z) hr (by decide) rfl (takes_of rfl rfl rfl rfl) (ra_cons (rw_var 0) ra_nil)))
    (rs_one (rs_if (rt_not (rt_val (RE.rw (re_call (d_are_right_stands B Z) hr (by decide) rfl (takes_of rfl rfl rfl rfl) (ra_cons (RE.rw (re_len rfl bl_len (ra_cons (RE.rw (re_ix (rw_var 0) rw_int)) ra_nil))) (ra_cons (rw_var 1) ra_nil)))))) (rs_one (rs_raise (rz_InvalidStands B Z rfl rfl rfl) hr rfl (takes_of rfl rfl rfl rfl) rfl (ra_cons (RE.rw (re_call (d_anew B Z 8) hr (by decide) rfl (takes_of rfl rfl rfl rfl) (ra_cons (rw_var 1) ra_nil))) ra_nil))) rs_nil)))
theorem d_need_stands (B : BB K mg) (Z : SupB K PP) : Df PP w K mg base (GG K) 11 "need_stands" 2 (F_need_stands) := by
  obtain ⟨fd, F⟩ := B.def_ 36 (d := dd_need_stands) rfl
  exact df_okD (["walkers", "stands"] : List Str) (["walkers", "stands"]) F (B.glo 31 rfl) fs_need_stands (fun _ _ _ _ _ _ us hl => match us, hl with | [_, _], _ => rfl) rfl (r_need_stands B Z _)
/-! joined -/
theorem nd_joined : (["walkers"] : List Str).Nodup := by decide +kernel
def m_joined : MS :=
    (mseq (mexpr (mcall 1 F_need_walkers (mcons (mVar 0) mnil)))
    mskip)
theorem fs_joined : FnScope (["walkers"] : List Str) (["walkers"] : List Str) sc_joined := ⟨rfl, rfl, rfl, nd_joined, rfl, by decide +kernel, by decide +kernel⟩
def F_joined : Fn := trimF (runF 1 (m_joined))
theorem r_joined (B : BB K mg) (Z : SupB K PP) (f : Addr) : ∀ (cdv : Value) (A : Around) (outer : List Env) (s : Shared) (H : Hp) (E : XK), Room 10 (A.deeper (envOfC "joined" sc_joined s.heap.objs.size f cdv)) →
    RSs (cxOf (L2.CX PP w) PP w K mg base (["walkers"] : List Str) "joined" sc_joined f cdv A outer s H E) (GG K) (WxE E) (defBody st_joined) (m_joined) := by
  exact fun cdv A outer s H E hr =>
    (rs_cons (rs_expr (re_call (d_need_walkers B Z) hr (by decide) rfl (takes_of rfl rfl rfl rfl) (ra_cons (rw_var 0) ra_nil)))
    (rs_one rs_skip))
theorem d_joined (B : BB K mg) (Z : SupB K PP) : Df PP w K mg base (GG K) 11 "joined" 1 (F_joined) := by
  obtain ⟨fd, F⟩ := B.def_ 37 (d := dd_joined) rfl
  exact df_okD (["walkers"] : List Str) (["walkers"]) F (B.glo 32 rfl) fs_joined (fun _ _ _ _ _ _ us hl => match us, hl with | [_], _ => rfl) rfl (r_joined B Z _)
/-! round_of_all -/
theorem nd_round_of_all : (["walkers", "time", "meetings", "ends", "found", "gone", "index", "zone", "back"] : List Str).Nodup := by decide +kernel
def m_round_of_all : MS :=
    (mseq (mexpr (mcall 1 F_need_walkers (mcons (mVar 0) mnil)))
    (mseq mskip
    (mseq (mpar3 3 4 5 (mcons (mw (m2 (mw (m2 (mw (mlst (mcons (mC k_ZERO) mnil))) (mw (mN (mcons (mVar 2) mnil) listV)) addV)) (mw (mlst (mcons (mC k_ONE) mnil))) addV)) (mcons (mw (mlst mnil)) (mcons (mC k_ZERO) mnil))))
    (mseq mskip
    (mret (me (mtup (mcons (mVar 1) (mcons (mVar 2) (mcons (mw (mN (mcons (mVar 4) mnil) tupV)) mnil))))))))))
theorem fs_round_of_all : FnScope (["walkers", "time", "meetings", "ends", "found", "gone", "index", "zone", "back"] : List Str) (["walkers"] : List Str) sc_round_of_all := ⟨rfl, rfl, rfl, nd_round_of_all, rfl, by decide +kernel, by decide +kernel⟩
def F_round_of_all : Fn := trimF (runF 9 (m_round_of_all))
theorem r_round_of_all (B : BB K mg) (Z : SupB K PP) (f : Addr) : ∀ (cdv : Value) (A : Around) (outer : List Env) (s : Shared) (H : Hp) (E : XK), Room 10 (A.deeper (envOfC "round_of_all" sc_round_of_all s.heap.objs.size f cdv)) →
    RSs (cxOf (L2.CX PP w) PP w K mg base (["walkers", "time", "meetings", "ends", "found", "gone", "index", "zone", "back"] : List Str) "round_of_all" sc_round_of_all f cdv A outer s H E) (GG K) (WxE E) (defBody st_round_of_all) (m_round_of_all) := by
  have bl_len : mg "len" = none := B.free 46 rfl
  have bl_list : mg "list" = none := B.free 47 rfl
  have bl_tuple : mg "tuple" = none := B.free 52 rfl
  exact fun cdv A outer s H E hr =>
    (rs_cons (rs_expr (re_call (d_need_walkers B Z) hr (by decide) rfl (takes_of rfl rfl rfl rfl) (ra_cons (rw_var 0) ra_nil)))
    (rs_cons rs_skip
    (rs_cons (rs_par3 3 4 5 rfl nd_round_of_all (ra_cons (RE.rw (re_add (RE.rw (re_add (RE.rw (re_lst (ra_cons (rw_glob rfl (g_ZERO B rfl)) ra_nil))) (RE.rw (re_list rfl bl_list (ra_cons (rw_var 2) ra_nil))))) (RE.rw (re_lst (ra_cons (rw_glob rfl (g_ONE B rfl)) ra_nil))))) (ra_cons (RE.rw (re_lst ra_nil)) (ra_cons (rw_glob rfl (g_ZERO B rfl)) ra_nil))))
    (rs_cons rs_skip
    (rs_one (rs_ret (RW.re (rw_tup (ra_cons (rw_var 1) (ra_cons (rw_var 2) (ra_cons (RE.rw (re_tuple rfl bl_tuple (ra_cons (rw_var 4) ra_nil))) ra_nil)))))))))))
theorem d_round_of_all (B : BB K mg) (Z : SupB K PP) : Df PP w K mg base (GG K) 11 "round_of_all" 1 (F_round_of_all) := by
  obtain ⟨fd, F⟩ := B.def_ 38 (d := dd_round_of_all) rfl
  exact df_okD (["walkers", "time", "meetings", "ends", "found", "gone", "index", "zone", "back"] : List Str) (["walkers"]) F (B.glo 33 rfl) fs_round_of_all (fun _ _ _ _ _ _ us hl => match us, hl with | [_], _ => rfl) rfl (r_round_of_all B Z _)
theorem dk_round_of_all_p0 (B : BB K mg) (Z : SupB K PP) : DfK PP w K mg base (GG K) 11 "round_of_all" ["walkers"] 1 @p0 (F_round_of_all) := by
  obtain ⟨fd, F⟩ := B.def_ 38 (d := dd_round_of_all) rfl
  exact df_okK (["walkers", "time", "meetings", "ends", "found", "gone", "index", "zone", "back"] : List Str) (["walkers"]) _ @p0 F (B.glo 33 rfl) fs_round_of_all (fun _ _ _ _ _ _ ws hl => match ws, hl with | [_], _ => rfl) gv_p0 rfl (r_round_of_all B Z _)
/-! at_once -/
theorem nd_at_once : (["walkers", "stands", "crew"] : List Str).Nodup := by decide +kernel
def m_at_once (fuel : Nat) : MS :=
    (mseq (mexpr (mcall 2 F_need_stands (mcons (mVar 0) (mcons (mVar 1) mnil))))
    (mseq (mset 2 (mw (mmake 6 3 (F_Crew___init__ fuel) (mcons (mVar 0) (mcons (mVar 1) mnil)))))
    (mret (me (mtup (mcons (mfld [6] "out" (mVar 2)) (mcons (mw (mmeth 6 "stands" 1 F_Crew_stands (mVar 2) mnil)) mnil)))))))
theorem fs_at_once : FnScope (["walkers", "stands", "crew"] : List Str) (["walkers", "stands"] : List Str) sc_at_once := ⟨rfl, rfl, rfl, nd_at_once, rfl, by decide +kernel, by decide +kernel⟩
def F_at_once (fuel : Nat) : Fn := trimF (runF 3 (m_at_once fuel))
theorem r_at_once (B : BB K mg) (Z : SupB K PP) (fuel : Nat) (f : Addr) : ∀ (cdv : Value) (A : Around) (outer : List Env) (s : Shared) (H : Hp) (E : XK), Room 11 (A.deeper (envOfC "at_once" sc_at_once s.heap.objs.size f cdv)) →
    RSs (cxOf (L2.CX PP w) PP w K mg base (["walkers", "stands", "crew"] : List Str) "at_once" sc_at_once f cdv A outer s H E) (GG K) (WxE E) (defBody st_at_once) (m_at_once fuel) := by
  exact fun cdv A outer s H E hr =>
    (rs_cons (rs_expr (re_call (d_need_stands B Z) hr (by decide) rfl (takes_of rfl rfl rfl rfl) (ra_cons (rw_var 0) (ra_cons (rw_var 1) ra_nil))))
    (rs_cons (rs_set 2 nd_at_once (RE.rw (re_make (d_Crew___init__ B Z fuel) hr (by decide) (takes_of rfl rfl rfl rfl) rfl (ra_cons (rw_var 0) (ra_cons (rw_var 1) ra_nil)))))
    (rs_one (rs_ret (RW.re (rw_tup (ra_cons (rw_fld [6] "out" (cf_out B rfl) (rw_var 2)) (ra_cons (RE.rw (re_meth0 (d_Crew_stands B Z) hr (by decide) (takes_of rfl rfl rfl rfl) (rw_var 2))) ra_nil))))))))
theorem d_at_once (B : BB K mg) (Z : SupB K PP) (fuel : Nat) : Df PP w K mg base (GG K) 12 "at_once" 2 (F_at_once fuel) := by
  obtain ⟨fd, F⟩ := B.def_ 39 (d := dd_at_once) rfl
  exact df_okD (["walkers", "stands", "crew"] : List Str) (["walkers", "stands"]) F (B.glo 34 rfl) fs_at_once (fun _ _ _ _ _ _ us hl => match us, hl with | [_, _], _ => rfl) rfl (r_at_once B Z fuel _)
theorem dk_at_once_p10 (B : BB K mg) (Z : SupB K PP) (fuel : Nat) : DfK PP w K mg base (GG K) 12 "at_once" ["stands", "walkers"] 2 @p10 (F_at_once fuel) := by
  obtain ⟨fd, F⟩ := B.def_ 39 (d := dd_at_once) rfl
  exact df_okK (["walkers", "stands", "crew"] : List Str) (["walkers", "stands"]) _ @p10 F (B.glo 34 rfl) fs_at_once (fun _ _ _ _ _ _ ws hl => match ws, hl with | [_, _], _ => rfl) gv_p10 rfl (r_at_once B Z fuel _)
/-! stands_at -/
theorem nd_stands_at : (["walkers", "stands", "time", "crew", "left"] : List Str).Nodup := by decide +kernel
def m_stands_at (fuel : Nat) : MS :=
    (mseq (mexpr (mcall 2 F_need_stands (mcons (mVar 0) (mcons (mVar 1) mnil))))
    (mseq (mexpr (mcall 1 F_need_time (mcons (mVar 2) mnil)))
    (mseq (mpar 3 4 (mcons (mw (mmake 6 3 (F_Crew___init__ fuel) (mcons (mVar 0) (mcons (mVar 1) mnil)))) (mcons (mVar 2) mnil)))
    (mseq (wloop (mb (mw (m2 (mVar 4) (mC k_ZERO) (eqv true)))) mskip fuel)
    (mret (me (mtup (mcons (mfld [6] "out" (mVar 3)) (mcons (mw (mmeth 6 "stands" 1 F_Crew_stands (mVar 3) mnil)) mnil)))))))))
theorem fs_stands_at : FnScope (["walkers", "stands", "time", "crew", "left"] : List Str) (["walkers", "stands", "time"] : List Str) sc_stands_at := ⟨rfl, rfl, rfl, nd_stands_at, rfl, by decide +kernel, by decide +kernel⟩
def F_stands_at (fuel : Nat) : Fn := trimF (runF 5 (m_stands_at fuel))
theorem r_stands_at (B : BB K mg) (Z : SupB K PP) (fuel : Nat) (f : Addr) : ∀ (cdv : Value) (A : Around) (outer : List Env) (s : Shared) (H : Hp) (E : XK), Room 11 (A.deeper (envOfC "stands_at" sc_stands_at s.heap.objs.size f cdv)) →
    RSs (cxOf (L2.CX PP w) PP w K mg base (["walkers", "stands", "time", "crew", "left"] : List Str) "stands_at" sc_stands_at f cdv A outer s H E) (GG K) (WxE E) (defBody st_stands_at) (m_stands_at fuel) := by
  exact fun cdv A outer s H E hr =>
    (rs_cons (rs_expr (re_call (d_need_stands B Z) hr (by decide) rfl (takes_of rfl rfl rfl rfl) (ra_cons (rw_var 0) (ra_cons (rw_var 1) ra_nil))))
    (rs_cons (rs_expr (re_call (d_need_time B Z) hr (by decide) rfl (takes_of rfl rfl rfl rfl) (ra_cons (rw_var 2) ra_nil)))
    (rs_cons (rs_par 3 4 rfl nd_stands_at (ra_cons (RE.rw (re_make (d_Crew___init__ B Z fuel) hr (by decide) (takes_of rfl rfl rfl rfl) rfl (ra_cons (rw_var 0) (ra_cons (rw_var 1) ra_nil)))) (ra_cons (rw_var 2) ra_nil)))
    (rs_cons (rs_while fuel (passes_of rfl) (rt_c (cm_ne hr) (rw_var 4) (rw_glob rfl (g_ZERO B rfl))) (rs_one rs_skip))
    (rs_one (rs_ret (RW.re (rw_tup (ra_cons (rw_fld [6] "out" (cf_out B rfl) (rw_var 3)) (ra_cons (RE.rw (re_meth0 (d_Crew_stands B Z) hr (by decide) (takes_of rfl rfl rfl rfl) (rw_var 3))) ra_nil))))))))))
theorem d_stands_at (B : BB K mg) (Z : SupB K PP) (fuel : Nat) : Df PP w K mg base (GG K) 12 "stands_at" 3 (F_stands_at fuel) := by
  obtain ⟨fd, F⟩ := B.def_ 40 (d := dd_stands_at) rfl
  exact df_okD (["walkers", "stands", "time", "crew", "left"] : List Str) (["walkers", "stands", "time"]) F (B.glo 35 rfl) fs_stands_at (fun _ _ _ _ _ _ us hl => match us, hl with | [_, _, _], _ => rfl) rfl (r_stands_at B Z fuel _)
theorem dk_stands_at_p210 (B : BB K mg) (Z : SupB K PP) (fuel : Nat) : DfK PP w K mg base (GG K) 12 "stands_at" ["time", "stands", "walkers"] 3 @p210 (F_stands_at fuel) := by
  obtain ⟨fd, F⟩ := B.def_ 40 (d := dd_stands_at) rfl
  exact df_okK (["walkers", "stands", "time", "crew", "left"] : List Str) (["walkers", "stands", "time"]) _ @p210 F (B.glo 35 rfl) fs_stands_at (fun _ _ _ _ _ _ ws hl => match ws, hl with | [_, _, _], _ => rfl) gv_p210 rfl (r_stands_at B Z fuel _)
/-! outs_of -/
theorem nd_outs_of : (["walkers", "stands", "many", "crew", "found"] : List Str).Nodup := by decide +kernel
def m_outs_of (fuel : Nat) : MS :=
    (mseq (mexpr (mcall 2 F_need_stands (mcons (mVar 0) (mcons (mVar 1) mnil))))
    (mseq (mexpr (mcall 3 F_need_number (mcons (mVar 2) (mcons (mC (.int 0)) (mcons (mC k_MOST_OUT) mnil)))))
    (mseq (mset 3 (mw (mmake 6 3 (F_Crew___init__ fuel) (mcons (mVar 0) (mcons (mVar 1) mnil)))))
    (mseq mskip
    (mseq (wloop (mb (mw (m2 (mw (mN (mcons (mVar 4) mnil) lenV)) (mVar 2) ilt))) (mseq mskip
    mskip) fuel)
    (mret (mslice (mVar 4) moN (moS (mVar 2)))))))))
theorem fs_outs_of : FnScope (["walkers", "stands", "many", "crew", "found"] : List Str) (["walkers", "stands", "many"] : List Str) sc_outs_of := ⟨rfl, rfl, rfl, nd_outs_of, rfl, by decide +kernel, by decide +kernel⟩
def F_outs_of (fuel : Nat) : Fn := trimF (runF 5 (m_outs_of fuel))
theorem r_outs_of (B : BB K mg) (Z : SupB K PP) (fuel : Nat) (f : Addr) : ∀ (cdv : Value) (A : Around) (outer : List Env) (s : Shared) (H : Hp) (E : XK), Room 11 (A.deeper (envOfC "outs_of" sc_outs_of s.heap.objs.size f cdv)) →
    RSs (cxOf (L2.CX PP w) PP w K mg base (["walkers", "stands", "many", "crew", "found"] : List Str) "outs_of" sc_outs_of f cdv A outer s H E) (GG K) (WxE E) (defBody st_outs_of) (m_outs_of fuel) := by
  have bl_len : mg "len" = none := B.free 46 rfl
  exact fun cdv A outer s H E hr =>
    (rs_cons (rs_expr (re_call (d_need_stands B Z) hr (by decide) rfl (takes_of rfl rfl rfl rfl) (ra_cons (rw_var 0) (ra_cons (rw_var 1) ra_nil))))
    (rs_cons (rs_expr (re_call (d_need_number B Z) hr (by decide) rfl (takes_of rfl rfl rfl rfl) (ra_cons (rw_var 2) (ra_cons rw_int (ra_cons (rw_glob rfl (g_MOST_OUT B rfl)) ra_nil)))))
    (rs_cons (rs_set 3 nd_outs_of (RE.rw (re_make (d_Crew___init__ B Z fuel) hr (by decide) (takes_of rfl rfl rfl rfl) rfl (ra_cons (rw_var 0) (ra_cons (rw_var 1) ra_nil)))))
    (rs_cons rs_skip
    (rs_cons (rs_while fuel (passes_of rfl) (rt_c cm_lt (RE.rw (re_len rfl bl_len (ra_cons (rw_var 4) ra_nil))) (rw_var 2)) (rs_cons rs_skip
    (rs_one rs_skip)))
    (rs_one (rs_ret (re_slice (rw_var 4) ro_none (ro_some (rw_var 2))))))))))
theorem d_outs_of (B : BB K mg) (Z : SupB K PP) (fuel : Nat) : Df PP w K mg base (GG K) 12 "outs_of" 3 (F_outs_of fuel) := by
  obtain ⟨fd, F⟩ := B.def_ 41 (d := dd_outs_of) rfl
  exact df_okD (["walkers", "stands", "many", "crew", "found"] : List Str) (["walkers", "stands", "many"]) F (B.glo 36 rfl) fs_outs_of (fun _ _ _ _ _ _ us hl => match us, hl with | [_, _, _], _ => rfl) rfl (r_outs_of B Z fuel _)
/-! _law_about -/
theorem nd__law_about : (["which", "walkers"] : List Str).Nodup := by decide +kernel
def m__law_about : MS :=
    (mret (mif (mb (mw (m2 (mVar 0) (mC (.int 3)) (eqv false)))) (mcall 1 F_joined (mcons (mVar 1) mnil)) (mcallK 1 p0 F_round_of_all (mcons (mVar 1) mnil))))
theorem fs__law_about : FnScope (["which", "walkers"] : List Str) (["which", "walkers"] : List Str) sc__law_about := ⟨rfl, rfl, rfl, nd__law_about, rfl, by decide +kernel, by decide +kernel⟩
def F__law_about : Fn := trimF (runF 2 (m__law_about))
theorem r__law_about (B : BB K mg) (Z : SupB K PP) (f : Addr) : ∀ (cdv : Value) (A : Around) (outer : List Env) (s : Shared) (H : Hp) (E : XK), Room 11 (A.deeper (envOfC "_law_about" sc__law_about s.heap.objs.size f cdv)) →
    RSs (cxOf (L2.CX PP w) PP w K mg base (["which", "walkers"] : List Str) "_law_about" sc__law_about f cdv A outer s H E) (GG K) (WxE E) (defBody st__law_about) (m__law_about) := by
  exact fun cdv A outer s H E hr =>
    (rs_one (rs_ret (re_ifExp (rt_c (cm_eq hr) (rw_var 0) rw_int) (re_call (d_joined B Z) hr (by decide) rfl (takes_of rfl rfl rfl rfl) (ra_cons (rw_var 1) ra_nil)) (re_callK (dk_round_of_all_p0 B Z) gp_p0 hr (by decide) rfl (takes_of rfl rfl rfl rfl) (rk_cons (rw_var 1) rk_nil)))))
theorem d__law_about (B : BB K mg) (Z : SupB K PP) : Df PP w K mg base (GG K) 12 "_law_about" 2 (F__law_about) := by
  obtain ⟨fd, F⟩ := B.def_ 42 (d := dd__law_about) rfl
  exact df_okD (["which", "walkers"] : List Str) (["which", "walkers"]) F (B.glo 37 rfl) fs__law_about (fun _ _ _ _ _ _ us hl => match us, hl with | [_, _], _ => rfl) rfl (r__law_about B Z _)
/-! _law_caught -/
theorem nd__law_caught : (["which", "walkers", "stands", "thing", "caught", "e", "kinds"] : List Str).Nodup := by decide +kernel
def m__law_caught (fuel : Nat) : MS :=
    (mseq (mset 4 (mC .none))
    (mseq (mtryK [1, 2, 3, 4] 5 4 (mIf (mb (mw (m2 (mVar 0) (mC (.int 0)) (eqv false)))) (mexpr (mcall 2 (F_at_once fuel) (mcons (mVar 1) (mcons (mVar 2) mnil)))) (mIf (mb (mw (m2 (mVar 0) (mC (.int 1)) (eqv false)))) (mexpr (mcallK 3 p210 (F_stands_at fuel) (mcons (mVar 3) (mcons (mVar 2) (mcons (mVar 1) mnil))))) (mIf (mb (mw (m2 (mVar 0) (mC (.int 2)) (eqv false)))) (mexpr (mcall 3 (F_outs_of fuel) (mcons (mVar 1) (mcons (mVar 2) (mcons (mVar 3) mnil))))) (mexpr (mcall 2 F__law_about (mcons (mVar 0) (mcons (mVar 1) mnil))))))))
    (mseq (mset 6 (mwM (mlst (mcons (misc tb_InvalidWalkers (mVar 4)) (mcons (misc tb_InvalidStands (mVar 4)) (mcons (misc tb_InvalidTime (mVar 4)) mnil))))))
    (mseq (mexpr (mmtL (mVar 6) (mcons (misc tb_InvalidNumber (mVar 4)) mnil) appendM))
    (mret (mif (mb (mw (m2 (mVar 4) (mC .none) (opIsN false)))) (me (mC .none)) (me (mtup (mcons (mw (mmtL (mVar 6) (mcons (mC (.bool true)) mnil) indexM)) (mcons (mw (mN (mcons (mexval [1, 2, 3, 4] (mVar 4)) mnil) reprV)) mnil))))))))))
theorem fs__law_caught : FnScope (["which", "walkers", "stands", "thing", "caught", "e", "kinds"] : List Str) (["which", "walkers", "stands", "thing"] : List Str) sc__law_caught := ⟨rfl, rfl, rfl, nd__law_caught, rfl, by decide +kernel, by decide +kernel⟩
def F__law_caught (fuel : Nat) : Fn := trimF (runF 7 (m__law_caught fuel))
theorem r__law_caught (B : BB K mg) (Z : SupB K PP) (fuel : Nat) (f : Addr) : ∀ (cdv : Value) (A : Around) (outer : List Env) (s : Shared) (H : Hp) (E : XK), (A.deeper (envOfC "_law_caught" sc__law_caught s.heap.objs.size f cdv)).guards = some [] → Room 12 (A.deeper (envOfC "_law_caught" sc__law_caught s.heap.objs.size f cdv)) →
    RSs (cxOf (L2.CX PP w) PP w K mg base (["which", "walkers", "stands", "thing", "caught", "e", "kinds"] : List Str) "_law_caught" sc__law_caught f cdv A outer s H E) (GG K) (WxE E) (defBody st__law_caught) (m__law_caught fuel) := by
  have bl_isinstance : mg "isinstance" = none := B.free 45 rfl
  have bl_repr : mg "repr" = none := B.free 49 rfl
  exact fun cdv A outer s H E hgd hr =>
    (rs_cons (rs_set 4 nd__law_caught rw_non)
    (rs_cons (rs_tryK [1, 2, 3, 4] 5 4 rfl rfl rfl nd__law_caught ⟨rfl, by decide, .inl (gx_BucketError B)⟩ (exm_all B rfl) (fun W pn xe tkw pow => (rs_one (rs_if (rt_c (cm_eq hr) (rw_var 0) rw_int) (rs_one (rs_expr (re_call (d_at_once B Z fuel) hr (by decide) rfl tkw (ra_cons (rw_var 1) (ra_cons (rw_var 2) ra_nil))))) (rs_one (rs_if (rt_c (cm_eq hr) (rw_var 0) rw_int) (rs_one (rs_expr (re_callK (dk_stands_at_p210 B Z fuel) gp_p210 hr (by decide) rfl tkw (rk_cons (rw_var 3) (rk_cons (rw_var 2) (rk_cons (rw_var 1) rk_nil)))))) (rs_one (rs_if (rt_c (cm_eq hr) (rw_var 0) rw_int) (rs_one (rs_expr (re_call (d_outs_of B Z fuel) hr (by decide) rfl tkw (ra_cons (rw_var 1) (ra_cons (rw_var 2) (ra_cons (rw_var 3) ra_nil)))))) (rs_one (rs_expr (re_call (d__law_about B Z) hr (by decide) rfl tkw (ra_cons (rw_var 0) (ra_cons (rw_var 1) ra_nil)))))))))))))
    (rs_cons (rs_set 6 nd__law_caught (RE.rwM (re_lst (ra_cons (rw_isc 3 tb_InvalidWalkers rfl bl_isinstance rfl (gx_InvalidWalkers B) (nn_InvalidWalkers B) (tbk_InvalidWalkers B rfl) (rw_var 4)) (ra_cons (rw_isc 4 tb_InvalidStands rfl bl_isinstance rfl (gx_InvalidStands B) (nn_InvalidStands B) (tbk_InvalidStands B rfl) (rw_var 4)) (ra_cons (rw_isc 2 tb_InvalidTime rfl bl_isinstance rfl (gx_InvalidTime B) (nn_InvalidTime B) (tbk_InvalidTime B rfl) (rw_var 4)) ra_nil))))))
    (rs_cons (rs_expr (re_append (rw_var 6) (ra_cons (rw_isc 1 tb_InvalidNumber rfl bl_isinstance rfl (gx_InvalidNumber B) (nn_InvalidNumber B) (tbk_InvalidNumber B rfl) (rw_var 4)) ra_nil)))
    (rs_one (rs_ret (re_ifExp (rt_c cm_isN (rw_var 4) rw_non) (RW.re rw_non) (RW.re (rw_tup (ra_cons (RE.rw (re_index (rw_var 6) (ra_cons rw_bl ra_nil))) (ra_cons (RE.rw (re_repr hgd hr rfl bl_repr (ra_cons (rw_exval [1, 2, 3, 4] (xc_all B rfl) (rw_var 4)) ra_nil))) ra_nil)))))))))))
theorem d__law_caught (B : BB K mg) (Z : SupB K PP) (fuel : Nat) : DfG PP w K mg base (GG K) 13 "_law_caught" 4 (F__law_caught fuel) := by
  obtain ⟨fd, F⟩ := B.def_ 43 (d := dd__law_caught) rfl
  exact df_okG (["which", "walkers", "stands", "thing", "caught", "e", "kinds"] : List Str) (["which", "walkers", "stands", "thing"]) F (B.glo 38 rfl) fs__law_caught (fun _ _ _ _ _ _ us hl => match us, hl with | [_, _, _, _], _ => rfl) rfl (r__law_caught B Z fuel _)
/-! law -/
theorem nd_law : (["script", "pool", "turn", "walkers", "many", "k", "stands", "ends", "due", "bad", "odd", "text", "which", "time", "number", "place", "way"] : List Str).Nodup := by decide +kernel
theorem bo_law_0 : BlkOk (["script", "pool", "turn", "walkers", "many", "k", "stands", "ends", "due", "bad", "odd", "text", "which", "time", "number", "place", "way"] : List Str) (sc_law) { kind := .function, names := [(".0", .local), ("place", .local), ("way", .local), ("ends", .free)], isGenerator := false, isCoroutine := false, more := [] : PySem.Scope } [("place", 15), ("way", 16)] := ⟨rfl, by decide +kernel, by decide +kernel, by decide +kernel, by decide +kernel⟩
def m_law (fuel : Nat) : MS :=
    (mseq (mset 1 (mwM (mcall 2 F__law_pool (mcons (mVar 0) (mcons (mC (.int 400)) mnil)))))
    (mseq (mfor (mrng1 (mcons (mC (.int 4)) mnil)) (mgN 2) (mseq (mset 3 (mw (mcall 3 (F__law_walkers fuel) (mcons (mVar 1) (mcons (mC (.int 4)) (mcons (mC (.int 2)) mnil))))))
    (mseq (mset 4 (mw (mN (mcons (mw (m2 (mVar 3) (mC (.int 1)) ixV)) mnil) lenV)))
    (mseq (mIf (mb (mw (m2 (mw (mN (mcons (mw (mlst (mcons (mw (mcall 1 F_are_walkers (mcons (mVar 3) mnil))) (mcons (mw (mcallK 1 p0 F_are_walkers (mcons (mVar 3) mnil))) mnil)))) mnil) reprV)) (mC (.str "[True, True]")) (eqv true)))) (mret (me (mC (.bool false)))) mnext)
    (mseq (mfor (mrng1 (mcons (mC (.int 4)) mnil)) (mgN 5) (mseq (mset 6 (mwM (mcall 2 (F__law_stands fuel) (mcons (mVar 1) (mcons (mVar 4) mnil)))))
    (mseq (mIf (mb (mw (m2 (mVar 5) (mC (.int 0)) (eqv false)))) (mseq (mset 7 (mw (m2 (mw (mlst (mcons (mtup (mcons (mC (.int 0)) (mcons (mC (.int 1)) mnil))) (mcons (mtup (mcons (mC (.int 0)) (mcons (mC (.int 1)) mnil))) (mcons (mtup (mcons (mC (.int 1)) (mcons (mC (.int 2)) mnil))) (mcons (mtup (mcons (mC (.int 1)) (mcons (mC (.int 1)) mnil))) mnil)))))) (mw (mcall 2 F__law_take (mcons (mVar 1) (mcons (mC (.int 4)) mnil)))) ixV)))
    (mset 6 (mwM (mN (mcons (mw (mlc [15, 16] (misrc (mVar 6)) (mgtup 2 (mgcons (mgN 15) (mgcons (mgN 16) mgnil))) myes (mtup (mcons (mVar 7) (mcons (mVar 16) mnil))))) mnil) tupV)))) mnext)
    (mseq (mIf (mb (mw (m2 (mw (mN (mcons (mw (mlst (mcons (mw (mcall 2 F_are_stands (mcons (mVar 3) (mcons (mVar 6) mnil)))) (mcons (mw (mcallK 2 p10 F_are_stands (mcons (mVar 6) (mcons (mVar 3) mnil)))) mnil)))) mnil) reprV)) (mC (.str "[True, True]")) (eqv true)))) (mret (me (mC (.bool false)))) mnext)
    (mseq (mset 8 (mw (mcall 2 (F__law_settled fuel) (mcons (mC (.int 0)) (mcons (mVar 6) mnil)))))
    (mseq (mIf (mb (mw (m2 (mw (mN (mcons (mw (mlst (mcons (mw (mcall 2 (F_at_once fuel) (mcons (mVar 3) (mcons (mVar 6) mnil)))) (mcons (mw (mcallK 2 p10 (F_at_once fuel) (mcons (mVar 6) (mcons (mVar 3) mnil)))) mnil)))) mnil) reprV)) (mw (mN (mcons (mw (mlst (mcons (mVar 8) (mcons (mVar 8) mnil)))) mnil) reprV)) (eqv true)))) (mret (me (mC (.bool false)))) mnext)
    (mseq (mpar 9 10 (mcons (mw (mcall 2 F__law_bad_walkers (mcons (mVar 1) (mcons (mVar 3) mnil)))) (mcons (mw (mcall 2 F__law_bad_stands (mcons (mVar 1) (mcons (mVar 6) mnil)))) mnil)))
    (mseq (mpar 11 12 (mcons (mw (mN (mcons (mw (mlst (mcons (mVar 9) (mcons (mVar 10) mnil)))) mnil) reprV)) (mcons (mw (mcall 2 F__law_take (mcons (mVar 1) (mcons (mC (.int 3)) mnil)))) mnil)))
    (mseq (mIf (mor (mb (mw (m2 (mw (mN (mcons (mw (mlst (mcons (mw (mcall 1 F_are_walkers (mcons (mVar 9) mnil))) (mcons (mw (mcall 2 F_are_stands (mcons (mVar 3) (mcons (mVar 10) mnil)))) mnil)))) mnil) reprV)) (mC (.str "[False, False]")) (eqv true)))) (mb (mw (m2 (mw (mN (mcons (mw (mlst (mcons (mVar 9) (mcons (mVar 10) mnil)))) mnil) reprV)) (mVar 11) (eqv true))))) (mret (me (mC (.bool false)))) mnext)
    (mseq (mIf (mb (mw (m2 (mw (mcall 4 (F__law_caught fuel) (mcons (mw (mcall 2 F__law_take (mcons (mVar 1) (mcons (mC (.int 5)) mnil)))) (mcons (mVar 9) (mcons (mVar 10) (mcons (mw (m1 (mC (.int 1)) ineg)) mnil)))))) (mtup (mcons (mC (.int 0)) (mcons (mw (mN (mcons (mVar 9) mnil) reprV)) mnil))) (eqv true)))) (mret (me (mC (.bool false)))) mnext)
    (mIf (mb (mw (m2 (mw (mcall 4 (F__law_caught fuel) (mcons (mVar 12) (mcons (mVar 3) (mcons (mVar 10) (mcons (mw (m1 (mC (.int 1)) ineg)) mnil)))))) (mtup (mcons (mC (.int 1)) (mcons (mw (mN (mcons (mVar 10) mnil) reprV)) mnil))) (eqv true)))) (mret (me (mC (.bool false)))) mnext)))))))))))
    (mseq (mpar 13 14 (mcons (mw (m2 (mw (mlst (mcons (mC .none) (mcons (mC (.int 0)) (mcons (mtup (mcons (mw (m1 (mC (.int 1)) ineg)) (mcons (mC (.int 2)) mnil))) (mcons (mtup (mcons (mC (.int 2)) (mcons (mC (.int 4)) mnil))) (mcons (mw (mlst (mcons (mC (.int 1)) (mcons (mC (.int 2)) mnil)))) mnil))))))) (mw (mcall 2 F__law_take (mcons (mVar 1) (mcons (mC (.int 5)) mnil)))) ixV)) (mcons (mw (m2 (mw (mlst (mcons (mw (m1 (mC (.int 1)) ineg)) (mcons (mC (.int 41)) (mcons (mw (m2 (mC (.int 10)) (mC (.int 20)) ipow)) mnil))))) (mw (mcall 2 F__law_take (mcons (mVar 1) (mcons (mC (.int 3)) mnil)))) ixV)) mnil)))
    (mseq (mIf (mb (mw (m2 (mw (mcall 4 (F__law_caught fuel) (mcons (mC (.int 1)) (mcons (mVar 3) (mcons (mVar 6) (mcons (mVar 13) mnil)))))) (mtup (mcons (mC (.int 2)) (mcons (mw (mN (mcons (mVar 13) mnil) reprV)) mnil))) (eqv true)))) (mret (me (mC (.bool false)))) mnext)
    (mIf (mb (mw (m2 (mw (mcall 4 (F__law_caught fuel) (mcons (mC (.int 2)) (mcons (mVar 3) (mcons (mVar 6) (mcons (mVar 14) mnil)))))) (mtup (mcons (mC (.int 3)) (mcons (mw (mN (mcons (mVar 14) mnil) reprV)) mnil))) (eqv true)))) (mret (me (mC (.bool false)))) mnext))))))))
    (mret (me (mC (.bool true))))))
theorem fs_law : FnScope (["script", "pool", "turn", "walkers", "many", "k", "stands", "ends", "due", "bad", "odd", "text", "which", "time", "number", "place", "way"] : List Str) (["script"] : List Str) sc_law := ⟨rfl, rfl, rfl, nd_law, rfl, by decide +kernel, by decide +kernel⟩
def F_law (fuel : Nat) : Fn := trimF (runF 17 (m_law fuel))
theorem r_law (B : BB K mg) (Z : SupB K PP) (fuel : Nat) (f : Addr) : ∀ (cdv : Value) (A : Around) (outer : List Env) (s : Shared) (H : Hp) (E : XK), (A.deeper (envOfC "law" sc_law s.heap.objs.size f cdv)).guards = some [] → Room 13 (A.deeper (envOfC "law" sc_law s.heap.objs.size f cdv)) →
    RSs (cxOf (L2.CX PP w) PP w K mg base (["script", "pool", "turn", "walkers", "many", "k", "stands", "ends", "due", "bad", "odd", "text", "which", "time", "number", "place", "way"] : List Str) "law" sc_law f cdv A outer s H E) (GG K) (WxE E) (defBody st_law) (m_law fuel) := by
  have bl_len : mg "len" = none := B.free 46 rfl
  have bl_range : mg "range" = none := B.free 48 rfl
  have bl_repr : mg "repr" = none := B.free 49 rfl
  have bl_tuple : mg "tuple" = none := B.free 52 rfl
  exact fun cdv A outer s H E hgd hr =>
    (rs_cons (rs_set 1 nd_law (RE.rwM (re_call (d__law_pool B Z) hr (by decide) rfl (takes_of rfl rfl rfl rfl) (ra_cons (rw_var 0) (ra_cons rw_int ra_nil)))))
    (rs_cons (rs_for (passes_of rfl) rfl (ri_range1 rfl bl_range (ra_cons rw_int ra_nil)) (rg_name (vs := [2]) 2 nd_law) (rs_cons (rs_set 3 nd_law (RE.rw (re_call (d__law_walkers B Z fuel) hr (by decide) rfl (takes_of rfl rfl rfl rfl) (ra_cons (rw_var 1) (ra_cons rw_int (ra_cons rw_int ra_nil))))))
    (rs_cons (rs_set 4 nd_law (RE.rw (re_len rfl bl_len (ra_cons (RE.rw (re_ix (rw_var 3) rw_int)) ra_nil))))
    (rs_cons (rs_if (rt_c (cm_ne hr) (RE.rw (re_repr hgd hr rfl bl_repr (ra_cons (RE.rw (re_lst (ra_cons (RE.rw (re_call (d_are_walkers B Z) hr (by decide) rfl (takes_of rfl rfl rfl rfl) (ra_cons (rw_var 3) ra_nil))) (ra_cons (RE.rw (re_callK (dk_are_walkers_p0 B Z) gp_p0 hr (by decide) rfl (takes_of rfl rfl rfl rfl) (rk_cons (rw_var 3) rk_nil))) ra_nil)))) ra_nil))) rw_str) (rs_one (rs_ret (RW.re rw_bl))) rs_nil)
    (rs_cons (rs_for (passes_of rfl) rfl (ri_range1 rfl bl_range (ra_cons rw_int ra_nil)) (rg_name (vs := [5]) 5 nd_law) (rs_cons (rs_set 6 nd_law (RE.rwM (re_call (d__law_stands B Z fuel) hr (by decide) rfl (takes_of rfl rfl rfl rfl) (ra_cons (rw_var 1) (ra_cons (rw_var 4) ra_nil)))))
    (rs_cons (rs_if (rt_c (cm_eq hr) (rw_var 5) rw_int) (rs_cons (rs_set 7 nd_law (RE.rw (re_ix (RE.rw (re_lst (ra_cons (rw_tup (ra_cons rw_int (ra_cons rw_int ra_nil))) (ra_cons (rw_tup (ra_cons rw_int (ra_cons rw_int ra_nil))) (ra_cons (rw_tup (ra_cons rw_int (ra_cons rw_int ra_nil))) (ra_cons (rw_tup (ra_cons rw_int (ra_cons rw_int ra_nil))) ra_nil)))))) (RE.rw (re_call (d__law_take B Z) hr (by decide) rfl (takes_of rfl rfl rfl rfl) (ra_cons (rw_var 1) (ra_cons rw_int ra_nil)))))))
    (rs_one (rs_set 6 nd_law (RE.rwM (re_tuple rfl bl_tuple (ra_cons (RE.rw (re_lc [("place", 15), ("way", 16)] rfl nd_law (ri_seq (rw_var 6)) bo_law_0 (fun s H C cl fp => (rg_tup rfl (rg_cons (rg_name (vs := [15, 16]) 15 nd_law) (rg_cons (rg_name (vs := [15, 16]) 16 nd_law) rg_nil)))) (fun s H C cl fp => rts_nil) (fun s H C cl fp => (rw_tup (ra_cons (rw_var 7) (ra_cons (rw_var 16) ra_nil)))))) ra_nil)))))) rs_nil)
    (rs_cons (rs_if (rt_c (cm_ne hr) (RE.rw (re_repr hgd hr rfl bl_repr (ra_cons (RE.rw (re_lst (ra_cons (RE.rw (re_call (d_are_stands B Z) hr (by decide) rfl (takes_of rfl rfl rfl rfl) (ra_cons (rw_var 3) (ra_cons (rw_var 6) ra_nil)))) (ra_cons (RE.rw (re_callK (dk_are_stands_p10 B Z) gp_p10 hr (by decide) rfl (takes_of rfl rfl rfl rfl) (rk_cons (rw_var 6) (rk_cons (rw_var 3) rk_nil)))) ra_nil)))) ra_nil))) rw_str) (rs_one (rs_ret (RW.re rw_bl))) rs_nil)
    (rs_cons (rs_set 8 nd_law (RE.rw (re_call (d__law_settled B Z fuel) hr (by decide) rfl (takes_of rfl rfl rfl rfl) (ra_cons rw_int (ra_cons (rw_var 6) ra_nil)))))
    (rs_cons (rs_if (rt_c (cm_ne hr) (RE.rw (re_repr hgd hr rfl bl_repr (ra_cons (RE.rw (re_lst (ra_cons (RE.rw (re_call (d_at_once B Z fuel) hr (by decide) rfl (takes_of rfl rfl rfl rfl) (ra_cons (rw_var 3) (ra_cons (rw_var 6) ra_nil)))) (ra_cons (RE.rw (re_callK (dk_at_once_p10 B Z fuel) gp_p10 hr (by decide) rfl (takes_of rfl rfl rfl rfl) (rk_cons (rw_var 6) (rk_cons (rw_var 3) rk_nil)))) ra_nil)))) ra_nil))) (RE.rw (re_repr hgd hr rfl bl_repr (ra_cons (RE.rw (re_lst (ra_cons (rw_var 8) (ra_cons (rw_var 8) ra_nil)))) ra_nil)))) (rs_one (rs_ret (RW.re rw_bl))) rs_nil)
    (rs_cons (rs_par 9 10 rfl nd_law (ra_cons (RE.rw (re_call (d__law_bad_walkers B Z) hr (by decide) rfl (takes_of rfl rfl rfl rfl) (ra_cons (rw_var 1) (ra_cons (rw_var 3) ra_nil)))) (ra_cons (RE.rw (re_call (d__law_bad_stands B Z) hr (by decide) rfl (takes_of rfl rfl rfl rfl) (ra_cons (rw_var 1) (ra_cons (rw_var 6) ra_nil)))) ra_nil)))
    (rs_cons (rs_par 11 12 rfl nd_law (ra_cons (RE.rw (re_repr hgd hr rfl bl_repr (ra_cons (RE.rw (re_lst (ra_cons (rw_var 9) (ra_cons (rw_var 10) ra_nil)))) ra_nil))) (ra_cons (RE.rw (re_call (d__law_take B Z) hr (by decide) rfl (takes_of rfl rfl rfl rfl) (ra_cons (rw_var 1) (ra_cons rw_int ra_nil)))) ra_nil)))
    (rs_cons (rs_if (RP.rt (rp_or (rt_c (cm_ne hr) (RE.rw (re_repr hgd hr rfl bl_repr (ra_cons (RE.rw (re_lst (ra_cons (RE.rw (re_call (d_are_walkers B Z) hr (by decide) rfl (takes_of rfl rfl rfl rfl) (ra_cons (rw_var 9) ra_nil))) (ra_cons (RE.rw (re_call (d_are_stands B Z) hr (by decide) rfl (takes_of rfl rfl rfl rfl) (ra_cons (rw_var 3) (ra_cons (rw_var 10) ra_nil)))) ra_nil)))) ra_nil))) rw_str) (rp_or1 (rt_c (cm_ne hr) (RE.rw (re_repr hgd hr rfl bl_repr (ra_cons (RE.rw (re_lst (ra_cons (rw_var 9) (ra_cons (rw_var 10) ra_nil)))) ra_nil))) (rw_var 11))))) (rs_one (rs_ret (RW.re rw_bl))) rs_nil)
    (rs_cons (rs_if (rt_c (cm_ne hr) (RE.rw (re_callG (d__law_caught B Z fuel) hgd hr (by decide) rfl (takes_of rfl rfl rfl rfl) (ra_cons (RE.rw (re_call (d__law_take B Z) hr (by decide) rfl (takes_of rfl rfl rfl rfl) (ra_cons (rw_var 1) (ra_cons rw_int ra_nil)))) (ra_cons (rw_var 9) (ra_cons (rw_var 10) (ra_cons (RE.rw (re_neg rw_int)) ra_nil)))))) (rw_tup (ra_cons rw_int (ra_cons (RE.rw (re_repr hgd hr rfl bl_repr (ra_cons (rw_var 9) ra_nil))) ra_nil)))) (rs_one (rs_ret (RW.re rw_bl))) rs_nil)
    (rs_one (rs_if (rt_c (cm_ne hr) (RE.rw (re_callG (d__law_caught B Z fuel) hgd hr (by decide) rfl (takes_of rfl rfl rfl rfl) (ra_cons (rw_var 12) (ra_cons (rw_var 3) (ra_cons (rw_var 10) (ra_cons (RE.rw (re_neg rw_int)) ra_nil)))))) (rw_tup (ra_cons rw_int (ra_cons (RE.rw (re_repr hgd hr rfl bl_repr (ra_cons (rw_var 10) ra_nil))) ra_nil)))) (rs_one (rs_ret (RW.re rw_bl))) rs_nil))))))))))))
    (rs_cons (rs_par 13 14 rfl nd_law (ra_cons (RE.rw (re_ix (RE.rw (re_lst (ra_cons rw_non (ra_cons rw_int (ra_cons (rw_tup (ra_cons (RE.rw (re_neg rw_int)) (ra_cons rw_int ra_nil))) (ra_cons (rw_tup (ra_cons rw_int (ra_cons rw_int ra_nil))) (ra_cons (RE.rw (re_lst (ra_cons rw_int (ra_cons rw_int ra_nil)))) ra_nil))))))) (RE.rw (re_call (d__law_take B Z) hr (by decide) rfl (takes_of rfl rfl rfl rfl) (ra_cons (rw_var 1) (ra_cons rw_int ra_nil)))))) (ra_cons (RE.rw (re_ix (RE.rw (re_lst (ra_cons (RE.rw (re_neg rw_int)) (ra_cons rw_int (ra_cons (RE.rw (re_pow rw_int rw_int)) ra_nil))))) (RE.rw (re_call (d__law_take B Z) hr (by decide) rfl (takes_of rfl rfl rfl rfl) (ra_cons (rw_var 1) (ra_cons rw_int ra_nil)))))) ra_nil)))
    (rs_cons (rs_if (rt_c (cm_ne hr) (RE.rw (re_callG (d__law_caught B Z fuel) hgd hr (by decide) rfl (takes_of rfl rfl rfl rfl) (ra_cons rw_int (ra_cons (rw_var 3) (ra_cons (rw_var 6) (ra_cons (rw_var 13) ra_nil)))))) (rw_tup (ra_cons rw_int (ra_cons (RE.rw (re_repr hgd hr rfl bl_repr (ra_cons (rw_var 13) ra_nil))) ra_nil)))) (rs_one (rs_ret (RW.re rw_bl))) rs_nil)
    (rs_one (rs_if (rt_c (cm_ne hr) (RE.rw (re_callG (d__law_caught B Z fuel) hgd hr (by decide) rfl (takes_of rfl rfl rfl rfl) (ra_cons rw_int (ra_cons (rw_var 3) (ra_cons (rw_var 6) (ra_cons (rw_var 14) ra_nil)))))) (rw_tup (ra_cons rw_int (ra_cons (RE.rw (re_repr hgd hr rfl bl_repr (ra_cons (rw_var 14) ra_nil))) ra_nil)))) (rs_one (rs_ret (RW.re rw_bl))) rs_nil)))))))))
    (rs_one (rs_ret (RW.re rw_bl)))))
theorem d_law (B : BB K mg) (Z : SupB K PP) (fuel : Nat) : DfG PP w K mg base (GG K) 14 "law" 1 (F_law fuel) := by
  obtain ⟨fd, F⟩ := B.def_ 44 (d := dd_law) rfl
  exact df_okG (["script", "pool", "turn", "walkers", "many", "k", "stands", "ends", "due", "bad", "odd", "text", "which", "time", "number", "place", "way"] : List Str) (["script"]) F (B.glo 39 rfl) fs_law (fun _ _ _ _ _ _ us hl => match us, hl with | [_], _ => rfl) rfl (r_law B Z fuel _)
end

end Qk68
/-! text BkR -/
set_option Elab.async false
set_option linter.all false
set_option maxRecDepth 100000
set_option maxHeartbeats 2000000
set_option autoImplicit false
/-! BkR: the head's Hook with the base exception's __init__. -/
namespace Bk
open PySem PySem.Spec PyProof.Rows L2 PySem.SupX
abbrev FnT : Type := Option (Str × Str × Arguments × FuncBody × Scope × Addr × List Str × Addr)
def obsF (K : PySem.W.Frag) : FnT := match K.lookup (supI K) with
  | some ⟨_, _, .func fd, _⟩ => some (fd.name, fd.qualname, fd.params, fd.body, fd.scope, fd.globals, fd.closure.map (·.1), fd.builtins)
  | _ => none
def valF (a : Arguments) : FnT := some ("__init__", "BucketError.__init__", a, .stmts iB, iS, mainGlobals, ["__class__"], builtinsNs)
def supX (file : Str) (K : PySem.W.Frag) : Bool := match K.lookup (supI K) with
  | some ⟨_, _, .func fd, _⟩ => (match fd.closure with
    | [(_, cc)] => (match K.lookup cc with
      | some ⟨_, _, .cell (some (.ref D)), _⟩ => decide (D = He.ga K "BucketError")
      | _ => false)
    | _ => false) && ((match fd.code with
      | .ref cda => PySem.W.codeIn K (.ref cda) fd.qualname && (match K.lookup cda with
        | some ⟨_, _, .fields vs, _⟩ => (match (vs[2]? : Option Value) with
          | some (Value.str f _) => file == f
          | _ => false)
        | _ => false)
      | _ => false) && (match fd.defaults, fd.kwdefaults with
        | .none, .none => true
        | _, _ => false))
  | _ => false
theorem supB_of {K : PySem.W.Frag} {P : Program} {p1 p2 : Pos} (e : obsF K = valF (iA p1 p2)) (c : supX P.main.file K = true) (top : (P.main.scope.names.lookup ("super" : Str)).isSome = false) : SupB K P := by
  refine ⟨?_, top⟩
  unfold obsF at e
  unfold supX at c
  cases q : K.lookup (supI K) with
  | none => rw [q] at e; cases e
  | some o =>
    obtain ⟨oc, od, dt, osl⟩ := o
    rw [q] at e c
    cases dt with
    | func fd =>
      obtain ⟨n1, n2, n3, n4, n5, n6, n7, n8, n9, n10, n11, n12, n13, n14, n15⟩ := fd
      unfold valF at e
      simp only [Option.some.injEq, Prod.mk.injEq] at e
      obtain ⟨h1, h2, h3, h4, h5, h6, h7, h8⟩ := e
      subst h1 h2 h3 h4 h5 h6 h8
      simp only [Bool.and_eq_true] at c
      obtain ⟨c1, c2, c3⟩ := c
      match n7, h7, c1 with
      | [(x, cc)], h7, c1 =>
        simp only [List.map_cons, List.map_nil, List.cons.injEq, and_true] at h7
        subst h7
        simp only at c1
        cases qc : K.lookup cc with
        | none => rw [qc] at c1; cases c1
        | some oc' =>
          obtain ⟨cl, cld, cdt, csl⟩ := oc'
          rw [qc] at c1
          cases cdt with
          | cell v =>
            cases v with
            | none => cases c1
            | some v =>
              cases v with
              | ref D =>
                have hD : D = He.ga K "BucketError" := of_decide_eq_true c1
                subst hD
                cases n13 with
                | ref cda =>
                  simp only [Bool.and_eq_true] at c2
                  obtain ⟨d1, d2⟩ := c2
                  cases qd : K.lookup cda with
                  | none => rw [qd] at d2; cases d2
                  | some od' =>
                    obtain ⟨ccl, cdd, ddt, ccs⟩ := od'
                    rw [qd] at d2
                    cases ddt with
                    | fields vs =>
                      simp only at d2
                      cases qv : vs[2]? with
                      | none => rw [qv] at d2; cases d2
                      | some v =>
                        rw [qv] at d2
                        cases v with
                        | str file tf =>
                          cases n8 with
                          | none =>
                            cases n9 with
                            | none => exact ⟨cc, cda, oc, od, n10, n11, n12, n14, osl, p1, p2, _, rfl, d1, ⟨cl, cld, csl, qc⟩, ⟨ccl, cdd, vs, ccs, file, tf, qd, qv, d2⟩⟩
                            | _ => cases c3
                          | _ => cases c3
                        | _ => cases d2
                    | _ => cases d2
                | _ => cases c2
              | _ => cases c1
          | _ => cases c1
    | _ => cases e
/-- addresses that an object names, those seen kept as the bits of a number -/
def putR : List Addr → Nat → List Addr → Nat × List Addr
  | [], seen, new => (seen, new)
  | r :: rs, seen, new => match Nat.beq ((seen >>> r) % 2) 0 with
    | true => putR rs (seen ||| (1 <<< r)) (r :: new)
    | false => putR rs seen new
def lvlA (g : Addr → Option Obj) : List Addr → Nat → List Addr → Nat × List Addr
  | [], seen, new => (seen, new)
  | a :: as, seen, new => match (match g a with
    | some o => putR (He.refsD o) seen new
    | none => (seen, new)) with
    | (s, n) => lvlA g as s n
def gatA (g : Addr → Option Obj) : Nat → List Addr → Nat → List Addr → List Addr
  | 0, fr, _, acc => acc ++ fr
  | k + 1, fr, seen, acc => match lvlA g fr seen [] with
    | (s, new) => gatA g k new s (acc ++ fr)
def asS (g : Addr → Option Obj) (n : Nat) : List Addr := gatA g n [mainGlobals] (1 <<< mainGlobals) [] ++ [cStatics]
abbrev AlS : Type := He.AlT × (Bool × (FnT × Bool))
def obsS (n : Nat) (fa : List He.Fa) (fn : List He.DefD) (ex : PySem.W.Frag → Bool) (file : Str) (g : Addr → Option Obj) : AlS := (He.obsT fa fn [] (He.frT g (asS g n)), (ex (He.frT g (asS g n)), (obsF (He.frT g (asS g n)), supX file (He.frT g (asS g n)))))
theorem saysS_of {n : Nat} {fa : List He.Fa} {fn : List He.DefD} {ex : PySem.W.Frag → Bool} {file : Str} {a : Arguments} {w : World} {h : Heap} (e : obsS n fa fn ex file h.get? = (He.valT fn [] w, (true, (valF a, true)))) : ∃ K : PySem.W.Frag, K.In h ∧ He.SaysX fa fn [] [] ex w h K ∧ obsF K = valF a ∧ supX file K = true :=
  ⟨He.frT h.get? (asS h.get? n), He.frT_in, ⟨congrArg (fun z : AlS => z.1) e, congrArg (fun z : AlS => z.2.1) e, (fun p hp => by cases hp), (fun p hp => by cases hp), (fun p hp => by cases hp)⟩, congrArg (fun z : AlS => z.2.2.1) e, congrArg (fun z : AlS => z.2.2.2) e⟩
def hookS (n : Nat) (fa : List He.Fa) (fn : List He.DefD) (ex : PySem.W.Frag → Bool) (file : Str) (a : Arguments) : PySem.W.Hook where
  α := AlS
  obs := fun s => obsS n fa fn ex file s.heap.get?
  val := fun w => (He.valT fn [] w, (true, (valF a, true)))
  says := fun w h => ∃ K : PySem.W.Frag, K.In h ∧ He.SaysX fa fn [] [] ex w h K ∧ obsF K = valF a ∧ supX file K = true
  of := fun _ _ e => saysS_of e
  keeps := fun _ _ _ ⟨K, hK, c, z⟩ k => ⟨K, PySem.W.Frag.In.keeps hK k, ⟨c.t, c.more, c.hd, c.out, fun p hp => k _ _ (c.empty p hp)⟩, z⟩
theorem obsS_eq {n : Nat} {fa : List He.Fa} {fn : List He.DefD} {ex : PySem.W.Frag → Bool} {file : Str} {a : Arguments} {g : Addr → Option Obj} {s : Shared} (h : ∀ a, g a = s.heap.get? a) : obsS n fa fn ex file g = (hookS n fa fn ex file a).obs s := by
  have e : g = s.heap.get? := funext h
  rw [e] <;> rfl
end Bk
/-! text HD68 -/
set_option Elab.async false
set_option linter.all false
set_option maxRecDepth 100000
set_option maxHeartbeats 0
namespace Qk68
open PySem PySem.Spec PyProof.Rows L2 Bk
def names0 : List Str := ["BucketError", "InvalidNumber", "InvalidTime", "InvalidWalkers", "InvalidStands", "is_integer", "is_tuple", "is_word", "need_number", "anew", "ZERO", "ONE", "make", "plus", "negative", "less", "times", "over", "is_fraction", "is_below", "is_positive", "are_growing", "floor_of", "piece_at", "next_mark", "least_of", "MOST_CUTS", "MOST_PEOPLE_brigades", "are_cuts", "are_speeds"]
def names1 : List Str := ["is_a_brigade", "SYMBOL", "NOUGHT", "level", "line_plus", "line_less", "line_times", "line_over", "value_at", "root_of", "Beyond", "place_behind", "bounds_beyond", "zones_of", "marks_between", "legs", "way_time", "place_ahead", "place_back", "MOST_PEOPLE_rescales", "is_place", "are_any_places", "piece_behind", "mark_behind", "Crew", "need_time", "MOST_OUT", "are_walkers", "need_walkers", "are_right_stands"]
def names2 : List Str := ["are_stands", "need_stands", "at_once", "stands_at", "outs_of", "both_ways", "joined_of", "joined", "rest_of", "stand_of", "round_of_all", "_law_pool", "_law_take", "_law_make", "_law_twelfths", "_law_places", "_law_speed", "_law_brigade", "_law_settled", "_law_walkers", "_law_stands", "_law_bad_walkers", "_law_bad_stands", "_law_about", "_law_caught"]
def names : List Str := names0 ++ names1 ++ names2
abbrev R : PySem.W.OpenRow := PySem.W.OpenLaw.row PySem.Challenge.rw_bucketsalong_k68_walkers_stands_and_what
def fileN : Str := PP.main.file
abbrev hk : PySem.W.Hook := hookS 4 fa fn exB PP.main.file (defArgs (sub 2 0))
def ob (s : PySem.W.SharedT) : AlS := obsS 4 fa fn exB PP.main.file (HandSHeadRun.getT s)
theorem ob_eq (s : PySem.W.SharedT) : ob s = hk.obs s.abs := obsS_eq (HandSHeadRun.getT_eq s)
theorem h_s (w : World) : (HandSHeadRun.wholeF (fun p => HandSHeadRun.stepQ (HandSHeadRun.denQ HandSHeadRun.tabQ) p w) HandSHeadRun.fenceQ 6600 R.prog).map (fun x => ob x.2) = some (hk.val w) := by kernel_rfl
theorem h_x (w : World) : (HandSHeadRun.wholeF (fun p => HandSHeadRun.stepQ (HandSHeadRun.denQ HandSHeadRun.tabQ) p w) HandSHeadRun.fenceQ 6600 R.prog).map (fun x => HandSHeadRun.looksF R.prog x.1.heap x.2.abs) = some true := by kernel_rfl
theorem h_n (w : World) : (HandSHeadRun.wholeF (fun p => HandSHeadRun.stepQ (HandSHeadRun.denQ HandSHeadRun.tabQ) p w) HandSHeadRun.fenceQ 6600 R.prog).map (fun x => HandSHeadRun.seenQ (PySem.W.view R.prog [0, 99]) names (importedModules R.prog.main.body) (fun s => PySem.W.xlAt (PySem.W.view R.prog [0, 99]) [] s && PySem.W.recOk R.toRowW.records s) x.2.abs) = some (PySem.W.openGood (PySem.W.view R.prog [0, 99]) names) := by kernel_rfl
end Qk68
/-! text BkV -/
set_option Elab.async false
set_option linter.all false
set_option maxRecDepth 100000
set_option maxHeartbeats 2000000
set_option autoImplicit false
/-! BkV: evaluation of the semantic texts by simp. -/
namespace Bk
open PySem PySem.Spec
section
variable (env : Ev) (S : Sto)
@[simp] theorem v_mVar (i : Nat) : mVar i env S = match env[i]? with
  | some (some w) => .ok w S
  | _ => .fail := rfl
@[simp] theorem v_mC (d : PyData) : mC d env S = .ok (.dat d) S := rfl
@[simp] theorem v_m1 (ma : MW) (f : Op1) : m1 ma f env S = (ma env S).bind fun x S => lift (f x S) := rfl
@[simp] theorem v_m2 (ma mb : MW) (f : Op2) : m2 ma mb f env S = (ma env S).bind fun x S => (mb env S).bind fun y S => lift (f x y S) := rfl
@[simp] theorem v_mN (ma : MA) (f : OpN) : mN ma f env S = (ma env S).bind fun x S => lift (f x S) := rfl
@[simp] theorem v_mw (m : ME) : mw m env S = (m env S).bind fun r S => lift (argw r S) := rfl
@[simp] theorem v_mwM (m : ME) : mwM m env S = (m env S).bind fun r S => lift (argm r S) := rfl
@[simp] theorem v_me (m : MW) : me m env S = (m env S).bind fun w S => .ok (.val w) S := rfl
@[simp] theorem v_mb (m : MW) : mb m env S = (m env S).bind fun w S => match boolOf w with
  | some b => .ok b S
  | none => .fail := rfl
@[simp] theorem v_mnot (m : MT) : mnot m env S = (m env S).bind fun b S => .ok (!b) S := rfl
@[simp] theorem v_mand (a b : MT) : mand a b env S = (a env S).bind fun x S => if x = true then b env S else .ok false S := rfl
@[simp] theorem v_mor (a b : MT) : mor a b env S = (a env S).bind fun x S => if x = true then .ok true S else b env S := rfl
@[simp] theorem v_mandV (a b : MW) : mandV a b env S = (a env S).bind fun x S => match boolOf x with
  | some true => b env S
  | some false => .ok (.dat (.bool false)) S
  | none => .fail := rfl
@[simp] theorem v_morV (a b : MW) : morV a b env S = (a env S).bind fun x S => match boolOf x with
  | some true => .ok (.dat (.bool true)) S
  | some false => b env S
  | none => .fail := rfl
@[simp] theorem v_mnotV (m : MW) : mnotV m env S = (m env S).bind fun x S => match boolOf x with
  | some b => .ok (.dat (.bool (!b))) S
  | none => .fail := rfl
@[simp] theorem v_mif (mt : MT) (a b : ME) : mif mt a b env S = (mt env S).bind fun x S => if x = true then a env S else b env S := rfl
@[simp] theorem v_mchain (ma mb mc : MW) (f g : Op2) : mchain ma mb mc f g env S = (ma env S).bind fun x S => (mb env S).bind fun y S => (lift (f x y S)).bind fun r S => match r with
  | .val (.dat (.bool true)) => (mc env S).bind fun z S => lift (g y z S)
  | .val (.dat (.bool false)) => .ok (.val (.dat (.bool false))) S
  | _ => .fail := rfl
@[simp] theorem v_mnil : mnil env S = .ok [] S := rfl
@[simp] theorem v_mcons (ma : MW) (mr : MA) : mcons ma mr env S = (ma env S).bind fun w S => (mr env S).bind fun ws S => .ok (w :: ws) S := rfl
@[simp] theorem v_mtup (ma : MA) : mtup ma env S = (ma env S).bind fun ws S => match toDats ws S with
  | some (ds, S') => if ds.length ≤ 1000 then .ok (.dat (.tuple ds)) S' else .fail
  | none => .fail := rfl
@[simp] theorem v_mlst (ma : MA) : mlst ma env S = (ma env S).bind fun ws S => if ws.length ≤ 1000 then .ok (.new ws) S else .fail := rfl
@[simp] theorem v_moN : moN env S = .ok none S := rfl
@[simp] theorem v_moS (m : MW) : moS m env S = (m env S).bind fun w S => match w with
  | .dat (.int i) => .ok (some i) S
  | _ => .fail := rfl
@[simp] theorem v_mslice (ma : MW) (ml mh : MO) : mslice ma ml mh env S = (ma env S).bind fun x S => (ml env S).bind fun lo S => (mh env S).bind fun hi S => lift (slV x lo hi S) := rfl
@[simp] theorem v_mcall (n : Nat) (F : Fn) (ma : MA) : mcall n F ma env S = (ma env S).bind fun ws S => if ws.length = n then F ws S else .fail := rfl
@[simp] theorem v_mcallK (n : Nat) (g : {α : Type} → List α → List α) (F : Fn) (ma : MA) : mcallK n g F ma env S = (ma env S).bind fun ws S => if ws.length = n then F (g ws) S else .fail := rfl
@[simp] theorem v_misi (T : String) (m : MW) : misi T m env S = (m env S).bind fun w S => match tyName S w with
  | some a => .ok (.dat (.bool (isB a T))) S
  | none => .fail := rfl
@[simp] theorem v_misrc (m : MW) : misrc m env S = (m env S).bind fun w S => match srcOf S w with
  | some c => .ok c S
  | none => .fail := rfl
@[simp] theorem v_mlc (vs : List Nat) (mi : MI) (mg : MG) (mt : MT) (me : MW) : mlc vs mi mg mt me env S = (mi env S).bind fun c S => lcl c (wipeE env vs) mg mt me c.len 0 [] S := rfl
@[simp] theorem v_myes : myes env S = .ok true S := rfl
@[simp] theorem v_mgN (i : Nat) (w : Vl) : mgN i w env S = .next (env.set i (some w)) S := rfl
@[simp] theorem v_mgnil : mgnil [] env S = .next env S := rfl
@[simp] theorem v_mgcons (m : MG) (ms : MGs) (w : Vl) (r : List Vl) : mgcons m ms (w :: r) env S = (m w env S).bind (ms r) := rfl
@[simp] theorem v_mgtup (n : Nat) (ms : MGs) (w : Vl) : mgtup n ms w env S = match itemsOf S w with
  | some xs => if xs.length = n then ms xs env S else .fail
  | none => .fail := rfl
@[simp] theorem v_mnext : mnext env S = .next env S := rfl
@[simp] theorem v_mseq (a b : MS) : mseq a b env S = (a env S).bind b := rfl
@[simp] theorem v_mexpr (m : ME) : mexpr m env S = (m env S).fl env fun _ S => .next env S := rfl
@[simp] theorem v_mret (m : ME) : mret m env S = (m env S).fl env fun r S => .ret r S := rfl
@[simp] theorem v_mretN : mretN env S = .ret (.val (.dat .none)) S := rfl
@[simp] theorem v_mIf (c : MT) (a b : MS) : mIf c a b env S = (c env S).fl env fun t S => if t = true then a env S else b env S := rfl
@[simp] theorem v_mset (i : Nat) (m : MW) : mset i m env S = (m env S).fl env fun w S => .next (env.set i (some w)) S := rfl
@[simp] theorem v_mpar (i j : Nat) (m : MA) : mpar i j m env S = (m env S).fl env fun ws S => match ws with
  | [a, b] => .next ((env.set i (some a)).set j (some b)) S
  | _ => .fail := rfl
@[simp] theorem v_mpar3 (i j l : Nat) (m : MA) : mpar3 i j l m env S = (m env S).fl env fun ws S => match ws with
  | [a, b, c] => .next (((env.set i (some a)).set j (some b)).set l (some c)) S
  | _ => .fail := rfl
@[simp] theorem v_masg (m : MW) (mg : MG) : masg m mg env S = (m env S).fl env fun w S => mg w env S := rfl
@[simp] theorem v_masgT (n : Nat) (m : MA) (mg : MGs) : masgT n m mg env S = (m env S).fl env fun ws S => if ws.length = n ∧ n ≤ 1000 then (mg ws env S).pl else .fail := rfl
@[simp] theorem v_pl (e : Ev) : (Fl.next e S).pl = .next e S := rfl
@[simp] theorem v_msetLc (i : Nat) (m : ME) (fr : Bool) : msetLc i m fr env S = (m env S).fl env fun r S => match (if fr = true then argw r S else argm r S) with
  | some (w, S) => .next (env.set i (some w)) S
  | none => .fail := rfl
@[simp] theorem v_mraise (k : Nat) (ma : MA) : mraise k ma env S = (ma env S).fl env fun ws S => match ws with
  | [.dat d] => .exn k d env S
  | _ => .fail := rfl
@[simp] theorem v_mfor (mi : MI) (mg : MG) (mb : MS) : mfor mi mg mb env S = (mi env S).fl env fun c S => loop c (fun w => mseq (fun env S => (mg w env S).pl) mb) c.len 0 env S := rfl
@[simp] theorem v_wloop (mc : MT) (mb : MS) (n : Nat) : wloop mc mb (n + 1) env S = (mc env S).fl env fun b S => if b = true then (mb env S).bind (wloop mc mb n) else .next env S := rfl
@[simp] theorem v_mrng1 (m : MA) : mrng1 m env S = (m env S).bind fun ws S => match ws with
  | [.dat (.int j)] => if -(2 ^ 62) ≤ j ∧ j < 2 ^ 62 then .ok (.st (rngV 0 j.toNat)) S else .fail
  | _ => .fail := rfl
@[simp] theorem v_mzip (m : MA) : mzip m env S = (m env S).bind fun ws S => match ws with
  | [a, b] => match tsD a, tsD b with
    | some xs, some ys => .ok (.st ((zipD xs ys).map .dat)) S
    | _, _ => match lsD a, lsD b with
      | some xs, some ys => .ok (.st ((zipD xs ys).map .dat)) S
      | _, _ => .fail
  | _ => .fail := rfl
@[simp] theorem v_mfld (cs : List Nat) (f : Str) (m : MW) : mfld cs f m env S = (m env S).bind fun w S => match insAt S cs w with
  | some (_, _, fs) => match fs.lookup f with
    | some x => .ok x S
    | none => .fail
  | none => .fail := rfl
@[simp] theorem v_mpop0 (mo : MW) : mpop0 mo env S = (mo env S).bind fun x S => lift (popM x S) := rfl
@[simp] theorem v_mmtL (mo : MW) (ma : MA) (f : Vl → List Vl → Sto → Option (Rv × Sto)) : mmtL mo ma f env S = (mo env S).bind fun x S => if isLst S x = true then (ma env S).bind fun ws S => lift (f x ws S) else .fail := rfl
@[simp] theorem v_runF (N : Nat) (m : MS) (ws : List Vl) : runF N m ws S = match m (ev0 N ws) S with
  | .next _ S => .ok (.val (.dat .none)) S
  | .ret r S => .ok r S
  | .exn k d _ S => .exn k d S
  | .fail => .fail := rfl
end
@[simp] theorem v_src_len (xs : List Vl) : (Src.st xs).len = xs.length := rfl
@[simp] theorem v_boolOf (b : Bool) : boolOf (.dat (.bool b)) = some b := rfl
/-- a comprehension without a state: every turn tells its item -/
theorem lcl_map (c : List Vl) (env0 : Ev) (mg : MG) (mt : MT) (me : MW) (S : Sto) (f : Vl → Option Vl) (h : ∀ w ∈ c, ∃ env2, mg w env0 S = .next env2 S ∧ ((∃ y, f w = some y ∧ mt env2 S = .ok true S ∧ me env2 S = .ok y S) ∨ (f w = none ∧ mt env2 S = .ok false S))) (hz : c.length < 1000000) :
    lcl (.st c) env0 mg mt me c.length 0 [] S = .ok (.new (c.filterMap f)) S := by
  have key : ∀ (n i : Nat) (acc : List Vl), i + n = c.length → acc.length ≤ i → lcl (.st c) env0 mg mt me n i acc S = .ok (.new (acc ++ (c.drop i).filterMap f)) S := by
    intro n
    induction n with
    | zero =>
      intro i acc hi ha
      have e : Src.stop (.st c) S i = true := decide_eq_true (by omega)
      rw [lcl, if_pos e, List.drop_eq_nil_of_le (by omega)]
      simp
    | succ n ih =>
      intro i acc hi ha
      have hlt : i < c.length := by omega
      have e : Src.at (.st c) S i = some c[i] := List.getElem?_eq_getElem hlt
      obtain ⟨env2, h1, h2⟩ := h c[i] (List.getElem_mem hlt)
      rw [lcl, e]
      simp only [h1]
      rw [List.drop_eq_getElem_cons hlt, List.filterMap_cons]
      rcases h2 with ⟨y, h3, h4, h5⟩ | ⟨h3, h4⟩
      · simp only [h4, h5, h3]
        rw [if_pos (by omega), ih (i + 1) (acc ++ [y]) (by omega) (by simp; omega), List.append_assoc]
        rfl
      · simp only [h4, h3]
        exact ih (i + 1) acc (by omega) (by omega)
  have := key c.length 0 [] (by omega) (Nat.le_refl _)
  simpa using this
/-- a comprehension with a state: what holds of the store, of each item -/
theorem lcl_inv (c : List Vl) (env0 : Ev) (mg : MG) (mt : MT) (me : MW) (I : Sto → Prop) (Q : Vl → Prop) (h : ∀ w ∈ c, ∀ S, I S → ∃ env2 y S', mg w env0 S = .next env2 S ∧ mt env2 S = .ok true S ∧ me env2 S = .ok y S' ∧ I S' ∧ Q y) (hz : c.length < 1000000) (S : Sto) (hS : I S) :
    ∃ acc S', lcl (.st c) env0 mg mt me c.length 0 [] S = .ok (.new acc) S' ∧ I S' ∧ acc.length = c.length ∧ ∀ y ∈ acc, Q y := by
  have key : ∀ (n i : Nat) (acc : List Vl) (S : Sto), I S → i + n = c.length → acc.length = i → (∀ y ∈ acc, Q y) → ∃ acc' S', lcl (.st c) env0 mg mt me n i acc S = .ok (.new acc') S' ∧ I S' ∧ acc'.length = c.length ∧ ∀ y ∈ acc', Q y := by
    intro n
    induction n with
    | zero =>
      intro i acc S hS hi ha hq
      have e : Src.stop (.st c) S i = true := decide_eq_true (by omega)
      exact ⟨acc, S, by rw [lcl, if_pos e], hS, by omega, hq⟩
    | succ n ih =>
      intro i acc S hS hi ha hq
      have hlt : i < c.length := by omega
      have e : Src.at (.st c) S i = some c[i] := List.getElem?_eq_getElem hlt
      obtain ⟨env2, y, S', h1, h2, h3, h4, h5⟩ := h c[i] (List.getElem_mem hlt) S hS
      rw [lcl, e]
      simp only [h1, h2, h3]
      rw [if_pos (by omega)]
      refine ih (i + 1) (acc ++ [y]) S' h4 (by omega) (by simp; omega) fun z hz => ?_
      rcases List.mem_append.mp hz with hz | hz
      · exact hq z hz
      · rw [List.mem_singleton.mp hz]; exact h5
  exact key c.length 0 [] S hS (by omega) rfl (fun _ h => by cases h)
end Bk
/-! text V68 -/
set_option Elab.async false
set_option linter.all false
set_option maxRecDepth 100000
set_option maxHeartbeats 4000000
set_option autoImplicit false
namespace Qk68
open PySem PySem.Spec Bk
/-! ### data without dicts, of small ints -/
mutual
def okD : PyData → Bool
  | .dict _ => false
  | .int i => decide (i.natAbs < 2 ^ 64)
  | .list ds => okDs ds
  | .tuple ds => okDs ds
  | _ => true
def okDs : List PyData → Bool
  | [] => true
  | d :: r => okD d && okDs r
end
theorem okDs_mem : ∀ {ds : List PyData} {d : PyData}, okDs ds = true → d ∈ ds → okD d = true
  | e :: r, d, h, m => by
    rw [okDs, Bool.and_eq_true] at h
    rcases List.mem_cons.mp m with z | z
    · rw [z]; exact h.1
    · exact okDs_mem h.2 z
theorem log2_small {n : Nat} (h : n < 2 ^ 64) : n.log2 < 64 := by
  by_cases z : n = 0
  · subst z; decide
  · exact (Nat.log2_lt z).mpr h
theorem mulC_small {i j : Int} (h1 : i.natAbs < 2 ^ 64) (h2 : j.natAbs < 2 ^ 64) : mulC i j = true := by
  have a := log2_small h1
  have b := log2_small h2
  exact decide_eq_true (by omega)
/-! ### all of a list of answers -/
theorem bools_dat {α : Type} (l : List α) (p : α → Bool) : (l.map fun d => Vl.dat (.bool (p d))) = (l.map fun d => PyData.bool (p d)).map Vl.dat := by simp
@[simp] theorem argw_newb {α : Type} (l : List α) (p : α → Bool) (S : Sto) : argw (.new (l.map fun d => Vl.dat (.bool (p d)))) S = some (.dat (.list (l.map fun d => .bool (p d))), S) := by
  rw [bools_dat, argw_new]
@[simp] theorem allV_b {α : Type} (f : List Bool → Bool) (l : List α) (p : α → Bool) (S : Sto) : allV f [.dat (.list (l.map fun d => .bool (p d)))] S = some (.val (.dat (.bool (f (l.map p)))), S) := by
  have e : (List.map Vl.dat (l.map fun d => PyData.bool (p d))) = (l.map p).map fun b => Vl.dat (.bool b) := by simp
  have e2 := boolsOf_map (l.map p)
  rw [← e] at e2
  simp only [allV, lsOf, Option.bind_some, e2, Option.map_some]
theorem all_map (ds : List PyData) (env0 : Ev) (mg : MG) (mt : MT) (me : MW) (S : Sto) (p : PyData → Bool) (h : ∀ d ∈ ds, ∃ env2, mg (.dat d) env0 S = .next env2 S ∧ mt env2 S = .ok true S ∧ me env2 S = .ok (.dat (.bool (p d))) S) (hz : ds.length < 1000000) :
    lcl (.st (ds.map .dat)) env0 mg mt me ds.length 0 [] S = .ok (.new (ds.map fun d => .dat (.bool (p d)))) S := by
  have z := lcl_map (ds.map .dat) env0 mg mt me S (fun w => match w with
    | .dat d => some (.dat (.bool (p d)))
    | _ => none) (fun w hw => by
      obtain ⟨d, hd, rfl⟩ := List.mem_map.mp hw
      obtain ⟨env2, a, b, c⟩ := h d hd
      exact ⟨env2, a, .inl ⟨_, rfl, b, c⟩⟩) (by simpa using hz)
  rw [List.length_map] at z
  rw [z]
  have e : ∀ l : List PyData, (l.map Vl.dat).filterMap (fun w => match w with
    | .dat d => some (.dat (.bool (p d)))
    | _ => none) = l.map fun d => Vl.dat (.bool (p d)) := by
    intro l
    induction l with
    | nil => rfl
    | cons d r ih => rw [List.map_cons, List.filterMap_cons, ih]; rfl
  rw [e]
/-! ### checks -/
def isIntD : PyData → Bool
  | .int _ => true
  | _ => false
def tupLen (d : PyData) (lo hi : Int) : Bool := match d with
  | .tuple ds => decide (lo ≤ ds.length) && decide ((ds.length : Int) ≤ hi)
  | _ => false
def fracB : PyData → Bool
  | .tuple [.int a, .int b] => decide (1 ≤ b) && decide (Nat.gcd a.natAbs b.natAbs = 1)
  | _ => false
theorem tup2 {d : PyData} (q : tupLen d 2 2 = true) : ∃ x y, d = .tuple [x, y] := by
  unfold tupLen at q
  split at q
  · rename_i ds
    simp at q
    match ds, q with
    | [x, y], _ => exact ⟨x, y, rfl⟩
    | [], q => simp at q
    | [_], q => simp at q
    | _ :: _ :: _ :: r, q => simp at q; omega
  · cases q
theorem ev_is_integer (d : PyData) (S : Sto) (h : okD d = true) : F_is_integer [.dat d] S = .ok (.val (.dat (.bool (isIntD d)))) S := by
  cases d with
  | dict _ => simp [okD] at h
  | _ => simp [F_is_integer, m_is_integer, trimF, ev0, tyName, isB, isIntD, Rv.cl, Vl.cl]
theorem ev_is_below (a b c d : Int) (S : Sto) (h1 : mulC a d = true) (h2 : mulC c b = true) : F_is_below [.dat (.tuple [.int a, .int b]), .dat (.tuple [.int c, .int d])] S = .ok (.val (.dat (.bool (decide (a * d < c * b))))) S := by
  simp [F_is_below, m_is_below, trimF, ev0, ixV, itemsOf, L2.atI, L2.ixN, imul, ilt, h1, h2, Rv.cl, Vl.cl]
theorem ev_is_tuple (d : PyData) (lo hi : Int) (S : Sto) (h : okD d = true) : F_is_tuple [.dat d, .dat (.int lo), .dat (.int hi)] S = .ok (.val (.dat (.bool (tupLen d lo hi)))) S := by
  cases d with
  | dict _ => simp [okD] at h
  | tuple ds =>
    by_cases q : lo ≤ ds.length
    · simp [F_is_tuple, m_is_tuple, trimF, ev0, tyName, isB, tupLen, lenV, itemsOf, ile, Rv.cl, Vl.cl, q]
    · simp [F_is_tuple, m_is_tuple, trimF, ev0, tyName, isB, tupLen, lenV, itemsOf, ile, Rv.cl, Vl.cl, q]
  | _ => simp [F_is_tuple, m_is_tuple, trimF, ev0, tyName, isB, tupLen, Rv.cl, Vl.cl]
theorem ev_is_fraction (d : PyData) (S : Sto) (h : okD d = true) : F_is_fraction [.dat d] S = .ok (.val (.dat (.bool (fracB d)))) S := by
  by_cases q : tupLen d 2 2 = true
  · obtain ⟨x, y, rfl⟩ := tup2 q
    · have hx : okD x = true := okDs_mem (by simpa [okD] using h) List.mem_cons_self
      have hy : okD y = true := okDs_mem (by simpa [okD] using h) (List.mem_cons_of_mem _ List.mem_cons_self)
      have e1 := ev_is_integer x S hx
      have e2 := ev_is_integer y S hy
      have e0 := ev_is_tuple (.tuple [x, y]) 2 2 S h
      rw [q] at e0
      cases x with
      | int a =>
        cases y with
        | int b =>
          by_cases hb : 1 ≤ b
          · simp [F_is_fraction, m_is_fraction, trimF, ev0, e0, e1, e2, isIntD, ixV, itemsOf, L2.atI, L2.ixN, ige, gcdV, eqv, fracB, Rv.cl, Vl.cl, hb, PyData.eqv, SeqAt.shaped, PyData.canLay0, PyData.depth]
            by_cases z : a.natAbs.gcd b.natAbs = 1
            · simp [z]
            · have : ((a.natAbs.gcd b.natAbs : Nat) : Int) ≠ 1 := by omega
              simp [z, this]
          · simp [F_is_fraction, m_is_fraction, trimF, ev0, e0, e1, e2, isIntD, ixV, itemsOf, L2.atI, L2.ixN, ige, gcdV, eqv, fracB, Rv.cl, Vl.cl, hb]
        | _ => simp [F_is_fraction, m_is_fraction, trimF, ev0, e0, e1, e2, isIntD, ixV, itemsOf, L2.atI, L2.ixN, fracB, Rv.cl, Vl.cl]
      | _ => simp [F_is_fraction, m_is_fraction, trimF, ev0, e0, e1, e2, isIntD, ixV, itemsOf, L2.atI, L2.ixN, fracB, Rv.cl, Vl.cl]
  · have q : tupLen d 2 2 = false := by simpa using q
    have e0 := ev_is_tuple d 2 2 S h
    rw [q] at e0
    have z : fracB d = false := by
      unfold fracB
      split
      · simp [tupLen] at q
      · rfl
    simp [F_is_fraction, m_is_fraction, trimF, ev0, e0, z, Rv.cl, Vl.cl]
def posB (d : PyData) : Bool := fracB d && (match d with
  | .tuple [.int a, _] => decide (0 < a)
  | _ => false)
theorem ev_is_positive (d : PyData) (S : Sto) (h : okD d = true) : F_is_positive [.dat d] S = .ok (.val (.dat (.bool (posB d)))) S := by
  have e1 := ev_is_fraction d S h
  cases q : fracB d with
  | false => simp [F_is_positive, m_is_positive, trimF, ev0, e1, q, posB, Rv.cl, Vl.cl]
  | true =>
    unfold fracB at q
    split at q
    · rename_i a b
      have q' : fracB (.tuple [.int a, .int b]) = true := q
      rw [q'] at e1
      simp [F_is_positive, m_is_positive, trimF, ev0, e1, q', posB, ixV, itemsOf, L2.atI, L2.ixN, igt, Rv.cl, Vl.cl]
    · cases q
def ltB (x y : PyData) : Bool := match x, y with
  | .tuple [.int a, .int b], .tuple [.int c, .int d] => decide (a * d < c * b)
  | _, _ => false
theorem frac_cases {d : PyData} (h : fracB d = true) : ∃ a b, d = .tuple [.int a, .int b] ∧ 1 ≤ b ∧ Nat.gcd a.natAbs b.natAbs = 1 := by
  unfold fracB at h
  split at h
  · rename_i a b
    simp at h
    exact ⟨a, b, rfl, h.1, h.2⟩
  · cases h
theorem ok_frac {a b : Int} (h : okD (.tuple [.int a, .int b]) = true) : a.natAbs < 2 ^ 64 ∧ b.natAbs < 2 ^ 64 := by
  simp [okD, okDs] at h
  exact h
theorem ev_lt (x y : PyData) (S : Sto) (hx : fracB x = true) (hy : fracB y = true) (ox : okD x = true) (oy : okD y = true) : F_is_below [.dat x, .dat y] S = .ok (.val (.dat (.bool (ltB x y)))) S := by
  obtain ⟨a, b, rfl, _, _⟩ := frac_cases hx
  obtain ⟨c, d, rfl, _, _⟩ := frac_cases hy
  obtain ⟨a1, a2⟩ := ok_frac ox
  obtain ⟨b1, b2⟩ := ok_frac oy
  exact ev_is_below a b c d S (mulC_small a1 b2) (mulC_small b1 a2)
theorem cut1 {α : Type} (xs : List α) : cutG xs (some 1) none = xs.tail := by
  unfold cutG HT.sIx
  cases xs with
  | nil => simp
  | cons a r => simp
def growB : List PyData → Bool
  | [] => true
  | [_] => true
  | x :: y :: r => ltB x y && growB (y :: r)

theorem zip_mem {xs ys : List PyData} {d : PyData} (h : d ∈ zipD xs ys) : ∃ x y, x ∈ xs ∧ y ∈ ys ∧ d = .tuple [x, y] := by
  obtain ⟨i, hi⟩ := List.mem_iff_getElem?.mp h
  obtain ⟨x, y, a, b, e⟩ := zipD_get hi
  exact ⟨x, y, List.mem_of_getElem? a, List.mem_of_getElem? b, e⟩
def pairB (d : PyData) : Bool := match d with
  | .tuple [x, y] => ltB x y
  | _ => false
theorem grow_zip : ∀ ds : List PyData, (zipD ds ds.tail).all pairB = growB ds
  | [] => rfl
  | [_] => rfl
  | x :: y :: r => by
    have ih := grow_zip (y :: r)
    show (pairB (.tuple [x, y]) && (zipD (y :: r) (y :: r).tail).all pairB) = _
    rw [ih]
    rfl
theorem ev_are_growing (ds : List PyData) (S : Sto) (h : okDs ds = true) (hf : ∀ d ∈ ds, fracB d = true) (hz : ds.length < 1000) : F_are_growing [.dat (.tuple ds)] S = .ok (.val (.dat (.bool (growB ds)))) S := by
  have e : ∀ env0 : Ev, env0.length = 3 → lcl (.st ((zipD ds (ds.tail)).map .dat)) env0 (mgtup 2 (mgcons (mgN 1) (mgcons (mgN 2) mgnil))) myes (mw (mcall 2 F_is_below (mcons (mVar 1) (mcons (mVar 2) mnil)))) (zipD ds (ds.tail)).length 0 [] S = .ok (.new ((zipD ds (ds.tail)).map fun d => .dat (.bool (pairB d)))) S := by
    intro env0 hl
    match env0, hl with
    | [a, b, c], _ =>
      refine all_map _ _ _ _ _ S pairB (fun d hd => ?_) (by unfold zipD; rw [List.length_zipWith]; omega)
      obtain ⟨x, y, hx, hy, rfl⟩ := zip_mem hd
      have hy := List.mem_of_mem_tail hy
      exact ⟨[a, some (.dat x), some (.dat y)], by simp [itemsOf], rfl, by simp [ev_lt x y S (hf x hx) (hf y hy) (okDs_mem h hx) (okDs_mem h hy), pairB]⟩
  simp [F_are_growing, m_are_growing, trimF, ev0, slV, cut1, tsD, wipeE, e, Rv.cl, Vl.cl, ← grow_zip]

theorem okD_tup {ds : List PyData} (h : okD (.tuple ds) = true) : okDs ds = true := by simpa [okD] using h
theorem all_id_map {α : Type} (l : List α) (p : α → Bool) : (l.map p).all id = l.all p := by simp [List.all_map, Function.comp_def]
abbrev zeroD : PyData := .tuple [.int 0, .int 1]
abbrev oneD : PyData := .tuple [.int 1, .int 1]
theorem zero_ok : fracB zeroD = true ∧ okD zeroD = true := by decide
theorem one_ok : fracB oneD = true ∧ okD oneD = true := by decide
def inB (c : PyData) : Bool := ltB zeroD c && ltB c oneD
def cutsB (d : PyData) : Bool := match d with
  | .tuple ds => decide (ds.length ≤ 5) && (ds.all fracB && (growB ds && ds.all inB))
  | _ => false
theorem ev_are_cuts (d : PyData) (S : Sto) (h : okD d = true) : F_are_cuts [.dat d] S = .ok (.val (.dat (.bool (cutsB d)))) S := by
  have e0 := ev_is_tuple d 0 5 S h
  cases q : tupLen d 0 5 with
  | false =>
    rw [q] at e0
    have z : cutsB d = false := by
      unfold cutsB
      split
      · rename_i ds
        simp [tupLen] at q
        simp; omega
      · rfl
    simp [F_are_cuts, m_are_cuts, trimF, ev0, k_MOST_CUTS, e0, z, Rv.cl, Vl.cl]
  | true =>
    rw [q] at e0
    cases d with
    | tuple ds =>
      have hl : ds.length ≤ 5 := by simp [tupLen] at q; omega
      have hds := okD_tup h
      have e1 : ∀ env0 : Ev, env0.length = 2 → lcl (.st (ds.map .dat)) env0 (mgN 1) myes (mw (mcall 1 F_is_fraction (mcons (mVar 1) mnil))) ds.length 0 [] S = .ok (.new (ds.map fun d => .dat (.bool (fracB d)))) S := by
        intro env0 hl'
        match env0, hl' with
        | [a, b], _ => exact all_map _ _ _ _ _ S fracB (fun d hd => ⟨[a, some (.dat d)], rfl, rfl, by simp [ev_is_fraction d S (okDs_mem hds hd)]⟩) (by omega)
      cases qf : ds.all fracB with
      | false => simp [F_are_cuts, m_are_cuts, trimF, ev0, k_MOST_CUTS, e0, e1, srcOf, wipeE, all_id_map, qf, cutsB, Rv.cl, Vl.cl]
      | true =>
        have hf : ∀ d ∈ ds, fracB d = true := fun d hd => List.all_eq_true.mp qf d hd
        have e2 := ev_are_growing ds S hds hf (by omega)
        have e3 : ∀ env0 : Ev, env0.length = 2 → lcl (.st (ds.map .dat)) env0 (mgN 1) myes (mandV (mw (mcall 2 F_is_below (mcons (mC k_ZERO) (mcons (mVar 1) mnil)))) (mw (mcall 2 F_is_below (mcons (mVar 1) (mcons (mC k_ONE) mnil))))) ds.length 0 [] S = .ok (.new (ds.map fun d => .dat (.bool (inB d)))) S := by
          intro env0 hl'
          match env0, hl' with
          | [a, b], _ => exact all_map _ _ _ _ _ S inB (fun d hd => ⟨[a, some (.dat d)], rfl, rfl, by
              have a1 := ev_lt zeroD d S zero_ok.1 (hf d hd) zero_ok.2 (okDs_mem hds hd)
              have a2 := ev_lt d oneD S (hf d hd) one_ok.1 (okDs_mem hds hd) one_ok.2
              cases z : ltB zeroD d <;> simp [k_ZERO, k_ONE, a1, a2, z, inB]⟩) (by omega)
        cases qg : growB ds <;> simp [F_are_cuts, m_are_cuts, trimF, ev0, k_MOST_CUTS, e0, e1, e2, e3, srcOf, wipeE, all_id_map, qf, qg, hl, cutsB, Rv.cl, Vl.cl]
    | _ => simp [tupLen] at q
def speedsB (d : PyData) (n : Int) : Bool := match d with
  | .tuple ds => decide ((ds.length : Int) = n) && ds.all posB
  | _ => false
theorem ev_are_speeds (d : PyData) (n : Int) (S : Sto) (h : okD d = true) (hn : n ≤ 100) : F_are_speeds [.dat d, .dat (.int n)] S = .ok (.val (.dat (.bool (speedsB d n)))) S := by
  have e0 := ev_is_tuple d n n S h
  cases q : tupLen d n n with
  | false =>
    rw [q] at e0
    have z : speedsB d n = false := by
      unfold speedsB
      split
      · rename_i ds
        simp [tupLen] at q
        simp; omega
      · rfl
    simp [F_are_speeds, m_are_speeds, trimF, ev0, e0, z, Rv.cl, Vl.cl]
  | true =>
    rw [q] at e0
    cases d with
    | tuple ds =>
      have hl : (ds.length : Int) = n := by simp [tupLen] at q; omega
      have hds := okD_tup h
      have e1 : ∀ env0 : Ev, env0.length = 3 → lcl (.st (ds.map .dat)) env0 (mgN 2) myes (mw (mcall 1 F_is_positive (mcons (mVar 2) mnil))) ds.length 0 [] S = .ok (.new (ds.map fun d => .dat (.bool (posB d)))) S := by
        intro env0 hl'
        match env0, hl' with
        | [a, b, c], _ => exact all_map _ _ _ _ _ S posB (fun d hd => ⟨[a, b, some (.dat d)], rfl, rfl, by simp [ev_is_positive d S (okDs_mem hds hd)]⟩) (by omega)
      simp [F_are_speeds, m_are_speeds, trimF, ev0, e0, e1, srcOf, wipeE, all_id_map, speedsB, hl, Rv.cl, Vl.cl]
    | _ => simp [tupLen] at q

def brigB (d : PyData) : Bool := match d with
  | .tuple [c, p] => cutsB c && (match c, p with
    | .tuple cs, .tuple ps => decide (1 ≤ ps.length) && (decide (ps.length ≤ 5) && ps.all fun sp => speedsB sp ((cs.length : Int) + 1))
    | _, _ => false)
  | _ => false
theorem okDs2 {x y : PyData} (h : okD (.tuple [x, y]) = true) : okD x = true ∧ okD y = true := by
  simpa [okD, okDs] using h
theorem cuts_tup {c : PyData} (h : cutsB c = true) : ∃ cs, c = .tuple cs ∧ cs.length ≤ 5 := by
  unfold cutsB at h
  split at h
  · rename_i ds
    simp at h
    exact ⟨ds, rfl, h.1⟩
  · cases h
theorem ev_is_a_brigade (d : PyData) (S : Sto) (h : okD d = true) : F_is_a_brigade [.dat d] S = .ok (.val (.dat (.bool (brigB d)))) S := by
  have e0 := ev_is_tuple d 2 2 S h
  cases q : tupLen d 2 2 with
  | false =>
    rw [q] at e0
    have z : brigB d = false := by
      unfold brigB
      split
      · simp [tupLen] at q
      · rfl
    simp [F_is_a_brigade, m_is_a_brigade, trimF, ev0, k_MOST_PEOPLE_brigades, e0, z, Rv.cl, Vl.cl]
  | true =>
    rw [q] at e0
    obtain ⟨c, p, rfl⟩ := tup2 q
    obtain ⟨oc, op⟩ := okDs2 h
    have e1 := ev_are_cuts c S oc
    cases qc : cutsB c with
    | false => simp [F_is_a_brigade, m_is_a_brigade, trimF, ev0, k_MOST_PEOPLE_brigades, e0, e1, qc, ixV, itemsOf, L2.atI, L2.ixN, brigB, Rv.cl, Vl.cl]
    | true =>
      obtain ⟨cs, rfl, hcl⟩ := cuts_tup qc
      have e2 := ev_is_tuple p 1 5 S op
      cases q2 : tupLen p 1 5 with
      | false =>
        rw [q2] at e2
        have z : brigB (.tuple [.tuple cs, p]) = false := by
          cases p with
          | tuple ps =>
            simp [tupLen] at q2
            simp [brigB, qc]
            intro h1 h2; omega
          | _ => simp [brigB]
        simp [F_is_a_brigade, m_is_a_brigade, trimF, ev0, k_MOST_PEOPLE_brigades, e0, e1, e2, qc, ixV, itemsOf, L2.atI, L2.ixN, z, Rv.cl, Vl.cl]
      | true =>
        rw [q2] at e2
        cases p with
        | tuple ps =>
          have hps := okD_tup op
          simp [tupLen] at q2
          have e3 : ∀ env0 : Ev, env0.length = 2 → env0[0]? = some (some (.dat (.tuple [.tuple cs, .tuple ps]))) → lcl (.st (ps.map .dat)) env0 (mgN 1) myes (mw (mcall 2 F_are_speeds (mcons (mVar 1) (mcons (mw (m2 (mw (mN (mcons (mw (m2 (mVar 0) (mC (.int 0)) ixV)) mnil) lenV)) (mC (.int 1)) addV)) mnil)))) ps.length 0 [] S = .ok (.new (ps.map fun d => .dat (.bool (speedsB d ((cs.length : Int) + 1))))) S := by
            intro env0 hl' h0
            match env0, hl', h0 with
            | [a, b], _, h0 =>
              simp at h0
              subst h0
              exact all_map _ _ _ _ _ S (fun d => speedsB d ((cs.length : Int) + 1)) (fun d hd => ⟨[_, some (.dat d)], rfl, rfl, by
                have z := ev_are_speeds d ((cs.length : Int) + 1) S (okDs_mem hps hd) (by omega)
                simp [z, ixV, itemsOf, L2.atI, L2.ixN, lenV, addV]⟩) (by omega)
          have z : brigB (.tuple [.tuple cs, .tuple ps]) = ps.all fun sp => speedsB sp ((cs.length : Int) + 1) := by
            have a1 : decide (1 ≤ ps.length) = true := by simp; omega
            have a2 : decide (ps.length ≤ 5) = true := by simp; omega
            simp only [brigB, qc, a1, a2, Bool.true_and]
          simp [F_is_a_brigade, m_is_a_brigade, trimF, ev0, k_MOST_PEOPLE_brigades, e0, e1, e2, e3, qc, ixV, itemsOf, L2.atI, L2.ixN, srcOf, wipeE, all_id_map, z, Rv.cl, Vl.cl]
        | _ => simp [tupLen] at q2
def placeB (d : PyData) : Bool := fracB d && (!ltB d zeroD && !ltB oneD d)
theorem ev_is_place (d : PyData) (S : Sto) (h : okD d = true) : F_is_place [.dat d] S = .ok (.val (.dat (.bool (placeB d)))) S := by
  have e1 := ev_is_fraction d S h
  cases q : fracB d with
  | false => simp [F_is_place, m_is_place, trimF, ev0, e1, q, placeB, Rv.cl, Vl.cl]
  | true =>
    have a1 := ev_lt d zeroD S q zero_ok.1 h zero_ok.2
    have a2 := ev_lt oneD d S one_ok.1 q one_ok.2 h
    cases z1 : ltB d zeroD <;> simp [F_is_place, m_is_place, trimF, ev0, k_ZERO, k_ONE, e1, q, a1, a2, z1, placeB, Rv.cl, Vl.cl]
def pairR (d : PyData) : Bool := match d with
  | .tuple [x, y] => ltB y x
  | _ => false
def placesB (d : PyData) : Bool := match d with
  | .tuple ds => decide (1 ≤ ds.length) && (decide (ds.length ≤ 5) && (ds.all placeB && !(zipD ds ds.tail).any pairR))
  | _ => false
theorem ev_are_any_places (d : PyData) (S : Sto) (h : okD d = true) : F_are_any_places [.dat d] S = .ok (.val (.dat (.bool (placesB d)))) S := by
  have e0 := ev_is_tuple d 1 5 S h
  cases q : tupLen d 1 5 with
  | false =>
    rw [q] at e0
    have z : placesB d = false := by
      unfold placesB
      split
      · rename_i ds
        simp [tupLen] at q
        simp
        intro h1 h2; omega
      · rfl
    simp [F_are_any_places, m_are_any_places, trimF, ev0, k_MOST_PEOPLE_rescales, e0, z, Rv.cl, Vl.cl]
  | true =>
    rw [q] at e0
    cases d with
    | tuple ds =>
      have hds := okD_tup h
      have q' := q
      simp [tupLen] at q'
      have a1 : decide (1 ≤ ds.length) = true := by simp; omega
      have a2 : decide (ds.length ≤ 5) = true := by simp; omega
      have e1 : ∀ env0 : Ev, env0.length = 4 → lcl (.st (ds.map .dat)) env0 (mgN 1) myes (mw (mcall 1 F_is_place (mcons (mVar 1) mnil))) ds.length 0 [] S = .ok (.new (ds.map fun d => .dat (.bool (placeB d)))) S := by
        intro env0 hl'
        match env0, hl' with
        | [a, b, c, e], _ => exact all_map _ _ _ _ _ S placeB (fun d hd => ⟨[a, some (.dat d), c, e], rfl, rfl, by simp [ev_is_place d S (okDs_mem hds hd)]⟩) (by omega)
      cases qf : ds.all placeB with
      | false =>
        have z : placesB (.tuple ds) = false := by simp only [placesB, qf, Bool.false_and, Bool.and_false]
        simp [F_are_any_places, m_are_any_places, trimF, ev0, k_MOST_PEOPLE_rescales, e0, e1, srcOf, wipeE, all_id_map, qf, z, Rv.cl, Vl.cl]
      | true =>
        have hf : ∀ d ∈ ds, fracB d = true := fun d hd => by
          have := List.all_eq_true.mp qf d hd
          unfold placeB at this
          exact (Bool.and_eq_true_iff.mp this).1
        have e3 : ∀ env0 : Ev, env0.length = 4 → lcl (.st ((zipD ds ds.tail).map .dat)) env0 (mgtup 2 (mgcons (mgN 2) (mgcons (mgN 3) mgnil))) myes (mw (mcall 2 F_is_below (mcons (mVar 3) (mcons (mVar 2) mnil)))) (zipD ds ds.tail).length 0 [] S = .ok (.new ((zipD ds ds.tail).map fun d => .dat (.bool (pairR d)))) S := by
          intro env0 hl
          match env0, hl with
          | [a, b, c, e], _ =>
            refine all_map _ _ _ _ _ S pairR (fun d hd => ?_) (by unfold zipD; rw [List.length_zipWith]; omega)
            obtain ⟨x, y, hx, hy, rfl⟩ := zip_mem hd
            have hy := List.mem_of_mem_tail hy
            exact ⟨[a, b, some (.dat x), some (.dat y)], by simp [itemsOf], rfl, by simp [ev_lt y x S (hf y hy) (hf x hx) (okDs_mem hds hy) (okDs_mem hds hx), pairR]⟩
        have z : placesB (.tuple ds) = !(zipD ds ds.tail).any pairR := by simp only [placesB, qf, a1, a2, Bool.true_and]
        simp [F_are_any_places, m_are_any_places, trimF, ev0, k_MOST_PEOPLE_rescales, e0, e1, e3, srcOf, slV, cut1, tsD, wipeE, all_id_map, qf, z, Rv.cl, Vl.cl]
    | _ => simp [tupLen] at q

def lenD : PyData → Nat
  | .tuple ds => ds.length
  | _ => 0
def walkersB (d : PyData) : Bool := match d with
  | .tuple [b, k] => brigB b && (match b with
    | .tuple [c, p] => brigB (.tuple [c, k]) && decide (lenD k = lenD p)
    | _ => false)
  | _ => false
theorem brig_cases {d : PyData} (h : brigB d = true) : ∃ cs ps, d = .tuple [.tuple cs, .tuple ps] ∧ 1 ≤ ps.length ∧ ps.length ≤ 5 := by
  unfold brigB at h
  split at h
  · rename_i c p
    obtain ⟨h1, h2⟩ := Bool.and_eq_true_iff.mp h
    split at h2
    · rename_i cs ps
      simp at h2
      exact ⟨cs, ps, rfl, h2.1, h2.2.1⟩
    · cases h2
  · cases h
theorem ev_are_walkers (d : PyData) (S : Sto) (h : okD d = true) : F_are_walkers [.dat d] S = .ok (.val (.dat (.bool (walkersB d)))) S := by
  have e0 := ev_is_tuple d 2 2 S h
  cases q : tupLen d 2 2 with
  | false =>
    rw [q] at e0
    have z : walkersB d = false := by
      unfold walkersB
      split
      · simp [tupLen] at q
      · rfl
    simp [F_are_walkers, m_are_walkers, trimF, ev0, e0, z, Rv.cl, Vl.cl]
  | true =>
    rw [q] at e0
    obtain ⟨b, k, rfl⟩ := tup2 q
    obtain ⟨ob, ok⟩ := okDs2 h
    have e1 := ev_is_a_brigade b S ob
    cases qb : brigB b with
    | false => simp [F_are_walkers, m_are_walkers, trimF, ev0, e0, e1, qb, ixV, itemsOf, L2.atI, L2.ixN, walkersB, Rv.cl, Vl.cl]
    | true =>
      obtain ⟨cs, ps, rfl, hp⟩ := brig_cases qb
      obtain ⟨oc, op⟩ := okDs2 ob
      have ock : okD (.tuple [.tuple cs, k]) = true := by simpa [okD, okDs] using ⟨by simpa [okD] using oc, ok⟩
      have e2 := ev_is_a_brigade (.tuple [.tuple cs, k]) S ock
      cases qk : brigB (.tuple [.tuple cs, k]) with
      | false => simp [F_are_walkers, m_are_walkers, trimF, ev0, e0, e1, e2, qb, qk, ixV, itemsOf, L2.atI, L2.ixN, walkersB, toDats, Rv.cl, Vl.cl]
      | true =>
        obtain ⟨cs', ks, e, hk⟩ := brig_cases qk
        simp at e
        obtain ⟨_, rfl⟩ := e
        by_cases hl : ks.length = ps.length
        · simp [F_are_walkers, m_are_walkers, trimF, ev0, e0, e1, e2, qb, qk, ixV, itemsOf, L2.atI, L2.ixN, walkersB, toDats, lenV, lenD, eqv, hl, SeqAt.shaped, PyData.canLay0, PyData.depth, PyData.eqv, Rv.cl, Vl.cl]
        · have hl' : ¬ ((ks.length : Int) = ps.length) := by omega
          simp [F_are_walkers, m_are_walkers, trimF, ev0, e0, e1, e2, qb, qk, ixV, itemsOf, L2.atI, L2.ixN, walkersB, toDats, lenV, lenD, eqv, hl, hl', SeqAt.shaped, PyData.canLay0, PyData.depth, PyData.eqv, Rv.cl, Vl.cl]
/-! ### stands -/
theorem dat_map (ds : List PyData) (env0 : Ev) (mg : MG) (mt : MT) (me : MW) (S : Sto) (p : PyData → PyData) (h : ∀ d ∈ ds, ∃ env2, mg (.dat d) env0 S = .next env2 S ∧ mt env2 S = .ok true S ∧ me env2 S = .ok (.dat (p d)) S) (hz : ds.length < 1000000) :
    lcl (.st (ds.map .dat)) env0 mg mt me ds.length 0 [] S = .ok (.new ((ds.map p).map .dat)) S := by
  have z := lcl_map (ds.map .dat) env0 mg mt me S (fun w => match w with
    | .dat d => some (.dat (p d))
    | _ => none) (fun w hw => by
      obtain ⟨d, hd, rfl⟩ := List.mem_map.mp hw
      obtain ⟨env2, a, b, c⟩ := h d hd
      exact ⟨env2, a, .inl ⟨_, rfl, b, c⟩⟩) (by simpa using hz)
  rw [List.length_map] at z
  rw [z]
  have e : ∀ l : List PyData, (l.map Vl.dat).filterMap (fun w => match w with
    | .dat d => some (.dat (p d))
    | _ => none) = (l.map p).map Vl.dat := by
    intro l
    induction l with
    | nil => rfl
    | cons d r ih => rw [List.map_cons, List.filterMap_cons, ih]; rfl
  rw [e]
def wordB : PyData → Bool
  | .str x => ("ahead" : Str) == x || (("back" : Str) == x || false)
  | _ => false
theorem ev_is_word (d : PyData) (S : Sto) (h : okD d = true) : F_is_word [.dat d, .dat (.list [.str "ahead", .str "back"])] S = .ok (.val (.dat (.bool (wordB d)))) S := by
  cases d with
  | dict _ => simp [okD] at h
  | str x => simp [F_is_word, m_is_word, trimF, ev0, tyName, isB, wordB, inV, flV, flD, flVs, itemsOf, L2.inV, L2.eqV, Rv.cl, Vl.cl]
  | _ => simp [F_is_word, m_is_word, trimF, ev0, tyName, isB, wordB, Rv.cl, Vl.cl]
def fstD : PyData → PyData
  | .tuple [x, _] => x
  | d => d
def sndD : PyData → PyData
  | .tuple [_, y] => y
  | d => d
def standsB (many : Int) (d : PyData) : Bool := match d with
  | .tuple ds => decide ((ds.length : Int) = many) && (ds.all (fun d => tupLen d 2 2) && (ds.all (fun d => wordB (sndD d)) && placesB (.tuple (ds.map fstD))))
  | _ => false
theorem okDs_of : ∀ {ds : List PyData}, (∀ d ∈ ds, okD d = true) → okDs ds = true
  | [], _ => rfl
  | d :: r, h => by
    rw [okDs, h d List.mem_cons_self, okDs_of fun x hx => h x (List.mem_cons_of_mem _ hx)]; rfl
theorem ev_are_right_stands (d : PyData) (n : Int) (S : Sto) (h : okD d = true) (hn : n ≤ 100) : F_are_right_stands [.dat (.int n), .dat d] S = .ok (.val (.dat (.bool (standsB n d)))) S := by
  have e0 := ev_is_tuple d n n S h
  cases q : tupLen d n n with
  | false =>
    rw [q] at e0
    have z : standsB n d = false := by
      unfold standsB
      split
      · rename_i ds
        simp [tupLen] at q
        have : ¬ ((ds.length : Int) = n) := by omega
        simp [this]
      · rfl
    simp [F_are_right_stands, m_are_right_stands, trimF, ev0, e0, z, Rv.cl, Vl.cl]
  | true =>
    rw [q] at e0
    cases d with
    | tuple ds =>
      have hl : (ds.length : Int) = n := by simp [tupLen] at q; omega
      have hds := okD_tup h
      have e1 : ∀ env0 : Ev, env0.length = 5 → lcl (.st (ds.map .dat)) env0 (mgN 2) myes (mw (mcall 3 F_is_tuple (mcons (mVar 2) (mcons (mC (.int 2)) (mcons (mC (.int 2)) mnil))))) ds.length 0 [] S = .ok (.new (ds.map fun d => .dat (.bool (tupLen d 2 2)))) S := by
        intro env0 hl'
        match env0, hl' with
        | [a, b, c, d, e], _ => exact all_map _ _ _ _ _ S (fun d => tupLen d 2 2) (fun x hd => ⟨[a, b, some (.dat x), d, e], rfl, rfl, by simp [ev_is_tuple x 2 2 S (okDs_mem hds hd)]⟩) (by omega)
      cases qf : ds.all (fun d => tupLen d 2 2) with
      | false =>
        have z : standsB n (.tuple ds) = false := by simp only [standsB, qf, Bool.false_and, Bool.and_false]
        simp [F_are_right_stands, m_are_right_stands, trimF, ev0, e0, e1, srcOf, wipeE, all_id_map, qf, z, Rv.cl, Vl.cl]
      | true =>
        have hf : ∀ d ∈ ds, ∃ x y, d = .tuple [x, y] ∧ okD x = true ∧ okD y = true := fun d hd => by
          obtain ⟨x, y, e⟩ := tup2 (List.all_eq_true.mp qf d hd)
          have := okDs_mem hds hd
          subst e
          exact ⟨x, y, rfl, okDs2 this⟩
        have e2 : ∀ env0 : Ev, env0.length = 5 → lcl (.st (ds.map .dat)) env0 (mgtup 2 (mgcons (mgN 3) (mgcons (mgN 4) mgnil))) myes (mw (mcall 2 F_is_word (mcons (mVar 4) (mcons (mw (mlst (mcons (mC (.str "ahead")) (mcons (mC (.str "back")) mnil)))) mnil)))) ds.length 0 [] S = .ok (.new (ds.map fun d => .dat (.bool (wordB (sndD d))))) S := by
          intro env0 hl'
          match env0, hl' with
          | [a, b, c, d, e], _ =>
            refine all_map _ _ _ _ _ S (fun d => wordB (sndD d)) (fun z hd => ?_) (by omega)
            obtain ⟨x, y, rfl, ox, oy⟩ := hf z hd
            have w := ev_is_word y S oy
            have aw : argw (.new [Vl.dat (.str "ahead"), Vl.dat (.str "back")]) S = some (.dat (.list [.str "ahead", .str "back"]), S) := rfl
            exact ⟨[a, b, c, some (.dat x), some (.dat y)], by simp [itemsOf], rfl, by simp [aw, w, sndD]⟩
        have e3 : ∀ env0 : Ev, env0.length = 5 → lcl (.st (ds.map .dat)) env0 (mgtup 2 (mgcons (mgN 3) (mgcons (mgN 4) mgnil))) myes (mVar 3) ds.length 0 [] S = .ok (.new ((ds.map fstD).map .dat)) S := by
          intro env0 hl'
          match env0, hl' with
          | [a, b, c, d, e], _ =>
            refine dat_map _ _ _ _ _ S fstD (fun z hd => ?_) (by omega)
            obtain ⟨x, y, rfl, ox, oy⟩ := hf z hd
            exact ⟨[a, b, c, some (.dat x), some (.dat y)], by simp [itemsOf], rfl, by simp [fstD]⟩
        have opl : okD (.tuple (ds.map fstD)) = true := by
          rw [okD]
          refine okDs_of fun x hx => ?_
          obtain ⟨z, hz, rfl⟩ := List.mem_map.mp hx
          obtain ⟨x, y, rfl, ox, oy⟩ := hf z hz
          exact ox
        have e4 := ev_are_any_places (.tuple (ds.map fstD)) S opl
        cases qw : ds.all (fun d => wordB (sndD d)) with
        | false =>
          have z : standsB n (.tuple ds) = false := by simp only [standsB, qf, qw, Bool.false_and, Bool.and_false]
          simp [F_are_right_stands, m_are_right_stands, trimF, ev0, e0, e1, e2, srcOf, wipeE, all_id_map, qf, qw, z, Rv.cl, Vl.cl]
        | true =>
          have a0 : decide ((ds.length : Int) = n) = true := by simpa using hl
          have z : standsB n (.tuple ds) = placesB (.tuple (ds.map fstD)) := by simp only [standsB, qf, qw, a0, Bool.true_and]
          have tv : tupV [.dat (.list (ds.map fstD))] S = some (.val (.dat (.tuple (ds.map fstD))), S) := by
            simp only [tupV, lsOf, Option.bind_some, allDat_map, Option.map_some]
          have av : argw (.new ((ds.map fstD).map Vl.dat)) S = some (.dat (.list (ds.map fstD)), S) := argw_new _ _
          simp only [List.map_map] at e3 av
          simp [F_are_right_stands, m_are_right_stands, trimF, ev0, e0, e1, e2, e3, e4, av, tv, srcOf, wipeE, all_id_map, qf, qw, z, Rv.cl, Vl.cl]
    | _ => simp [tupLen] at q
end Qk68
/-! text W68 -/
set_option Elab.async false
set_option linter.all false
set_option maxRecDepth 100000
set_option maxHeartbeats 4000000
set_option autoImplicit false
namespace Qk68
open PySem PySem.Spec Bk
/-! ### copies -/
/-- depth below n, sequences short -/
def loB : Nat → PyData → Bool
  | 0, _ => false
  | n + 1, .list ds => decide (ds.length < 1000) && ds.all (loB n)
  | n + 1, .tuple ds => decide (ds.length < 1000) && ds.all (loB n)
  | _ + 1, _ => true
theorem ev_anew : ∀ (n : Nat) (d : PyData) (S : Sto), loB n d = true → okD d = true → ∃ r, F_anew n [.dat d] S = .ok r S ∧ argw r S = some (.dat d, S)
  | 0, d, S, h, _ => by simp [loB] at h
  | n + 1, d, S, h, o => by
    have key : ∀ ds : List PyData, (∀ d ∈ ds, loB n d = true) → (∀ d ∈ ds, okD d = true) → ds.length < 1000 → ∀ env0 : Ev, env0.length = 2 → lcl (.st (ds.map .dat)) env0 (mgN 1) myes (mw (mcall 1 (F_anew n) (mcons (mVar 1) mnil))) ds.length 0 [] S = .ok (.new (ds.map .dat)) S := by
      intro ds h1 h2 hl env0 he
      match env0, he with
      | [a, b], _ =>
        have z := dat_map ds [a, b] (mgN 1) myes (mw (mcall 1 (F_anew n) (mcons (mVar 1) mnil))) S (fun d => d) (fun d hd => by
          obtain ⟨r, e1, e2⟩ := ev_anew n d S (h1 d hd) (h2 d hd)
          exact ⟨[a, some (.dat d)], rfl, rfl, by simp [e1, e2]⟩) (by omega)
        rwa [List.map_id'] at z
    cases d with
    | dict _ => simp [okD] at o
    | list ds =>
      simp [loB] at h
      have k := key ds h.2 (fun d hd => okDs_mem (by simpa [okD] using o) hd) h.1
      refine ⟨.new (ds.map .dat), ?_, argw_new _ _⟩
      have cl : Rv.cl S.length (.new (ds.map .dat)) = true := by simp [Rv.cl, Vl.cl]
      simp [F_anew, m_anew, trimF, ev0, tyName, isB, srcOf, wipeE, k, cl]
    | tuple ds =>
      simp [loB] at h
      have k := key ds h.2 (fun d hd => okDs_mem (by simpa [okD] using o) hd) h.1
      refine ⟨.val (.dat (.tuple ds)), ?_, rfl⟩
      have tv : tupV [.dat (.list ds)] S = some (.val (.dat (.tuple ds)), S) := by
        simp only [tupV, lsOf, Option.bind_some, allDat_map, Option.map_some]
      simp [F_anew, m_anew, trimF, ev0, tyName, isB, srcOf, wipeE, k, tv, Rv.cl, Vl.cl]
    | _ => exact ⟨.val _, by simp [F_anew, m_anew, trimF, ev0, tyName, isB, Rv.cl, Vl.cl], rfl⟩
/-! ### what needs -/
theorem ev_need_walkers (d : PyData) (S : Sto) (h : okD d = true) (l : loB 8 d = true) : F_need_walkers [.dat d] S = (if walkersB d then .ok (.val (.dat .none)) S else .exn 3 d S) := by
  have e1 := ev_are_walkers d S h
  obtain ⟨r, a1, a2⟩ := ev_anew 8 d S l h
  cases q : walkersB d with
  | true => simp [F_need_walkers, m_need_walkers, trimF, ev0, e1, q, Rv.cl, Vl.cl]
  | false => simp [F_need_walkers, m_need_walkers, trimF, ev0, e1, q, a1, a2, Rv.cl, Vl.cl]
def manyD : PyData → Int
  | .tuple [_, .tuple ks] => ks.length
  | _ => 0
theorem walk_cases {d : PyData} (h : walkersB d = true) : ∃ b ks, d = .tuple [b, .tuple ks] ∧ ks.length ≤ 5 := by
  unfold walkersB at h
  split at h
  · rename_i b k
    rw [Bool.and_eq_true] at h
    obtain ⟨cs, ps, rfl, _, _⟩ := brig_cases h.1
    have h2 := h.2
    simp only [Bool.and_eq_true] at h2
    obtain ⟨cs', ks, e, _, z⟩ := brig_cases h2.1
    simp at e
    obtain ⟨_, rfl⟩ := e
    exact ⟨_, ks, rfl, z⟩
  · cases h
theorem ev_are_stands (d v : PyData) (S : Sto) (h : okD d = true) (l : loB 8 d = true) (hv : okD v = true) : F_are_stands [.dat d, .dat v] S = (if walkersB d then .ok (.val (.dat (.bool (standsB (manyD d) v)))) S else .exn 3 d S) := by
  have e1 := ev_need_walkers d S h l
  cases q : walkersB d with
  | true =>
    obtain ⟨b, ks, rfl, hk⟩ := walk_cases q
    have e2 := ev_are_right_stands v ks.length S hv (by omega)
    simp [F_are_stands, m_are_stands, trimF, ev0, e1, q, e2, manyD, ixV, itemsOf, L2.atI, L2.ixN, lenV, Rv.cl, Vl.cl]
  | false => simp [F_are_stands, m_are_stands, trimF, ev0, e1, q, Rv.cl, Vl.cl]
/-- what need_stands answers -/
def needS (d v : PyData) : Option (Nat × PyData) := if walkersB d then (if standsB (manyD d) v then none else some (4, v)) else some (3, d)
theorem ev_need_stands (d v : PyData) (S : Sto) (h : okD d = true) (l : loB 8 d = true) (hv : okD v = true) (lv : loB 8 v = true) : F_need_stands [.dat d, .dat v] S = (match needS d v with
  | none => .ok (.val (.dat .none)) S
  | some (k, x) => .exn k x S) := by
  have e1 := ev_need_walkers d S h l
  unfold needS
  cases q : walkersB d with
  | true =>
    obtain ⟨b, ks, rfl, hk⟩ := walk_cases q
    have e2 := ev_are_right_stands v ks.length S hv (by omega)
    obtain ⟨r, a1, a2⟩ := ev_anew 8 v S lv hv
    cases qs : standsB ks.length v with
    | true => simp [F_need_stands, m_need_stands, trimF, ev0, e1, q, e2, qs, manyD, ixV, itemsOf, L2.atI, L2.ixN, lenV, Rv.cl, Vl.cl]
    | false => simp [F_need_stands, m_need_stands, trimF, ev0, e1, q, e2, qs, manyD, ixV, itemsOf, L2.atI, L2.ixN, lenV, a1, a2, Rv.cl, Vl.cl]
  | false => simp [F_need_stands, m_need_stands, trimF, ev0, e1, q, Rv.cl, Vl.cl]
def timeB : PyData → Bool
  | .tuple [.int a, .int b] => fracB (.tuple [.int a, .int b]) && decide (0 ≤ a)
  | _ => false
theorem ev_need_time (d : PyData) (S : Sto) (h : okD d = true) (l : loB 8 d = true) : F_need_time [.dat d] S = (if timeB d then .ok (.val (.dat .none)) S else .exn 2 d S) := by
  have e1 := ev_is_fraction d S h
  obtain ⟨r, a1, a2⟩ := ev_anew 8 d S l h
  cases q : fracB d with
  | true =>
    obtain ⟨a, b, rfl, hb, _⟩ := frac_cases q
    obtain ⟨o1, o2⟩ := ok_frac h
    have e2 := ev_is_below a b 0 1 S (mulC_small o1 (by decide)) (mulC_small (by decide) o2)
    by_cases ha : a < 0
    · have ha' : ¬ 0 ≤ a := by omega
      simp [F_need_time, m_need_time, trimF, ev0, e1, q, k_ZERO, e2, ha, ha', a1, a2, timeB, Rv.cl, Vl.cl]
    · have ha' : 0 ≤ a := by omega
      simp [F_need_time, m_need_time, trimF, ev0, e1, q, k_ZERO, e2, ha, ha', a1, a2, timeB, Rv.cl, Vl.cl]
  | false =>
    have z : timeB d = false := by
      unfold timeB
      split
      · rw [q]; rfl
      · rfl
    simp [F_need_time, m_need_time, trimF, ev0, e1, q, z, a1, a2, Rv.cl, Vl.cl]
theorem ev_need_number (i lo hi : Int) (S : Sto) : F_need_number [.dat (.int i), .dat (.int lo), .dat (.int hi)] S = (if lo ≤ i ∧ i ≤ hi then .ok (.val (.dat .none)) S else .exn 1 (.int i) S) := by
  by_cases h1 : i < lo
  · have h1' : ¬ lo ≤ i := by omega
    simp [F_need_number, m_need_number, trimF, ev0, ilt, igt, opIsN, isNone, h1, h1', Rv.cl, Vl.cl]
  · have h1' : lo ≤ i := by omega
    by_cases h2 : hi < i
    · have h2' : ¬ i ≤ hi := by omega
      simp [F_need_number, m_need_number, trimF, ev0, ilt, igt, opIsN, isNone, h1, h1', h2, h2', Rv.cl, Vl.cl]
    · have h2' : i ≤ hi := by omega
      simp [F_need_number, m_need_number, trimF, ev0, ilt, igt, opIsN, isNone, h1, h1', h2, h2', Rv.cl, Vl.cl]
/-! ### the pool -/
def intD (xs : List Int) : List PyData := xs.map .int
theorem lay_intD : ∀ xs : List Int, PyData.canLayAll0 (intD xs) = true
  | [] => rfl
  | i :: r => by
    show (PyData.canLay0 (.int i) && PyData.canLayAll0 (intD r)) = true
    rw [lay_intD r]; rfl
theorem depth_intD : ∀ xs : List Int, PyData.depthAll (intD xs) = 0
  | [] => rfl
  | i :: r => by
    show max (PyData.depth (.int i)) (PyData.depthAll (intD r)) = 0
    rw [depth_intD r]; rfl
theorem shaped_intD (xs : List Int) : SeqAt.shaped (.list (intD xs)) = true := by
  unfold SeqAt.shaped
  rw [PyData.canLay0, PyData.depth, lay_intD, depth_intD]
  rfl
def intsV (xs : List Int) : List Vl := (intD xs).map .dat
/-- a store that holds the pool, a list of small numbers, and then R -/
def PoolAt (R S : Sto) : Prop := ∃ xs : List Int, S = .lst (intsV xs) :: R ∧ ∀ i ∈ xs, 0 ≤ i ∧ i < 1000
theorem rev_cases {α : Type} (xs : List α) : xs = [] ∨ ∃ r i, xs = r ++ [i] := by
  rcases List.eq_nil_or_concat xs with h | ⟨r, i, h⟩
  · exact .inl h
  · exact .inr ⟨r, i, by simpa using h⟩
@[simp] theorem trim_pool (o : Ob) (R : Sto) : trim (R.length + 1) (o :: R) = o :: R := trim_le (by simp)
theorem ev_take (R S : Sto) (lim : Int) (hp : PoolAt R S) (h1 : 0 < lim) (h2 : lim < 1000) : ∃ (i : Int) (S' : Sto), F__law_take [.ref 0, .dat (.int lim)] S = .ok (.val (.dat (.int i))) S' ∧ PoolAt R S' ∧ 0 ≤ i ∧ i < lim := by
  obtain ⟨xs, rfl, hx⟩ := hp
  have e1 : argw (.new []) (.lst (intsV xs) :: R) = some (.dat (.list []), .lst (intsV xs) :: R) := rfl
  have e2 : pyOf (.lst (intsV xs) :: R) (.ref 0) = some (.list (intD xs)) := by simp [pyOf, intsV]
  have e3 : eqv false (.ref 0) (.dat (.list [])) (.lst (intsV xs) :: R) = some (.val (.dat (.bool (PyData.eqv (.list (intD xs)) (.list []) != false))), .lst (intsV xs) :: R) := by
    simp only [eqv, e2, pyOf_dat, shaped_intD]
    rfl
  rcases rev_cases xs with rfl | ⟨r, i, rfl⟩
  · refine ⟨0, _, ?_, ⟨[], rfl, by simp⟩, by omega, h1⟩
    have z : PyData.eqv (.list (intD [])) (.list []) = true := rfl
    rw [z] at e3
    simp [F__law_take, m__law_take, trimF, ev0, e1, e3, Rv.cl, Vl.cl]
  · obtain ⟨z1, z2⟩ := hx i (by simp)
    refine ⟨i % lim, .lst (intsV r) :: R, ?_, ⟨r, rfl, fun j hj => hx j (by simp [hj])⟩, Int.emod_nonneg _ (by omega), Int.emod_lt_of_pos _ h1⟩
    have z : PyData.eqv (.list (intD (r ++ [i]))) (.list []) = false := by
      unfold intD
      cases r <;> rfl
    rw [z] at e3
    have e4 : popM (.ref 0) (.lst (intsV (r ++ [i])) :: R) = some (.val (.dat (.int i)), .lst (intsV r) :: R) := by
      simp [popM, lstAt, intsV, intD]
    have e5 : imod (.dat (.int i)) (.dat (.int lim)) (.lst (intsV r) :: R) = some (.val (.dat (.int (i % lim))), .lst (intsV r) :: R) := by
      simp [imod, modC, h1]
    simp [F__law_take, m__law_take, trimF, ev0, e1, e3, e4, e5, intV, Rv.cl, Vl.cl]
end Qk68
/-! text C68 -/
set_option Elab.async false
set_option linter.all false
set_option maxRecDepth 100000
set_option maxHeartbeats 4000000
set_option autoImplicit false
namespace Bk
open PySem PySem.Spec
section
variable (env : Ev) (S : Sto)
@[simp] theorem v_mmeth (c : Nat) (m : Str) (n : Nat) (F : Fn) (mo : MW) (ma : MA) : mmeth c m n F mo ma env S = (mo env S).bind fun x S => match insAt S [c] x with
  | some (_, _, fs) => match fs.lookup m with
    | none => (ma env S).bind fun ws S => if ws.length + 1 = n then noX (F (x :: ws) S) else .fail
    | some _ => .fail
  | none => .fail := rfl
@[simp] theorem v_mmake (c n : Nat) (F : Fn) (ma : MA) : mmake c n F ma env S = (ma env S).bind fun ws S => if ws.length + 1 = n then match F (.ref S.length :: ws) (S ++ [.ins c []]) with
  | .ok (.val (.dat .none)) S' => .ok (.val (.ref S.length)) S'
  | _ => .fail else .fail := rfl
@[simp] theorem v_mgfld (cs : List Nat) (f : Str) (mo : MW) (w : Vl) : mgfld cs f mo w env S = match mo env S with
  | .ok x S1 => match insAt S1 cs x with
    | some (n, c, fs) => if fs.length < 1000 then .next env (S1.set n (.ins c (putFv f w fs))) else .fail
    | none => .fail
  | _ => .fail := rfl
@[simp] theorem v_mgsub (mo mi : MW) (w : Vl) : mgsub mo mi w env S = match mo env S with
  | .ok x S1 => match mi env S1 with
    | .ok y S2 => match y with
      | .dat (.int k) => match lstAt S2 x with
        | some (n, xs) => match L2.ixN xs.length k with
          | some j => .next env (S2.set n (.lst (xs.set j w)))
          | none => .fail
        | none => .fail
      | _ => .fail
    | _ => .fail
  | _ => .fail := rfl
end
theorem ixN_nat {n i : Nat} (h : i < n) : L2.ixN n (i : Int) = some i := by
  unfold L2.ixN
  rw [if_pos (by omega), if_pos (by omega)]
  rfl
theorem ixN_last {n : Nat} (h : 0 < n) : L2.ixN n (-1) = some (n - 1) := by
  unfold L2.ixN
  rw [if_neg (by omega), if_pos (by omega)]
  congr 1
  omega
theorem ix_list {ds : List PyData} {i : Nat} {d : PyData} (h : ds[i]? = some d) (S : Sto) : ixV (.dat (.list ds)) (.dat (.int i)) S = some (.val (.dat d), S) := by
  obtain ⟨hi, _⟩ := List.getElem?_eq_some_iff.mp h
  simp [ixV, itemsOf, L2.atI, ixN_nat hi, h]
theorem ix_list_last {ds : List PyData} {d : PyData} (h : ds[ds.length - 1]? = some d) (S : Sto) : ixV (.dat (.list ds)) (.dat (.int (-1))) S = some (.val (.dat d), S) := by
  obtain ⟨hi, _⟩ := List.getElem?_eq_some_iff.mp h
  simp [ixV, itemsOf, L2.atI, ixN_last (show 0 < ds.length by omega), h]
theorem ix_ref {S : Sto} {n : Nat} {xs : List Vl} {i : Nat} {w : Vl} (e : S[n]? = some (.lst xs)) (h : xs[i]? = some w) : ixV (.ref n) (.dat (.int i)) S = some (.val w, S) := by
  obtain ⟨hi, _⟩ := List.getElem?_eq_some_iff.mp h
  simp [ixV, itemsOf, e, L2.atI, ixN_nat hi, h]
theorem ix_ref_last {S : Sto} {n : Nat} {xs : List Vl} {w : Vl} (e : S[n]? = some (.lst xs)) (h : xs[xs.length - 1]? = some w) : ixV (.ref n) (.dat (.int (-1))) S = some (.val w, S) := by
  obtain ⟨hi, _⟩ := List.getElem?_eq_some_iff.mp h
  simp [ixV, itemsOf, e, L2.atI, ixN_last (show 0 < xs.length by omega), h]
end Bk
namespace Qk68
open PySem PySem.Spec Bk
def bV (bs : List Bool) : List Vl := bs.map fun b => .dat (.bool b)
def crewF (c pe bk : PyData) (pl : List PyData) (t : PyData) (o : Int) : List (Str × Vl) := [("cuts", .dat c), ("people", .dat pe), ("backs", .dat bk), ("places", .dat (.list pl)), ("ahead", .ref 2), ("out", .dat (.int o)), ("time", .dat t)]
/-- the store with a crew -/
def CS (p : Ob) (c pe bk : PyData) (pl : List PyData) (t : PyData) (o : Int) (bs : List Bool) : Sto := [p, .ins 6 (crewF c pe bk pl t o), .lst (bV bs)]
/-- places as they are drawn: fractions of small parts -/
def PlB (d : PyData) : Prop := ∃ a b : Int, d = .tuple [.int a, .int b]
theorem shaped_pl {d : PyData} (h : PlB d) : SeqAt.shaped d = true := by
  obtain ⟨a, b, rfl⟩ := h; rfl
def sameAt (pl : List PyData) (i : Nat) : Bool := match pl[i]?, pl[i + 1]? with
  | some x, some y => PyData.eqv x y
  | _, _ => false
def meetAt (pl : List PyData) (bs : List Bool) (i : Nat) : Bool := (bs[i]? == some true) && (bs[i + 1]? == some false) && sameAt pl i
def meetF (pl : List PyData) (bs : List Bool) : Nat → Nat → Option Nat
  | 0, _ => none
  | k + 1, i => if meetAt pl bs i then some i else meetF pl bs k (i + 1)
def optD : Option Nat → PyData
  | none => .none
  | some i => .int i
section
variable (p : Ob) (c pe bk : PyData) (pl : List PyData) (t : PyData) (o : Int) (bs : List Bool)
@[simp] theorem cs_fld : insAt (CS p c pe bk pl t o bs) [6] (.ref 1) = some (1, 6, crewF c pe bk pl t o) := rfl
@[simp] theorem cs_pl : (crewF c pe bk pl t o).lookup ("places" : Str) = some (Vl.dat (.list pl)) := rfl
@[simp] theorem cs_ah : (crewF c pe bk pl t o).lookup ("ahead" : Str) = some (Vl.ref 2) := rfl
@[simp] theorem cs_out : (crewF c pe bk pl t o).lookup ("out" : Str) = some (Vl.dat (.int o)) := rfl
@[simp] theorem cs_trim : trim 3 (CS p c pe bk pl t o bs) = CS p c pe bk pl t o bs := trim_le (Nat.le_refl _)
@[simp] theorem cs_len : (CS p c pe bk pl t o bs).length = 3 := rfl
@[simp] theorem cs_lstAt : lstAt (CS p c pe bk pl t o bs) (.ref 2) = some (2, bV bs) := rfl
theorem cs_set2 (j : Nat) (b : Bool) : (CS p c pe bk pl t o bs).set 2 (.lst ((bV bs).set j (.dat (.bool b)))) = CS p c pe bk pl t o (bs.set j b) := by simp [CS, bV, List.map_set]
theorem cs_set1 (o' : Int) : (CS p c pe bk pl t o bs).set 1 (.ins 6 (putFv "out" (.dat (.int o')) (crewF c pe bk pl t o))) = CS p c pe bk pl t o' bs := rfl
@[simp] theorem cs_flen : (crewF c pe bk pl t o).length = 7 := rfl
theorem cs_lst : (CS p c pe bk pl t o bs)[2]? = some (.lst (bV bs)) := rfl
end
theorem loop_step {xs : List Vl} {i : Nat} {w : Vl} (h : xs[i]? = some w) (B : Vl → MS) (k : Nat) (env : Ev) (S : Sto) : loop (.st xs) B (k + 1) i env S = (B w env S).bind (loop (.st xs) B k (i + 1)) := by
  simp only [loop, Src.at, h]
theorem loop_end {xs : List Vl} {i : Nat} (h : xs.length ≤ i) (B : Vl → MS) (env : Ev) (S : Sto) : loop (.st xs) B 0 i env S = .next env S := by
  simp [loop, Src.stop, h]
theorem rng_get {m i : Nat} (h : i < m) : (rngV 0 m)[i]? = some (.dat (.int i)) := by
  simp [rngV, h]
theorem bV_get {bs : List Bool} {i : Nat} {b : Bool} (h : bs[i]? = some b) : (bV bs)[i]? = some (.dat (.bool b)) := by simp [bV, h]
theorem get_some {α : Type} {l : List α} {i : Nat} (h : i < l.length) : ∃ x, l[i]? = some x := ⟨l[i], List.getElem?_eq_getElem h⟩
theorem ev_meeting (p : Ob) (c pe bk : PyData) (pl : List PyData) (t : PyData) (o : Int) (bs : List Bool) (hp : ∀ d ∈ pl, PlB d) (hl : bs.length = pl.length) (h0 : 0 < pl.length) (h9 : pl.length < 100) : F_Crew_meeting [.ref 1] (CS p c pe bk pl t o bs) = .ok (.val (.dat (optD (meetF pl bs (pl.length - 1) 0)))) (CS p c pe bk pl t o bs) := by
  let B : Vl → MS := fun w => mseq (fun env S => (mgN 1 w env S).pl) (mseq (mset 2 (mandV (mw (m2 (mfld [6] "ahead" (mVar 0)) (mVar 1) ixV)) (mnotV (mw (m2 (mfld [6] "ahead" (mVar 0)) (mw (m2 (mVar 1) (mC (.int 1)) addV)) ixV)))))
    (mIf (mand (mb (mVar 2)) (mb (mw (m2 (mw (m2 (mfld [6] "places" (mVar 0)) (mVar 1) ixV)) (mw (m2 (mfld [6] "places" (mVar 0)) (mw (m2 (mVar 1) (mC (.int 1)) addV)) ixV)) (eqv false))))) (mret (me (mVar 1))) mnext))
  have step : ∀ (i : Nat) (a b : Option Vl), i + 1 < pl.length → ∃ a2 b2, B (.dat (.int i)) [some (.ref 1), a, b] (CS p c pe bk pl t o bs) = (if meetAt pl bs i then .ret (.val (.dat (.int i))) (CS p c pe bk pl t o bs) else .next [some (.ref 1), a2, b2] (CS p c pe bk pl t o bs)) := by
    intro i a b hi
    obtain ⟨x, hx⟩ := get_some (show i < bs.length by omega)
    obtain ⟨y, hy⟩ := get_some (show i + 1 < bs.length by omega)
    obtain ⟨d, hd⟩ := get_some (show i < pl.length by omega)
    obtain ⟨e, he⟩ := get_some (show i + 1 < pl.length by omega)
    have i1 := ix_ref (cs_lst p c pe bk pl t o bs) (bV_get hx)
    have i2 : ixV (.ref 2) (.dat (.int ((i : Int) + 1))) (CS p c pe bk pl t o bs) = _ := ix_ref (cs_lst p c pe bk pl t o bs) (bV_get hy)
    have i3 := ix_list hd (CS p c pe bk pl t o bs)
    have i4 : ixV (.dat (.list pl)) (.dat (.int ((i : Int) + 1))) (CS p c pe bk pl t o bs) = _ := ix_list he (CS p c pe bk pl t o bs)
    have s1 := shaped_pl (hp d (List.mem_of_getElem? hd))
    have s2 := shaped_pl (hp e (List.mem_of_getElem? he))
    have i5 : addV (.dat (.int i)) (.dat (.int 1)) (CS p c pe bk pl t o bs) = some (.val (.dat (.int ((i : Int) + 1))), CS p c pe bk pl t o bs) := rfl
    refine ⟨some (.dat (.int i)), some (.dat (.bool (x && !y))), ?_⟩
    cases x <;> cases y <;> cases q : PyData.eqv d e <;> simp [B, i1, i2, i3, i4, i5, s1, s2, meetAt, sameAt, hx, hy, hd, he, q]
  have key : ∀ (k i : Nat) (a b : Option Vl), i + k = pl.length - 1 → (∃ a2 b2, loop (.st (rngV 0 (pl.length - 1))) B k i [some (.ref 1), a, b] (CS p c pe bk pl t o bs) = match meetF pl bs k i with
      | some j => .ret (.val (.dat (.int j))) (CS p c pe bk pl t o bs)
      | none => .next [some (.ref 1), a2, b2] (CS p c pe bk pl t o bs)) := by
    intro k
    induction k with
    | zero =>
      intro i a b hi
      exact ⟨a, b, loop_end (by rw [rngV_len]; omega) _ _ _⟩
    | succ k ih =>
      intro i a b hi
      obtain ⟨a', b', e⟩ := step i a b (by omega)
      rw [loop_step (rng_get (show i < pl.length - 1 by omega)), e, meetF]
      cases meetAt pl bs i with
      | true => exact ⟨a, b, rfl⟩
      | false =>
        obtain ⟨a2, b2, e2⟩ := ih (i + 1) a' b' (by omega)
        exact ⟨a2, b2, e2⟩
  obtain ⟨a, b, e⟩ := key (pl.length - 1) 0 none none (by omega)
  have e1 : isub (.dat (.int pl.length)) (.dat (.int 1)) (CS p c pe bk pl t o bs) = some (.val (.dat (.int (pl.length - 1 : Int))), CS p c pe bk pl t o bs) := rfl
  have e2 : ((pl.length : Int) - 1).toNat = pl.length - 1 := by omega
  have e3 : (rngV 0 (pl.length - 1)).length = pl.length - 1 := rngV_len _ _
  have e4 : -4611686018427387904 ≤ (pl.length : Int) - 1 ∧ (pl.length : Int) - 1 < 4611686018427387904 := by omega
  have e5 : lenV [.dat (.list pl)] (CS p c pe bk pl t o bs) = some (.val (.dat (.int pl.length)), CS p c pe bk pl t o bs) := by simp [lenV, itemsOf]
  have e6 : F_Crew_meeting [.ref 1] (CS p c pe bk pl t o bs) = trimO 3 (match (match meetF pl bs (pl.length - 1) 0 with
      | some j => Fl.ret (.val (.dat (.int j))) (CS p c pe bk pl t o bs)
      | none => .next [some (.ref 1), a, b] (CS p c pe bk pl t o bs)).bind (mret (me (mC .none))) with
    | .next _ S => .ok (.val (.dat .none)) S
    | .ret r S => .ok r S
    | .exn k d _ S => .exn k d S
    | .fail => .fail) := by
    rw [← e]
    simp [F_Crew_meeting, m_Crew_meeting, trimF, ev0, e1, e2, e3, e4, e5]
    rfl
  rw [e6]
  cases meetF pl bs (pl.length - 1) 0 <;> simp [optD, Rv.cl, Vl.cl]
def oneB (pl : List PyData) : Bool := match pl[pl.length - 1]? with
  | some d => PyData.eqv d k_ONE
  | none => false
def zeroB (pl : List PyData) : Bool := match pl[0]? with
  | some d => PyData.eqv d k_ZERO
  | none => false
/-- a turn of the crew -/
def turnB (pl : List PyData) (bs : List Bool) (o : Int) : List Bool × Int × Bool :=
  if (bs[bs.length - 1]? == some true) && oneB pl then (bs.set (bs.length - 1) false, o + 1, true)
  else if (bs[0]? == some false) && zeroB pl then (bs.set 0 true, o, true)
  else match meetF pl bs (pl.length - 1) 0 with
    | some i => ((bs.set i false).set (i + 1) true, o, true)
    | none => (bs, o, false)
theorem meetF_lt {pl : List PyData} {bs : List Bool} : ∀ {k i j : Nat}, meetF pl bs k i = some j → meetAt pl bs j = true
  | 0, _, _, h => by cases h
  | k + 1, i, j, h => by
    unfold meetF at h
    split at h
    · rename_i q
      cases h; exact q
    · exact meetF_lt h
theorem ev_turned (p : Ob) (c pe bk : PyData) (pl : List PyData) (t : PyData) (o : Int) (bs : List Bool) (hp : ∀ d ∈ pl, PlB d) (hl : bs.length = pl.length) (h0 : 0 < pl.length) (h9 : pl.length < 100) : F_Crew_turned [.ref 1] (CS p c pe bk pl t o bs) = .ok (.val (.dat (.bool (turnB pl bs o).2.2))) (CS p c pe bk pl t (turnB pl bs o).2.1 (turnB pl bs o).1) := by
  have em := ev_meeting p c pe bk pl t o bs hp hl h0 h9
  obtain ⟨x, hx⟩ := get_some (show bs.length - 1 < bs.length by omega)
  obtain ⟨y, hy⟩ := get_some (show 0 < bs.length by omega)
  obtain ⟨d, hd⟩ := get_some (show pl.length - 1 < pl.length by omega)
  obtain ⟨e, he⟩ := get_some (show 0 < pl.length by omega)
  have bl : (bV bs).length = bs.length := by simp [bV]
  have i1 : ixV (.ref 2) (.dat (.int (-1))) (CS p c pe bk pl t o bs) = _ := ix_ref_last (cs_lst p c pe bk pl t o bs) (by rw [bl]; exact bV_get hx)
  have i2 : ixV (.ref 2) (.dat (.int 0)) (CS p c pe bk pl t o bs) = _ := ix_ref (i := 0) (cs_lst p c pe bk pl t o bs) (bV_get hy)
  have i3 := ix_list_last hd (CS p c pe bk pl t o bs)
  have i4 : ixV (.dat (.list pl)) (.dat (.int 0)) (CS p c pe bk pl t o bs) = _ := ix_list (i := 0) he (CS p c pe bk pl t o bs)
  have s1 := shaped_pl (hp d (List.mem_of_getElem? hd))
  have s2 := shaped_pl (hp e (List.mem_of_getElem? he))
  have s3 : SeqAt.shaped k_ONE = true := rfl
  have s4 : SeqAt.shaped k_ZERO = true := rfl
  have n1 : L2.ixN (bV bs).length (-1) = some (bs.length - 1) := by rw [bl]; exact ixN_last (by omega)
  have n2 : L2.ixN (bV bs).length 0 = some 0 := by rw [bl]; exact ixN_nat (i := 0) (by omega)
  have o1 : oneB pl = PyData.eqv d k_ONE := by simp [oneB, hd]
  have o2 : zeroB pl = PyData.eqv e k_ZERO := by simp [zeroB, he]
  have i5 : addV (.dat (.int o)) (.dat (.int 1)) (CS p c pe bk pl t o bs) = some (.val (.dat (.int (o + 1))), CS p c pe bk pl t o bs) := rfl
  unfold turnB
  rw [o1, o2, hx, hy]
  have ng : ineg (.dat (.int 1)) (CS p c pe bk pl t o bs) = some (.val (.dat (.int (-1))), CS p c pe bk pl t o bs) := rfl
  by_cases c1 : x = true ∧ PyData.eqv d k_ONE = true
  · obtain ⟨rfl, q1⟩ := c1
    simp [F_Crew_turned, m_Crew_turned, trimF, ev0, i1, i3, i5, s1, s3, n1, q1, ng, cs_set1, cs_set2, Rv.cl, Vl.cl]
  · have c1' : x = false ∨ (x = true ∧ PyData.eqv d k_ONE = false) := by
      cases x with
      | false => exact .inl rfl
      | true => exact .inr ⟨rfl, by simpa using c1⟩
    by_cases c2 : y = false ∧ PyData.eqv e k_ZERO = true
    · obtain ⟨rfl, q2⟩ := c2
      rcases c1' with rfl | ⟨rfl, q1⟩
      · simp [F_Crew_turned, m_Crew_turned, trimF, ev0, i1, i2, i3, i4, i5, s1, s2, s3, s4, n2, q2, ng, cs_set1, cs_set2, Rv.cl, Vl.cl]
      · simp [F_Crew_turned, m_Crew_turned, trimF, ev0, i1, i2, i3, i4, i5, s1, s2, s3, s4, n2, q1, q2, ng, cs_set1, cs_set2, Rv.cl, Vl.cl]
    · have c2' : y = true ∨ (y = false ∧ PyData.eqv e k_ZERO = false) := by
        cases y with
        | true => exact .inl rfl
        | false => exact .inr ⟨rfl, by simpa using c2⟩
      have lm : (crewF c pe bk pl t o).lookup ("meeting" : Str) = none := rfl
      cases qm : meetF pl bs (pl.length - 1) 0 with
      | none =>
        rw [qm] at em
        replace em : F_Crew_meeting [.ref 1] (CS p c pe bk pl t o bs) = .ok (.val (.dat .none)) (CS p c pe bk pl t o bs) := em
        rcases c1' with rfl | ⟨rfl, q1⟩
        · rcases c2' with rfl | ⟨rfl, q2⟩
          · simp [F_Crew_turned, m_Crew_turned, trimF, ev0, i1, i2, i3, i4, i5, s1, s2, s3, s4, ng, em, lm, opIsN, isNone, optD, Rv.cl, Vl.cl]
          · simp [F_Crew_turned, m_Crew_turned, trimF, ev0, i1, i2, i3, i4, i5, s1, s2, s3, s4, ng, em, lm, opIsN, isNone, optD, q2, Rv.cl, Vl.cl]
        · rcases c2' with rfl | ⟨rfl, q2⟩
          · simp [F_Crew_turned, m_Crew_turned, trimF, ev0, i1, i2, i3, i4, i5, s1, s2, s3, s4, ng, em, lm, opIsN, isNone, optD, q1, Rv.cl, Vl.cl]
          · simp [F_Crew_turned, m_Crew_turned, trimF, ev0, i1, i2, i3, i4, i5, s1, s2, s3, s4, ng, em, lm, opIsN, isNone, optD, q1, q2, Rv.cl, Vl.cl]
      | some i =>
        rw [qm] at em
        replace em : F_Crew_meeting [.ref 1] (CS p c pe bk pl t o bs) = .ok (.val (.dat (.int i))) (CS p c pe bk pl t o bs) := em
        have hm := meetF_lt qm
        have hi : i + 1 < bs.length := by
          unfold meetAt at hm
          simp at hm
          have := hm.1.2
          exact (List.getElem?_eq_some_iff.mp this).1
        have n3 : L2.ixN (bV bs).length i = some i := by rw [bl]; exact ixN_nat (by omega)
        have n4 : L2.ixN (bV (bs.set i false)).length ((i : Int) + 1) = some (i + 1) := by
          have : (bV (bs.set i false)).length = bs.length := by simp [bV]
          rw [this]; exact ixN_nat (i := i + 1) hi
        have ad : ∀ S : Sto, addV (.dat (.int i)) (.dat (.int 1)) S = some (.val (.dat (.int ((i : Int) + 1))), S) := fun _ => rfl
        rcases c1' with rfl | ⟨rfl, q1⟩
        · rcases c2' with rfl | ⟨rfl, q2⟩
          · simp [F_Crew_turned, m_Crew_turned, trimF, ev0, i1, i2, i3, i4, i5, s1, s2, s3, s4, ng, em, lm, opIsN, isNone, optD, ad, n3, n4, cs_set2, Rv.cl, Vl.cl]
          · simp [F_Crew_turned, m_Crew_turned, trimF, ev0, i1, i2, i3, i4, i5, s1, s2, s3, s4, ng, em, lm, opIsN, isNone, optD, q2, ad, n3, n4, cs_set2, Rv.cl, Vl.cl]
        · rcases c2' with rfl | ⟨rfl, q2⟩
          · simp [F_Crew_turned, m_Crew_turned, trimF, ev0, i1, i2, i3, i4, i5, s1, s2, s3, s4, ng, em, lm, opIsN, isNone, optD, q1, ad, n3, n4, cs_set2, Rv.cl, Vl.cl]
          · simp [F_Crew_turned, m_Crew_turned, trimF, ev0, i1, i2, i3, i4, i5, s1, s2, s3, s4, ng, em, lm, opIsN, isNone, optD, q1, q2, ad, n3, n4, cs_set2, Rv.cl, Vl.cl]
end Qk68
/-! text D68 -/
set_option Elab.async false
set_option linter.all false
set_option maxRecDepth 100000
set_option maxHeartbeats 4000000
set_option autoImplicit false
namespace Qk68
open PySem PySem.Spec Bk
/-! ### settling -/
def settleB (pl : List PyData) : Nat → List Bool → Int → Option (List Bool × Int)
  | 0, _, _ => none
  | n + 1, bs, o => if (turnB pl bs o).2.2 then settleB pl n (turnB pl bs o).1 (turnB pl bs o).2.1 else if n = 0 then none else some ((turnB pl bs o).1, (turnB pl bs o).2.1)
theorem turn_len (pl : List PyData) (bs : List Bool) (o : Int) : (turnB pl bs o).1.length = bs.length := by
  unfold turnB
  split
  · simp
  · split
    · simp
    · split <;> simp
section
variable (p : Ob) (c pe bk : PyData) (pl : List PyData) (t : PyData)
theorem ev_settle_loop (hp : ∀ d ∈ pl, PlB d) (h0 : 0 < pl.length) (h9 : pl.length < 100) : ∀ (n : Nat) (bs : List Bool) (o : Int) (bs' : List Bool) (o' : Int), bs.length = pl.length → settleB pl n bs o = some (bs', o') →
    wloop (mb (mVar 1)) (mset 1 (mw (mmeth 6 "turned" 1 F_Crew_turned (mVar 0) mnil))) n [some (.ref 1), some (.dat (.bool true))] (CS p c pe bk pl t o bs) = .next [some (.ref 1), some (.dat (.bool false))] (CS p c pe bk pl t o' bs')
  | 0, _, _, _, _, _, h => by cases h
  | n + 1, bs, o, bs', o', hl, h => by
    have et := ev_turned p c pe bk pl t o bs hp hl h0 h9
    have lm : (crewF c pe bk pl t o).lookup ("turned" : Str) = none := rfl
    rw [settleB] at h
    cases q : (turnB pl bs o).2.2 with
    | true =>
      rw [q] at et
      rw [q, if_pos rfl] at h
      have ih := ev_settle_loop hp h0 h9 n _ _ bs' o' ((turn_len pl bs o).trans hl) h
      simp [et, lm, ih]
    | false =>
      rw [q] at et
      rw [q] at h
      cases n with
      | zero => simp at h
      | succ n =>
        simp at h
        obtain ⟨h1, h2⟩ := h
        rw [h1, h2] at et
        simp [et, lm]
theorem ev_settle (hp : ∀ d ∈ pl, PlB d) (h0 : 0 < pl.length) (h9 : pl.length < 100) (n : Nat) (bs : List Bool) (o : Int) (bs' : List Bool) (o' : Int) (hl : bs.length = pl.length) (h : settleB pl n bs o = some (bs', o')) : F_Crew_settle n [.ref 1] (CS p c pe bk pl t o bs) = .ok (.val (.dat .none)) (CS p c pe bk pl t o' bs') := by
  have e := ev_settle_loop p c pe bk pl t hp h0 h9 n bs o bs' o' hl h
  simp [F_Crew_settle, m_Crew_settle, trimF, ev0, e, Rv.cl, Vl.cl]
end
/-! ### the same in Booleans alone -/
def sames : List PyData → List Bool
  | x :: y :: r => PyData.eqv x y :: sames (y :: r)
  | _ => []
theorem sames_at : ∀ (pl : List PyData) (i : Nat), sameAt pl i = ((sames pl)[i]? == some true)
  | [], i => by simp [sameAt, sames]
  | [x], i => by cases i <;> simp [sameAt, sames]
  | x :: y :: r, 0 => by simp [sameAt, sames]
  | x :: y :: r, i + 1 => by
    have ih := sames_at (y :: r) i
    simp only [sameAt, sames, List.getElem?_cons_succ] at ih ⊢
    exact ih
def meetA (es bs : List Bool) : Nat → Nat → Option Nat
  | 0, _ => none
  | k + 1, i => if (bs[i]? == some true) && (bs[i + 1]? == some false) && (es[i]? == some true) then some i else meetA es bs k (i + 1)
theorem meetA_eq (pl : List PyData) (bs : List Bool) : ∀ k i, meetF pl bs k i = meetA (sames pl) bs k i
  | 0, _ => rfl
  | k + 1, i => by
    rw [meetF, meetA, meetA_eq pl bs k (i + 1), meetAt, sames_at]
def turnA (on z : Bool) (es bs : List Bool) (o : Int) : List Bool × Int × Bool :=
  if (bs[bs.length - 1]? == some true) && on then (bs.set (bs.length - 1) false, o + 1, true)
  else if (bs[0]? == some false) && z then (bs.set 0 true, o, true)
  else match meetA es bs (bs.length - 1) 0 with
    | some i => ((bs.set i false).set (i + 1) true, o, true)
    | none => (bs, o, false)
def settleA (on z : Bool) (es : List Bool) : Nat → List Bool → Int → Option (List Bool × Int)
  | 0, _, _ => none
  | n + 1, bs, o => if (turnA on z es bs o).2.2 then settleA on z es n (turnA on z es bs o).1 (turnA on z es bs o).2.1 else if n = 0 then none else some ((turnA on z es bs o).1, (turnA on z es bs o).2.1)
theorem turnA_eq (pl : List PyData) (bs : List Bool) (o : Int) (hl : bs.length = pl.length) : turnB pl bs o = turnA (oneB pl) (zeroB pl) (sames pl) bs o := by
  rw [turnB, turnA, meetA_eq, hl]
  all_goals (cases meetA (sames pl) bs (pl.length - 1) 0 <;> rfl)
theorem settleA_eq (pl : List PyData) : ∀ (n : Nat) (bs : List Bool) (o : Int), bs.length = pl.length → settleB pl n bs o = settleA (oneB pl) (zeroB pl) (sames pl) n bs o
  | 0, _, _, _ => rfl
  | n + 1, bs, o, hl => by
    have e := turnA_eq pl bs o hl
    have ih := settleA_eq pl n (turnB pl bs o).1 (turnB pl bs o).2.1 ((turn_len pl bs o).trans hl)
    rw [settleB, settleA, ih, e]
/-- a pass of the law's own settling: the pairs, then the ends -/
def passA (es : List Bool) : Nat → Nat → List Bool → Bool → List Bool × Bool
  | 0, _, bs, g => (bs, g)
  | k + 1, i, bs, g => if (bs[i]? == some true) && (bs[i + 1]? == some false) && (es[i]? == some true) then passA es k (i + 1) ((bs.set i false).set (i + 1) true) true else passA es k (i + 1) bs g
def endsA (on z : Bool) (bs : List Bool) (o : Int) (g : Bool) : List Bool × Int × Bool :=
  let r := if (bs[bs.length - 1]? == some true) && on then (bs.set (bs.length - 1) false, o + 1, true) else (bs, o, g)
  if (r.1[0]? == some false) && z then (r.1.set 0 true, r.2.1, true) else r
def settledA (on z : Bool) (es : List Bool) : Nat → List Bool → Int → Option (List Bool × Int)
  | 0, _, _ => none
  | n + 1, bs, o =>
    let q := passA es (bs.length - 1) 0 bs false
    let r := endsA on z q.1 o q.2
    if r.2.2 then settledA on z es n r.1 r.2.1 else if n = 0 then none else some (r.1, r.2.1)
def allL : Nat → List (List Bool)
  | 0 => [[]]
  | n + 1 => (allL n).flatMap fun l => [true :: l, false :: l]
def okA (n : Nat) : Bool := (allL n).all fun bs => (allL (n - 1)).all fun es => [true, false].all fun on => [true, false].all fun z =>
  (on && z && es.all id) || ((settleA on z es 60 bs 0).isSome && (settleA on z es 60 bs 0 == settledA on z es 60 bs 0))
theorem okA1 : okA 1 = true := by decide +kernel
theorem okA2 : okA 2 = true := by decide +kernel
theorem okA3 : okA 3 = true := by decide +kernel
theorem okA4 : okA 4 = true := by decide +kernel
/-! ### the law's own settling -/
def wayS (b : Bool) : PyData := .str (if b then "ahead" else "back")
def stD (pl : List PyData) (bs : List Bool) : List PyData := List.zipWith (fun d b => .tuple [d, wayS b]) pl bs
def LS (p : Ob) (ds : List PyData) : Sto := [p, .lst (ds.map .dat)]
theorem stD_get {pl : List PyData} {bs : List Bool} {i : Nat} {d : PyData} {b : Bool} (h1 : pl[i]? = some d) (h2 : bs[i]? = some b) : (stD pl bs)[i]? = some (.tuple [d, wayS b]) := by
  simp [stD, List.getElem?_zipWith, h1, h2]
theorem stD_set {pl : List PyData} {i : Nat} {d : PyData} (b : Bool) (h1 : pl[i]? = some d) : ∀ {bs : List Bool}, (stD pl bs).set i (.tuple [d, wayS b]) = stD pl (bs.set i b) := by
  intro bs
  induction pl generalizing i bs with
  | nil => simp at h1
  | cons e r ih =>
    cases bs with
    | nil => simp [stD]
    | cons x bs =>
      cases i with
      | zero =>
        simp at h1
        subst h1
        simp [stD]
      | succ i =>
        simp at h1
        have := ih h1 (bs := bs)
        simp only [stD] at this ⊢
        simp [this]
theorem stD_len {pl : List PyData} {bs : List Bool} (h : bs.length = pl.length) : (stD pl bs).length = pl.length := by simp [stD, h]
section
variable (p : Ob) (ds : List PyData)
@[simp] theorem ls_at : lstAt (LS p ds) (.ref 1) = some (1, ds.map .dat) := rfl
theorem ls_get : (LS p ds)[1]? = some (.lst (ds.map .dat)) := rfl
theorem ls_set (i : Nat) (d : PyData) : (LS p ds).set 1 (.lst ((ds.map Vl.dat).set i (.dat d))) = LS p (ds.set i d) := by simp [LS, List.map_set]
end
theorem eqv_pl {d e : PyData} (h1 : PlB d) (h2 : PlB e) : PyData.eqv d e = true ↔ d = e := by
  obtain ⟨a, b, rfl⟩ := h1
  obtain ⟨x, y, rfl⟩ := h2
  simp [PyData.eqv, PyData.eqvAll]
def m_pair : MS := (mseq (mpar 4 5 (mcons (mw (m2 (mVar 1) (mVar 3) ixV)) (mcons (mw (m2 (mVar 1) (mw (m2 (mVar 3) (mC (.int 1)) addV)) ixV)) mnil)))
    (mIf (mand (mb (mw (m2 (mw (m2 (mVar 4) (mC (.int 1)) ixV)) (mC (.str "ahead")) (eqv false)))) (mand (mb (mw (m2 (mw (m2 (mVar 5) (mC (.int 1)) ixV)) (mC (.str "back")) (eqv false)))) (mb (mw (m2 (mw (m2 (mVar 4) (mC (.int 0)) ixV)) (mw (m2 (mVar 5) (mC (.int 0)) ixV)) (eqv false)))))) (masgT 3 (mcons (mtup (mcons (mw (m2 (mVar 4) (mC (.int 0)) ixV)) (mcons (mC (.str "back")) mnil))) (mcons (mtup (mcons (mw (m2 (mVar 4) (mC (.int 0)) ixV)) (mcons (mC (.str "ahead")) mnil))) (mcons (mC (.bool true)) mnil))) (mgcons (mgsub (mVar 1) (mVar 3)) (mgcons (mgsub (mVar 1) (mw (m2 (mVar 3) (mC (.int 1)) addV))) (mgcons (mgN 2) mgnil)))) mnext))
theorem ix_t0 (x y : PyData) (S : Sto) : ixV (.dat (.tuple [x, y])) (.dat (.int 0)) S = some (.val (.dat x), S) := by simp [ixV, itemsOf, L2.atI, L2.ixN]
theorem ix_t1 (x y : PyData) (S : Sto) : ixV (.dat (.tuple [x, y])) (.dat (.int 1)) S = some (.val (.dat y), S) := by simp [ixV, itemsOf, L2.atI, L2.ixN]
theorem wt : wayS true = .str "ahead" := rfl
theorem wf : wayS false = .str "back" := rfl
theorem ev_pair (p : Ob) (pl : List PyData) (bs : List Bool) (out : Vl) (g : Bool) (a b c : Option Vl) (i : Nat) (hp : ∀ d ∈ pl, PlB d) (hl : bs.length = pl.length) (hi : i + 1 < pl.length) :
    ∃ a2 b2 c2, mseq (fun env S => (mgN 3 (.dat (.int i)) env S).pl) m_pair [some out, some (.ref 1), some (.dat (.bool g)), a, b, c] (LS p (stD pl bs)) =
      if (bs[i]? == some true) && (bs[i + 1]? == some false) && ((sames pl)[i]? == some true) then .next [some out, some (.ref 1), some (.dat (.bool true)), a2, b2, c2] (LS p (stD pl ((bs.set i false).set (i + 1) true)))
      else .next [some out, some (.ref 1), some (.dat (.bool g)), a2, b2, c2] (LS p (stD pl bs)) := by
  obtain ⟨x, hx⟩ := get_some (show i < bs.length by omega)
  obtain ⟨y, hy⟩ := get_some (show i + 1 < bs.length by omega)
  obtain ⟨d, hd⟩ := get_some (show i < pl.length by omega)
  obtain ⟨e, he⟩ := get_some (show i + 1 < pl.length by omega)
  have gm : ∀ {i : Nat} {d : PyData} {ds : List PyData}, ds[i]? = some d → (ds.map Vl.dat)[i]? = some (.dat d) := fun h => by simp [h]
  have i1 := ix_ref (ls_get p (stD pl bs)) (gm (stD_get hd hx))
  have i2 : ixV (.ref 1) (.dat (.int ((i : Int) + 1))) (LS p (stD pl bs)) = _ := ix_ref (ls_get p (stD pl bs)) (gm (stD_get he hy))
  have s1 := shaped_pl (hp d (List.mem_of_getElem? hd))
  have s2 := shaped_pl (hp e (List.mem_of_getElem? he))
  have q0 := eqv_pl (hp d (List.mem_of_getElem? hd)) (hp e (List.mem_of_getElem? he))
  have sm : ((sames pl)[i]? == some true) = PyData.eqv d e := by rw [← sames_at]; simp [sameAt, hd, he]
  have i5 : ∀ S : Sto, addV (.dat (.int i)) (.dat (.int 1)) S = some (.val (.dat (.int ((i : Int) + 1))), S) := fun _ => rfl
  have s3 : ∀ b, SeqAt.shaped (wayS b) = true := fun b => by cases b <;> decide +kernel
  have s4 : SeqAt.shaped (.str "ahead") = true := by decide +kernel
  have s5 : SeqAt.shaped (.str "back") = true := by decide +kernel
  have n1 : L2.ixN pl.length i = some i := ixN_nat (by omega)
  have n2 : L2.ixN pl.length ((i : Int) + 1) = some (i + 1) := ixN_nat (i := i + 1) hi
  refine ⟨some (.dat (.int i)), some (.dat (.tuple [d, wayS x])), some (.dat (.tuple [e, wayS y])), ?_⟩
  rw [sm, hx, hy]
  have e1 : PyData.eqv (.str "ahead") (.str "ahead") = true := by decide +kernel
  have e2 : PyData.eqv (.str "back") (.str "back") = true := by decide +kernel
  have e3 : PyData.eqv (.str "back") (.str "ahead") = false := by decide +kernel
  have e4 : PyData.eqv (.str "ahead") (.str "back") = false := by decide +kernel
  cases x with
  | false => simp [m_pair, i1, i2, i5, s3, s4, ix_t0, ix_t1, wf, e3, s5]
  | true =>
    cases y with
    | true => simp [m_pair, i1, i2, i5, s3, s4, s5, ix_t0, ix_t1, wt, e1, e4]
    | false =>
      cases q : PyData.eqv d e with
      | false => simp [m_pair, i1, i2, i5, s1, s2, s4, s5, ix_t0, ix_t1, wt, wf, e1, e2, q]
      | true =>
        have := q0.mp q
        subst this
        have t1 : (stD pl bs).set i (.tuple [d, .str "back"]) = stD pl (bs.set i false) := stD_set false hd
        have t2 : (stD pl (bs.set i false)).set (i + 1) (.tuple [d, .str "ahead"]) = stD pl ((bs.set i false).set (i + 1) true) := stD_set true he
        have u1 : (stD pl bs).length = pl.length := stD_len hl
        have u2 : (stD pl (bs.set i false)).length = pl.length := stD_len (by simp [hl])
        simp [m_pair, i1, i2, i5, s1, s2, s4, s5, ix_t0, ix_t1, wt, wf, e1, e2, q, toDats, n1, n2, u1, u2, ls_set, t1, t2]
theorem pass_len (es : List Bool) : ∀ (k i : Nat) (bs : List Bool) (g : Bool), (passA es k i bs g).1.length = bs.length
  | 0, _, _, _ => rfl
  | k + 1, i, bs, g => by
    rw [passA]
    split
    · rw [pass_len es k (i + 1)]; simp
    · exact pass_len es k (i + 1) bs g
theorem ev_pairs (p : Ob) (pl : List PyData) (out : Vl) (hp : ∀ d ∈ pl, PlB d) : ∀ (k i : Nat) (bs : List Bool) (g : Bool) (a b c : Option Vl), bs.length = pl.length → i + k = pl.length - 1 →
    ∃ a2 b2 c2, loop (.st (rngV 0 (pl.length - 1))) (fun w => mseq (fun env S => (mgN 3 w env S).pl) m_pair) k i [some out, some (.ref 1), some (.dat (.bool g)), a, b, c] (LS p (stD pl bs)) = .next [some out, some (.ref 1), some (.dat (.bool (passA (sames pl) k i bs g).2)), a2, b2, c2] (LS p (stD pl (passA (sames pl) k i bs g).1))
  | 0, i, bs, g, a, b, c, hl, hi => ⟨a, b, c, loop_end (by rw [rngV_len]; omega) _ _ _⟩
  | k + 1, i, bs, g, a, b, c, hl, hi => by
    obtain ⟨a2, b2, c2, e⟩ := ev_pair p pl bs out g a b c i hp hl (by omega)
    rw [loop_step (rng_get (show i < pl.length - 1 by omega)), e, passA]
    cases q : ((bs[i]? == some true) && (bs[i + 1]? == some false) && ((sames pl)[i]? == some true)) with
    | true =>
      obtain ⟨a3, b3, c3, e3⟩ := ev_pairs p pl out hp k (i + 1) ((bs.set i false).set (i + 1) true) true a2 b2 c2 (by simp [hl]) (by omega)
      exact ⟨a3, b3, c3, e3⟩
    | false =>
      obtain ⟨a3, b3, c3, e3⟩ := ev_pairs p pl out hp k (i + 1) bs g a2 b2 c2 hl (by omega)
      exact ⟨a3, b3, c3, e3⟩
def m_end1 : MS := (mIf (mb (mw (m2 (mw (m2 (mVar 1) (mw (m1 (mC (.int 1)) ineg)) ixV)) (mtup (mcons (mtup (mcons (mC (.int 1)) (mcons (mC (.int 1)) mnil))) (mcons (mC (.str "ahead")) mnil))) (eqv false)))) (masgT 3 (mcons (mtup (mcons (mtup (mcons (mC (.int 1)) (mcons (mC (.int 1)) mnil))) (mcons (mC (.str "back")) mnil))) (mcons (mw (m2 (mVar 0) (mC (.int 1)) addV)) (mcons (mC (.bool true)) mnil))) (mgcons (mgsub (mVar 1) (mw (m1 (mC (.int 1)) ineg))) (mgcons (mgN 0) (mgcons (mgN 2) mgnil)))) mnext)
def m_end2 : MS := (mIf (mb (mw (m2 (mw (m2 (mVar 1) (mC (.int 0)) ixV)) (mtup (mcons (mtup (mcons (mC (.int 0)) (mcons (mC (.int 1)) mnil))) (mcons (mC (.str "back")) mnil))) (eqv false)))) (masgT 2 (mcons (mtup (mcons (mtup (mcons (mC (.int 0)) (mcons (mC (.int 1)) mnil))) (mcons (mC (.str "ahead")) mnil))) (mcons (mC (.bool true)) mnil)) (mgcons (mgsub (mVar 1) (mC (.int 0))) (mgcons (mgN 2) mgnil))) mnext)
theorem eqv_st {d : PyData} {e : PyData} (b c : Bool) (hd : PlB d) (he : PlB e) : PyData.eqv (.tuple [d, wayS b]) (.tuple [e, wayS c]) = (PyData.eqv d e && (b == c)) := by
  have h : ∀ b c, PyData.eqv (wayS b) (wayS c) = (b == c) := by decide +kernel
  simp [PyData.eqv, PyData.eqvAll, h]
theorem shaped_st {d : PyData} (b : Bool) (hd : PlB d) : SeqAt.shaped (.tuple [d, wayS b]) = true := by
  obtain ⟨x, y, rfl⟩ := hd
  have h : ∀ b, (PyData.canLay0 (wayS b)) = true := by decide +kernel
  have h2 : ∀ b, (PyData.depth (wayS b)) = 0 := by intro b; cases b <;> rfl
  simp [SeqAt.shaped, PyData.canLay0, PyData.canLayAll0, PyData.depth, PyData.depthAll, h, h2]
theorem one_pl : PlB k_ONE := ⟨1, 1, rfl⟩
theorem zero_pl : PlB k_ZERO := ⟨0, 1, rfl⟩
theorem ev_end1 (p : Ob) (pl : List PyData) (o : Int) (hp : ∀ d ∈ pl, PlB d) (bs : List Bool) (g : Bool) (a b c : Option Vl) (hl : bs.length = pl.length) (h0 : 0 < pl.length) : m_end1 [some (.dat (.int o)), some (.ref 1), some (.dat (.bool g)), a, b, c] (LS p (stD pl bs)) =
    if (bs[bs.length - 1]? == some true) && oneB pl then .next [some (.dat (.int (o + 1))), some (.ref 1), some (.dat (.bool true)), a, b, c] (LS p (stD pl (bs.set (bs.length - 1) false))) else .next [some (.dat (.int o)), some (.ref 1), some (.dat (.bool g)), a, b, c] (LS p (stD pl bs)) := by
  obtain ⟨x, hx⟩ := get_some (show pl.length - 1 < bs.length by omega)
  obtain ⟨d, hd⟩ := get_some (show pl.length - 1 < pl.length by omega)
  have pd := hp d (List.mem_of_getElem? hd)
  have u1 : (stD pl bs).length = pl.length := stD_len hl
  have gm : ((stD pl bs).map Vl.dat)[((stD pl bs).map Vl.dat).length - 1]? = some (.dat (.tuple [d, wayS x])) := by
    rw [List.length_map, u1, List.getElem?_map, stD_get hd hx]; rfl
  have i1 : ixV (.ref 1) (.dat (.int (-1))) (LS p (stD pl bs)) = _ := ix_ref_last (ls_get p (stD pl bs)) gm
  have ng : ∀ S : Sto, ineg (.dat (.int 1)) S = some (.val (.dat (.int (-1))), S) := fun _ => rfl
  have ad : ∀ S : Sto, addV (.dat (.int o)) (.dat (.int 1)) S = some (.val (.dat (.int (o + 1))), S) := fun _ => rfl
  have s1 := shaped_st x pd
  have s2 := shaped_st true one_pl
  have q := eqv_st x true pd one_pl
  have o1 : oneB pl = PyData.eqv d k_ONE := by simp [oneB, hd]
  have n1 : L2.ixN pl.length (-1) = some (pl.length - 1) := ixN_last h0
  rw [o1, hl, hx]
  change SeqAt.shaped (.tuple [.tuple [.int 1, .int 1], .str "ahead"]) = true at s2
  change PyData.eqv (.tuple [d, wayS x]) (.tuple [.tuple [.int 1, .int 1], .str "ahead"]) = _ at q
  cases x with
  | false => simp [m_end1, i1, ng, toDats, s1, s2, q]
  | true =>
    cases q1 : PyData.eqv d k_ONE with
    | false => simp [m_end1, i1, ng, toDats, s1, s2, q, q1]
    | true =>
      have z := (eqv_pl pd one_pl).mp q1
      subst z
      have t1 : (stD pl bs).set (pl.length - 1) (.tuple [.tuple [.int 1, .int 1], .str "back"]) = stD pl (bs.set (pl.length - 1) false) := stD_set false hd
      simp [m_end1, i1, ng, ad, toDats, s1, s2, q, q1, n1, u1, ls_set, t1]
theorem ev_end2 (p : Ob) (pl : List PyData) (o : Vl) (hp : ∀ d ∈ pl, PlB d) (bs : List Bool) (g : Bool) (a b c : Option Vl) (hl : bs.length = pl.length) (h0 : 0 < pl.length) : m_end2 [some o, some (.ref 1), some (.dat (.bool g)), a, b, c] (LS p (stD pl bs)) =
    if (bs[0]? == some false) && zeroB pl then .next [some o, some (.ref 1), some (.dat (.bool true)), a, b, c] (LS p (stD pl (bs.set 0 true))) else .next [some o, some (.ref 1), some (.dat (.bool g)), a, b, c] (LS p (stD pl bs)) := by
  obtain ⟨x, hx⟩ := get_some (show 0 < bs.length by omega)
  obtain ⟨d, hd⟩ := get_some (show 0 < pl.length by omega)
  have pd := hp d (List.mem_of_getElem? hd)
  have u1 : (stD pl bs).length = pl.length := stD_len hl
  have gm : ((stD pl bs).map Vl.dat)[0]? = some (.dat (.tuple [d, wayS x])) := by
    rw [List.getElem?_map, stD_get hd hx]; rfl
  have i1 : ixV (.ref 1) (.dat (.int 0)) (LS p (stD pl bs)) = _ := ix_ref (i := 0) (ls_get p (stD pl bs)) gm
  have s1 := shaped_st x pd
  have s2 := shaped_st false zero_pl
  have q := eqv_st x false pd zero_pl
  have o1 : zeroB pl = PyData.eqv d k_ZERO := by simp [zeroB, hd]
  have n1 : L2.ixN pl.length 0 = some 0 := ixN_nat (i := 0) h0
  rw [o1, hx]
  change SeqAt.shaped (.tuple [.tuple [.int 0, .int 1], .str "back"]) = true at s2
  change PyData.eqv (.tuple [d, wayS x]) (.tuple [.tuple [.int 0, .int 1], .str "back"]) = _ at q
  cases x with
  | true => simp [m_end2, i1, toDats, s1, s2, q]
  | false =>
    cases q1 : PyData.eqv d k_ZERO with
    | false => simp [m_end2, i1, toDats, s1, s2, q, q1]
    | true =>
      have z := (eqv_pl pd zero_pl).mp q1
      subst z
      have t1 : (stD pl bs).set 0 (.tuple [.tuple [.int 0, .int 1], .str "ahead"]) = stD pl (bs.set 0 true) := stD_set true hd
      simp [m_end2, i1, toDats, s1, s2, q, q1, n1, u1, ls_set, t1]
theorem ends_len (on z : Bool) (bs : List Bool) (o : Int) (g : Bool) : (endsA on z bs o g).1.length = bs.length := by
  unfold endsA
  dsimp only
  split <;> split <;> simp
theorem ev_ends (p : Ob) (pl : List PyData) (o : Int) (hp : ∀ d ∈ pl, PlB d) (bs : List Bool) (g : Bool) (a b c : Option Vl) (hl : bs.length = pl.length) (h0 : 0 < pl.length) : (mseq m_end1 m_end2) [some (.dat (.int o)), some (.ref 1), some (.dat (.bool g)), a, b, c] (LS p (stD pl bs)) = .next [some (.dat (.int (endsA (oneB pl) (zeroB pl) bs o g).2.1)), some (.ref 1), some (.dat (.bool (endsA (oneB pl) (zeroB pl) bs o g).2.2)), a, b, c] (LS p (stD pl (endsA (oneB pl) (zeroB pl) bs o g).1)) := by
  rw [v_mseq, ev_end1 p pl o hp bs g a b c hl h0]
  unfold endsA
  dsimp only
  cases q1 : ((bs[bs.length - 1]? == some true) && oneB pl) with
  | true =>
    have e := ev_end2 p pl (.dat (.int (o + 1))) hp (bs.set (bs.length - 1) false) true a b c (by simp [hl]) h0
    show m_end2 _ _ = _
    rw [e]
    simp only [if_pos]
    cases ((bs.set (bs.length - 1) false)[0]? == some false && zeroB pl) <;> rfl
  | false =>
    have e := ev_end2 p pl (.dat (.int o)) hp bs g a b c hl h0
    show m_end2 _ _ = _
    rw [e]
    simp only [Bool.false_eq_true, if_false]
    cases (bs[0]? == some false && zeroB pl) <;> rfl
def m_turn : MS := (mseq (mset 2 (mC (.bool false)))
    (mseq (mfor (mrng1 (mcons (mw (m2 (mw (mN (mcons (mVar 1) mnil) lenV)) (mC (.int 1)) isub)) mnil)) (mgN 3) m_pair) (mseq m_end1 m_end2)))
theorem ev_turn (p : Ob) (pl : List PyData) (o : Int) (hp : ∀ d ∈ pl, PlB d) (bs : List Bool) (g : Bool) (a b c : Option Vl) (hl : bs.length = pl.length) (h0 : 0 < pl.length) (h9 : pl.length < 100) : ∃ a2 b2 c2, m_turn [some (.dat (.int o)), some (.ref 1), some (.dat (.bool g)), a, b, c] (LS p (stD pl bs)) = .next [some (.dat (.int (endsA (oneB pl) (zeroB pl) (passA (sames pl) (bs.length - 1) 0 bs false).1 o (passA (sames pl) (bs.length - 1) 0 bs false).2).2.1)), some (.ref 1), some (.dat (.bool (endsA (oneB pl) (zeroB pl) (passA (sames pl) (bs.length - 1) 0 bs false).1 o (passA (sames pl) (bs.length - 1) 0 bs false).2).2.2)), a2, b2, c2] (LS p (stD pl (endsA (oneB pl) (zeroB pl) (passA (sames pl) (bs.length - 1) 0 bs false).1 o (passA (sames pl) (bs.length - 1) 0 bs false).2).1)) := by
  obtain ⟨a2, b2, c2, e⟩ := ev_pairs p pl (.dat (.int o)) hp (pl.length - 1) 0 bs false a b c hl (by omega)
  have e9 := ev_ends p pl o hp (passA (sames pl) (pl.length - 1) 0 bs false).1 (passA (sames pl) (pl.length - 1) 0 bs false).2 a2 b2 c2 ((pass_len _ _ _ _ _).trans hl) h0
  refine ⟨a2, b2, c2, ?_⟩
  rw [hl]
  have u1 : (stD pl bs).length = pl.length := stD_len hl
  have e1 : ∀ S : Sto, isub (.dat (.int pl.length)) (.dat (.int 1)) S = some (.val (.dat (.int (pl.length - 1 : Int))), S) := fun _ => rfl
  have e2 : ((pl.length : Int) - 1).toNat = pl.length - 1 := by omega
  have e3 : (rngV 0 (pl.length - 1)).length = pl.length - 1 := rngV_len _ _
  have e4 : -4611686018427387904 ≤ (pl.length : Int) - 1 ∧ (pl.length : Int) - 1 < 4611686018427387904 := by omega
  have e5 : lenV [.ref 1] (LS p (stD pl bs)) = some (.val (.dat (.int pl.length)), LS p (stD pl bs)) := by simp [lenV, itemsOf, LS, u1]
  have e6 : m_turn [some (.dat (.int o)), some (.ref 1), some (.dat (.bool g)), a, b, c] (LS p (stD pl bs)) = (loop (.st (rngV 0 (pl.length - 1))) (fun w => mseq (fun env S => (mgN 3 w env S).pl) m_pair) (pl.length - 1) 0 [some (.dat (.int o)), some (.ref 1), some (.dat (.bool false)), a, b, c] (LS p (stD pl bs))).bind (mseq m_end1 m_end2) := by
    simp [m_turn, e1, e2, e3, e4, e5]
  rw [e6, e]
  exact e9
theorem ev_settled_loop (p : Ob) (pl : List PyData) (hp : ∀ d ∈ pl, PlB d) (h0 : 0 < pl.length) (h9 : pl.length < 100) : ∀ (n : Nat) (bs : List Bool) (o : Int) (bs' : List Bool) (o' : Int) (a b c : Option Vl), bs.length = pl.length → settledA (oneB pl) (zeroB pl) (sames pl) n bs o = some (bs', o') →
    ∃ a2 b2 c2, wloop (mb (mVar 2)) m_turn n [some (.dat (.int o)), some (.ref 1), some (.dat (.bool true)), a, b, c] (LS p (stD pl bs)) = .next [some (.dat (.int o')), some (.ref 1), some (.dat (.bool false)), a2, b2, c2] (LS p (stD pl bs')) ∧ bs'.length = pl.length
  | 0, _, _, _, _, _, _, _, _, h => by cases h
  | n + 1, bs, o, bs', o', a, b, c, hl, h => by
    obtain ⟨a2, b2, c2, et⟩ := ev_turn p pl o hp bs true a b c hl h0 h9
    rw [settledA] at h
    have ln := (ends_len (oneB pl) (zeroB pl) (passA (sames pl) (bs.length - 1) 0 bs false).1 o (passA (sames pl) (bs.length - 1) 0 bs false).2).trans ((pass_len (sames pl) (bs.length - 1) 0 bs false).trans hl)
    generalize endsA (oneB pl) (zeroB pl) (passA (sames pl) (bs.length - 1) 0 bs false).1 o (passA (sames pl) (bs.length - 1) 0 bs false).2 = r at et h ln
    obtain ⟨r1, r2, r3⟩ := r
    cases r3 with
    | true =>
      simp only [if_pos] at h
      obtain ⟨a3, b3, c3, ih, hl2⟩ := ev_settled_loop p pl hp h0 h9 n r1 r2 bs' o' a2 b2 c2 ln h
      exact ⟨a3, b3, c3, by simp [et, ih], hl2⟩
    | false =>
      cases n with
      | zero => simp at h
      | succ n =>
        simp at h
        obtain ⟨rfl, rfl⟩ := h
        exact ⟨a2, b2, c2, by simp [et], ln⟩
end Qk68
/-! text E68 -/
set_option Elab.async false
set_option linter.all false
set_option maxRecDepth 100000
set_option maxHeartbeats 4000000
set_option autoImplicit false
namespace Qk68
open PySem PySem.Spec Bk
/-! ### the law's settling, whole -/
theorem trim_clean (p : Ob) (o : Ob) (h : p.cl 1 = true) : trim 1 [p, o] = [p] := by simp [trim, h]
theorem ev_law_settled (p : Ob) (hc : p.cl 1 = true) (pl : List PyData) (hp : ∀ d ∈ pl, PlB d) (h0 : 0 < pl.length) (h9 : pl.length < 100) (n : Nat) (bs bs' : List Bool) (o o' : Int) (hl : bs.length = pl.length) (h : settledA (oneB pl) (zeroB pl) (sames pl) n bs o = some (bs', o')) :
    F__law_settled n [.dat (.int o), .dat (.tuple (stD pl bs))] [p] = .ok (.val (.dat (.tuple [.int o', .tuple (stD pl bs')]))) [p] := by
  obtain ⟨a, b, c, e, hl2⟩ := ev_settled_loop p pl hp h0 h9 n bs o bs' o' none none none hl h
  have e2 : argm (.new ((stD pl bs).map Vl.dat)) [p] = some (.ref 1, LS p (stD pl bs)) := rfl
  have e3 : tupV [.ref 1] (LS p (stD pl bs')) = some (.val (.dat (.tuple (stD pl bs'))), LS p (stD pl bs')) := by
    simp [tupV, lsOf, LS]
  have e4 : trim 1 (LS p (stD pl bs')) = [p] := trim_clean _ _ hc
  have e0 : F__law_settled n [.dat (.int o), .dat (.tuple (stD pl bs))] [p] = trimO 1 (match (wloop (mb (mVar 2)) m_turn n [some (.dat (.int o)), some (.ref 1), some (.dat (.bool true)), none, none, none] (LS p (stD pl bs))).bind (mret (me (mtup (mcons (mVar 0) (mcons (mw (mN (mcons (mVar 1) mnil) tupV)) mnil))))) with
    | .next _ S => .ok (.val (.dat .none)) S
    | .ret r S => .ok r S
    | .exn k d _ S => .exn k d S
    | .fail => .fail) := by
    simp [F__law_settled, m__law_settled, trimF, ev0, listV, itemsOf, e2]
    rfl
  rw [e0, e]
  simp [e3, toDats, e4, Rv.cl, Vl.cl]
/-! ### both settlings agree -/
theorem mem_allL : ∀ (bs : List Bool), bs ∈ allL bs.length
  | [] => List.mem_singleton.mpr rfl
  | b :: r => by
    show b :: r ∈ (allL r.length).flatMap _
    rw [List.mem_flatMap]
    exact ⟨r, mem_allL r, by cases b <;> simp⟩
theorem okA_use {n : Nat} (h : okA n = true) {bs es : List Bool} {on z : Bool} (h1 : bs.length = n) (h2 : es.length = n - 1) (h3 : (on && z && es.all id) = false) : ∃ r, settleA on z es 60 bs 0 = some r ∧ settledA on z es 60 bs 0 = some r := by
  unfold okA at h
  have a := List.all_eq_true.mp h bs (h1 ▸ mem_allL bs)
  have b := List.all_eq_true.mp a es (h2 ▸ mem_allL es)
  have c := List.all_eq_true.mp b on (by cases on <;> simp)
  have d := List.all_eq_true.mp c z (by cases z <;> simp)
  rw [h3, Bool.false_or, Bool.and_eq_true] at d
  obtain ⟨r, hr⟩ := Option.isSome_iff_exists.mp d.1
  refine ⟨r, hr, ?_⟩
  have := d.2
  rw [hr] at this
  exact (beq_iff_eq.mp this).symm
theorem sames_len : ∀ pl : List PyData, (sames pl).length = pl.length - 1
  | [] => rfl
  | [_] => rfl
  | x :: y :: r => by
    have := sames_len (y :: r)
    simp only [sames, List.length_cons] at this ⊢
    omega
theorem sames_all : ∀ (pl : List PyData) (d : PyData), (∀ x ∈ d :: pl, PlB x) → (sames (d :: pl)).all id = true → ∀ x ∈ d :: pl, x = d
  | [], d, _, _, x, h => by simpa using h
  | y :: r, d, hp, h, x, hx => by
    simp only [sames, List.all_cons, Bool.and_eq_true, id] at h
    have e : d = y := (eqv_pl (hp d (by simp)) (hp y (by simp))).mp h.1
    subst e
    rcases List.mem_cons.mp hx with rfl | hx
    · rfl
    · exact sames_all r d (fun z hz => hp z (List.mem_cons_of_mem _ hz)) h.2 x hx
theorem not_both (pl : List PyData) (hp : ∀ d ∈ pl, PlB d) (h0 : 0 < pl.length) : (oneB pl && zeroB pl && (sames pl).all id) = false := by
  cases q : (oneB pl && zeroB pl && (sames pl).all id) with
  | false => rfl
  | true =>
    rw [Bool.and_eq_true, Bool.and_eq_true] at q
    obtain ⟨⟨q1, q2⟩, q3⟩ := q
    match pl, h0 with
    | d :: r, _ =>
      have al := sames_all r d hp q3
      have z : d = k_ZERO := by
        simp [zeroB] at q2
        exact (eqv_pl (hp d (by simp)) zero_pl).mp q2
      obtain ⟨e, he⟩ := get_some (show (d :: r).length - 1 < (d :: r).length by simp)
      have m := List.mem_of_getElem? he
      have o : e = k_ONE := by
        unfold oneB at q1
        rw [he] at q1
        exact (eqv_pl (hp e m) one_pl).mp q1
      have := al e m
      rw [o, z] at this
      simp [k_ONE, k_ZERO] at this
theorem both_settle (pl : List PyData) (bs : List Bool) (hp : ∀ d ∈ pl, PlB d) (h0 : 0 < pl.length) (h4 : pl.length ≤ 4) (hl : bs.length = pl.length) : ∃ bs' o', settleB pl 60 bs 0 = some (bs', o') ∧ settledA (oneB pl) (zeroB pl) (sames pl) 60 bs 0 = some (bs', o') := by
  have nb := not_both pl hp h0
  have k : okA pl.length = true := by
    have : pl.length = 1 ∨ pl.length = 2 ∨ pl.length = 3 ∨ pl.length = 4 := by omega
    rcases this with e | e | e | e <;> rw [e]
    · exact okA1
    · exact okA2
    · exact okA3
    · exact okA4
  obtain ⟨⟨bs', o'⟩, a, b⟩ := okA_use k hl (sames_len pl) nb
  exact ⟨bs', o', by rw [settleA_eq pl 60 bs 0 hl]; exact a, b⟩
end Qk68
/-! text G68 -/
set_option Elab.async false
set_option linter.all false
set_option maxRecDepth 100000
set_option maxHeartbeats 4000000
set_option autoImplicit false
namespace Qk68
open PySem PySem.Spec Bk
/-! ### the crew is made -/
theorem stD_mem {pl : List PyData} {bs : List Bool} {x : PyData} (h : x ∈ stD pl bs) : ∃ d b, x = .tuple [d, wayS b] := by
  obtain ⟨i, hi⟩ := List.mem_iff_getElem?.mp h
  simp [stD, List.getElem?_zipWith] at hi
  split at hi
  · simp at hi; exact ⟨_, _, hi.symm⟩
  · simp at hi
theorem stD_map {pl : List PyData} {bs : List Bool} (hl : bs.length = pl.length) : (stD pl bs).map fstD = pl := by
  induction pl generalizing bs with
  | nil => simp [stD]
  | cons d r ih =>
    match bs, hl with
    | b :: bs, hl =>
      have := ih (bs := bs) (by simpa using hl)
      simp only [stD, List.zipWith_cons_cons, List.map_cons] at this ⊢
      rw [this]; rfl
def aheadB : PyData → Bool
  | .tuple [_, y] => PyData.eqv y (.str "ahead")
  | _ => false
theorem eq_ahead : ∀ b, PyData.eqv (wayS b) (.str "ahead") = b := by decide +kernel
theorem stD_ahead {pl : List PyData} {bs : List Bool} (hl : bs.length = pl.length) : (stD pl bs).map aheadB = bs := by
  induction pl generalizing bs with
  | nil =>
    match bs, hl with
    | [], _ => simp [stD]
  | cons d r ih =>
    match bs, hl with
    | b :: bs, hl =>
      have := ih (bs := bs) (by simpa using hl)
      simp only [stD, List.zipWith_cons_cons, List.map_cons] at this ⊢
      rw [this]
      simp [aheadB, eq_ahead]
theorem ev_init (p : Ob) (cs : PyData) (ps bk : PyData) (pl : List PyData) (bs bs' : List Bool) (o' : Int) (n : Nat) (hp : ∀ d ∈ pl, PlB d) (h0 : 0 < pl.length) (h9 : pl.length < 100) (hl : bs.length = pl.length) (h : settleB pl n bs 0 = some (bs', o')) :
    F_Crew___init__ n [.ref 1, .dat (.tuple [.tuple [cs, ps], bk]), .dat (.tuple (stD pl bs))] [p, .ins 6 []] = .ok (.val (.dat .none)) (CS p cs ps bk pl k_ZERO o' bs') := by
  have e := ev_settle p cs ps bk pl k_ZERO hp h0 h9 n bs 0 bs' o' hl h
  have u1 : (stD pl bs).length = pl.length := stD_len hl
  have s3 : ∀ b, SeqAt.shaped (wayS b) = true := fun b => by cases b <;> decide +kernel
  have s4 : SeqAt.shaped (.str "ahead") = true := by decide +kernel
  have e1 : ∀ (env0 : Ev) (S : Sto), env0.length = 5 → lcl (.st ((stD pl bs).map .dat)) env0 (mgtup 2 (mgcons (mgN 3) (mgcons (mgN 4) mgnil))) myes (mVar 3) (stD pl bs).length 0 [] S = .ok (.new (pl.map .dat)) S := by
    intro env0 S he
    match env0, he with
    | [a, b, c, d, e], _ =>
      have z := dat_map (stD pl bs) [a, b, c, d, e] (mgtup 2 (mgcons (mgN 3) (mgcons (mgN 4) mgnil))) myes (mVar 3) S fstD (fun z hz => by
        obtain ⟨x, y, rfl⟩ := stD_mem hz
        exact ⟨[a, b, c, some (.dat x), some (.dat (wayS y))], by simp [itemsOf], rfl, by simp [fstD]⟩) (by omega)
      rw [stD_map hl] at z
      exact z
  have e2 : ∀ (env0 : Ev) (S : Sto), env0.length = 5 → lcl (.st ((stD pl bs).map .dat)) env0 (mgtup 2 (mgcons (mgN 3) (mgcons (mgN 4) mgnil))) myes (mw (m2 (mVar 4) (mC (.str "ahead")) (eqv false))) (stD pl bs).length 0 [] S = .ok (.new (bV bs)) S := by
    intro env0 S he
    match env0, he with
    | [a, b, c, d, e], _ =>
      have z := all_map (stD pl bs) [a, b, c, d, e] (mgtup 2 (mgcons (mgN 3) (mgcons (mgN 4) mgnil))) myes (mw (m2 (mVar 4) (mC (.str "ahead")) (eqv false))) S aheadB (fun z hz => by
        obtain ⟨x, y, rfl⟩ := stD_mem hz
        exact ⟨[a, b, c, some (.dat x), some (.dat (wayS y))], by simp [itemsOf], rfl, by simp [aheadB, s3, s4]⟩) (by omega)
      have w : ((stD pl bs).map fun d => Vl.dat (.bool (aheadB d))) = bV bs := by
        rw [bV, ← stD_ahead hl, List.map_map, stD_ahead hl]; rfl
      rw [w] at z
      exact z
  have e3 : ∀ S : Sto, argw (.new (pl.map Vl.dat)) S = some (.dat (.list pl), S) := argw_new pl
  have e4 : ∀ S : Sto, argm (.new (bV bs)) S = some (.ref S.length, S ++ [.lst (bV bs)]) := fun _ => rfl
  have e5 : ∀ S : Sto, argw (.new (bV bs)) S = some (.dat (.list (bs.map .bool)), S) := fun S => by
    have := argw_newb bs (fun b => b) S
    exact this
  have e6 : ([p, .ins 6 [("cuts", .dat cs), ("people", .dat ps), ("backs", .dat bk), ("places", .dat (.list pl)), ("ahead", .ref 2), ("out", .dat (.int 0)), ("time", .dat k_ZERO)], .lst (bV bs)] : Sto) = CS p cs ps bk pl k_ZERO 0 bs := rfl
  have lm : (crewF cs ps bk pl k_ZERO 0).lookup ("settle" : Str) = none := rfl
  have f0 : ∀ w : Vl, putFv "cuts" w ([] : List (Str × Vl)) = ([("cuts", w)] : List (Str × Vl)) := by intros; rfl
  have f1 : ∀ a0 w : Vl, putFv "people" w ([("cuts", a0)] : List (Str × Vl)) = ([("cuts", a0), ("people", w)] : List (Str × Vl)) := by intros; rfl
  have f2 : ∀ a0 a1 w : Vl, putFv "backs" w ([("cuts", a0), ("people", a1)] : List (Str × Vl)) = ([("cuts", a0), ("people", a1), ("backs", w)] : List (Str × Vl)) := by intros; rfl
  have f3 : ∀ a0 a1 a2 w : Vl, putFv "places" w ([("cuts", a0), ("people", a1), ("backs", a2)] : List (Str × Vl)) = ([("cuts", a0), ("people", a1), ("backs", a2), ("places", w)] : List (Str × Vl)) := by intros; rfl
  have f4 : ∀ a0 a1 a2 a3 w : Vl, putFv "ahead" w ([("cuts", a0), ("people", a1), ("backs", a2), ("places", a3)] : List (Str × Vl)) = ([("cuts", a0), ("people", a1), ("backs", a2), ("places", a3), ("ahead", w)] : List (Str × Vl)) := by intros; rfl
  have f5 : ∀ a0 a1 a2 a3 a4 w : Vl, putFv "out" w ([("cuts", a0), ("people", a1), ("backs", a2), ("places", a3), ("ahead", a4)] : List (Str × Vl)) = ([("cuts", a0), ("people", a1), ("backs", a2), ("places", a3), ("ahead", a4), ("out", w)] : List (Str × Vl)) := by intros; rfl
  have f6 : ∀ a0 a1 a2 a3 a4 a5 w : Vl, putFv "time" w ([("cuts", a0), ("people", a1), ("backs", a2), ("places", a3), ("ahead", a4), ("out", a5)] : List (Str × Vl)) = ([("cuts", a0), ("people", a1), ("backs", a2), ("places", a3), ("ahead", a4), ("out", a5), ("time", w)] : List (Str × Vl)) := by intros; rfl
  simp only [u1] at e1 e2
  simp [F_Crew___init__, m_Crew___init__, trimF, ev0, itemsOf, insAt, f0, f1, f2, f3, f4, f5, f6, srcOf, wipeE, e1, e2, e3, e4, u1]
  unfold crewF at lm
  have tr : trim 2 (CS p cs ps bk pl k_ZERO o' bs') = CS p cs ps bk pl k_ZERO o' bs' := by simp [trim, CS, crewF, Ob.cl, Vl.cl]
  simp [e6, lm, e, tr, Rv.cl, Vl.cl]
end Qk68
/-! text H68 -/
set_option Elab.async false
set_option linter.all false
set_option maxRecDepth 100000
set_option maxHeartbeats 4000000
set_option autoImplicit false
namespace Qk68
open PySem PySem.Spec Bk
theorem lcl_dyn (n : Nat) (c : List Vl) (env0 : Ev) (mg : MG) (mt : MT) (me : MW) (S : Sto) (hS : S[n]? = some (.lst c)) (f : Vl → Vl) (h : ∀ w ∈ c, ∃ env2, mg w env0 S = .next env2 S ∧ mt env2 S = .ok true S ∧ me env2 S = .ok (f w) S) (hz : c.length < 1000000) :
    lcl (.dyn n c.length) env0 mg mt me c.length 0 [] S = .ok (.new (c.map f)) S := by
  have key : ∀ (k i : Nat) (acc : List Vl), i + k = c.length → acc.length = i → lcl (.dyn n c.length) env0 mg mt me k i acc S = .ok (.new (acc ++ (c.drop i).map f)) S := by
    intro k
    induction k with
    | zero =>
      intro i acc hi ha
      have e : Src.stop (.dyn n c.length) S i = true := by simp [Src.stop, hS]; omega
      rw [lcl, if_pos e, List.drop_eq_nil_of_le (by omega)]
      simp
    | succ k ih =>
      intro i acc hi ha
      have hlt : i < c.length := by omega
      have e : Src.at (.dyn n c.length) S i = some c[i] := by simp [Src.at, hS, hlt]
      obtain ⟨env2, h1, h3, h4⟩ := h c[i] (List.getElem_mem hlt)
      rw [lcl, e]
      simp only [h1, h3, h4]
      rw [if_pos (by omega), ih (i + 1) (acc ++ [f c[i]]) (by omega) (by simp; omega), List.drop_eq_getElem_cons hlt, List.map_cons, List.append_assoc]
      rfl
  simpa using key c.length 0 [] (by omega) rfl
theorem zip_st (pl : List PyData) (bs : List Bool) : zipD pl (bs.map wayS) = stD pl bs := by
  simp [zipD, stD, List.zipWith_map_right]
theorem ev_stands (p : Ob) (c pe bk : PyData) (pl : List PyData) (t : PyData) (o : Int) (bs : List Bool) (hl : bs.length = pl.length) (h9 : pl.length < 100) : F_Crew_stands [.ref 1] (CS p c pe bk pl t o bs) = .ok (.val (.dat (.tuple (stD pl bs)))) (CS p c pe bk pl t o bs) := by
  have bl : (bV bs).length = bs.length := by simp [bV]
  have e1 := lcl_dyn 2 (bV bs) [some (.ref 1), none, none] (mgN 2) myes (mw (mif (mb (mVar 2)) (me (mC (.str "ahead"))) (me (mC (.str "back"))))) (CS p c pe bk pl t o bs) rfl (fun w => match w with
    | .dat (.bool b) => .dat (wayS b)
    | w => w) (fun w hw => by
      obtain ⟨b, _, rfl⟩ := List.mem_map.mp hw
      refine ⟨[some (.ref 1), none, some (.dat (.bool b))], rfl, rfl, ?_⟩
      cases b <;> rfl) (by omega)
  have e2 : (bV bs).map (fun w => match w with
    | .dat (.bool b) => .dat (wayS b)
    | w => w) = (bs.map wayS).map Vl.dat := by simp [bV]
  rw [e2] at e1
  have e3 : srcOf (CS p c pe bk pl t o bs) (.ref 2) = some (.dyn 2 (bV bs).length) := rfl
  have e4 : ∀ S : Sto, argw (.new ((bs.map wayS).map Vl.dat)) S = some (.dat (.list (bs.map wayS)), S) := argw_new _
  have e5 : ∀ S : Sto, argw (.new ((stD pl bs).map Vl.dat)) S = some (.dat (.list (stD pl bs)), S) := argw_new _
  have e6 : ∀ S : Sto, lzipV [.dat (.list pl), .dat (.list (bs.map wayS))] S = some (.new ((stD pl bs).map .dat), S) := fun S => by
    rw [← zip_st]; rfl
  have e7 : ∀ S : Sto, tupV [.dat (.list (stD pl bs))] S = some (.val (.dat (.tuple (stD pl bs))), S) := fun S => by
    simp only [tupV, lsOf, Option.bind_some, allDat_map, Option.map_some]
  have e8 : (Src.dyn 2 (bV bs).length).len = (bV bs).length := rfl
  simp only [List.map_map] at e1 e4
  simp [F_Crew_stands, m_Crew_stands, trimF, ev0, wipeE, e3, e8, e1, e4, e5, e6, e7, Rv.cl, Vl.cl]
theorem ev_at_once_ok (p : Ob) (hc : p.cl 1 = true) (d : PyData) (pl : List PyData) (bs bs' : List Bool) (o' : Int) (n : Nat) (hp : ∀ d ∈ pl, PlB d) (h0 : 0 < pl.length) (h9 : pl.length < 100) (hl : bs.length = pl.length) (hl' : bs'.length = pl.length) (h : settleB pl n bs 0 = some (bs', o'))
    (od : okD d = true) (ld : loB 8 d = true) (ov : okD (.tuple (stD pl bs)) = true) (lv : loB 8 (.tuple (stD pl bs)) = true) (nd : needS d (.tuple (stD pl bs)) = none) :
    F_at_once n [.dat d, .dat (.tuple (stD pl bs))] [p] = .ok (.val (.dat (.tuple [.int o', .tuple (stD pl bs')]))) [p] := by
  have e1 := ev_need_stands d (.tuple (stD pl bs)) [p] od ld ov lv
  rw [nd] at e1
  have wd : walkersB d = true := by
    cases q : walkersB d with
    | true => rfl
    | false => simp [needS, q] at nd
  obtain ⟨b, ks, rfl, _⟩ := walk_cases wd
  obtain ⟨c2, ps, rfl⟩ : ∃ c2 ps, b = .tuple [c2, ps] := by
    unfold walkersB at wd
    simp only [Bool.and_eq_true] at wd
    obtain ⟨cs, ps, rfl, _, _⟩ := brig_cases wd.1
    exact ⟨_, _, rfl⟩
  have e2 := ev_init p c2 ps (.tuple ks) pl bs bs' o' n hp h0 h9 hl h
  have e3 := ev_stands p c2 ps (.tuple ks) pl k_ZERO o' bs' hl' h9
  have lm : (crewF c2 ps (.tuple ks) pl k_ZERO o').lookup ("stands" : Str) = none := rfl
  have e4 : trim 1 (CS p c2 ps (.tuple ks) pl k_ZERO o' bs') = [p] := by simp [trim, CS, hc]
  simp [F_at_once, m_at_once, trimF, ev0, e1, e2, e3, e4, lm, toDats, Rv.cl, Vl.cl]
theorem ev_at_once_no (p : Ob) (d v : PyData) (n k : Nat) (x : PyData) (od : okD d = true) (ld : loB 8 d = true) (ov : okD v = true) (lv : loB 8 v = true) (nd : needS d v = some (k, x)) :
    F_at_once n [.dat d, .dat v] [p] = .exn k x [p] := by
  have e1 := ev_need_stands d v [p] od ld ov lv
  rw [nd] at e1
  have t : trim 1 [p] = [p] := trim_le (Nat.le_refl _)
  simp [F_at_once, m_at_once, trimF, ev0, e1, t, Rv.cl, Vl.cl]
theorem ev_stands_at_no (p : Ob) (d v th : PyData) (n k : Nat) (x : PyData) (od : okD d = true) (ld : loB 8 d = true) (ov : okD v = true) (lv : loB 8 v = true) (nd : needS d v = some (k, x)) :
    F_stands_at n [.dat d, .dat v, .dat th] [p] = .exn k x [p] := by
  have e1 := ev_need_stands d v [p] od ld ov lv
  rw [nd] at e1
  have t : trim 1 [p] = [p] := trim_le (Nat.le_refl _)
  simp [F_stands_at, m_stands_at, trimF, ev0, e1, t, Rv.cl, Vl.cl]
theorem ev_stands_at_time (p : Ob) (d v th : PyData) (n : Nat) (od : okD d = true) (ld : loB 8 d = true) (ov : okD v = true) (lv : loB 8 v = true) (oth : okD th = true) (lth : loB 8 th = true) (nd : needS d v = none) (nt : timeB th = false) :
    F_stands_at n [.dat d, .dat v, .dat th] [p] = .exn 2 th [p] := by
  have e1 := ev_need_stands d v [p] od ld ov lv
  rw [nd] at e1
  have e2 := ev_need_time th [p] oth lth
  rw [nt] at e2
  have t : trim 1 [p] = [p] := trim_le (Nat.le_refl _)
  simp [F_stands_at, m_stands_at, trimF, ev0, e1, e2, t, Rv.cl, Vl.cl]
theorem ev_outs_of_no (p : Ob) (d v th : PyData) (n k : Nat) (x : PyData) (od : okD d = true) (ld : loB 8 d = true) (ov : okD v = true) (lv : loB 8 v = true) (nd : needS d v = some (k, x)) :
    F_outs_of n [.dat d, .dat v, .dat th] [p] = .exn k x [p] := by
  have e1 := ev_need_stands d v [p] od ld ov lv
  rw [nd] at e1
  have t : trim 1 [p] = [p] := trim_le (Nat.le_refl _)
  simp [F_outs_of, m_outs_of, trimF, ev0, e1, t, Rv.cl, Vl.cl]
theorem ev_outs_of_number (p : Ob) (d v : PyData) (n : Nat) (i : Int) (od : okD d = true) (ld : loB 8 d = true) (ov : okD v = true) (lv : loB 8 v = true) (nd : needS d v = none) (ni : ¬ (0 ≤ i ∧ i ≤ 40)) :
    F_outs_of n [.dat d, .dat v, .dat (.int i)] [p] = .exn 1 (.int i) [p] := by
  have e1 := ev_need_stands d v [p] od ld ov lv
  rw [nd] at e1
  have e2 := ev_need_number i 0 40 [p]
  rw [if_neg ni] at e2
  have t : trim 1 [p] = [p] := trim_le (Nat.le_refl _)
  simp [F_outs_of, m_outs_of, trimF, ev0, e1, e2, t, k_MOST_OUT, Rv.cl, Vl.cl]
theorem ev_about_no (p : Ob) (i : Int) (d : PyData) (od : okD d = true) (ld : loB 8 d = true) (nd : walkersB d = false) :
    F__law_about [.dat (.int i), .dat d] [p] = .exn 3 d [p] := by
  have e1 := ev_need_walkers d [p] od ld
  rw [nd] at e1
  have t : trim 1 [p] = [p] := trim_le (Nat.le_refl _)
  have e2 : F_joined [.dat d] [p] = .exn 3 d [p] := by simp [F_joined, m_joined, trimF, ev0, e1, t, Rv.cl, Vl.cl]
  have e3 : F_round_of_all [.dat d] [p] = .exn 3 d [p] := by simp [F_round_of_all, m_round_of_all, trimF, ev0, e1, t, Rv.cl, Vl.cl]
  by_cases h : i = 3
  · subst h
    have q : eqv false (.dat (.int 3)) (.dat (.int 3)) [p] = some (.val (.dat (.bool true)), [p]) := rfl
    simp [F__law_about, m__law_about, trimF, ev0, q, e2, t, Rv.cl, Vl.cl]
  · have q : eqv false (.dat (.int i)) (.dat (.int 3)) [p] = some (.val (.dat (.bool (i == 3))), [p]) := by
      simp [SeqAt.shaped, PyData.canLay0, PyData.depth, PyData.eqv]
    have q2 : (i == 3) = false := by simpa using h
    rw [q2] at q
    simp [F__law_about, m__law_about, trimF, ev0, q, p0, e3, t, Rv.cl, Vl.cl]
end Qk68
/-! text I68 -/
set_option Elab.async false
set_option linter.all false
set_option maxRecDepth 100000
set_option maxHeartbeats 4000000
set_option autoImplicit false
namespace Qk68
open PySem PySem.Spec Bk
def kindI : Nat → Int
  | 3 => 0
  | 4 => 1
  | 2 => 2
  | _ => 3
theorem ev_caught0 (p : Ob) (hc : p.cl 1 = true) (d v th x : PyData) (n k : Nat) (hk : k ∈ [1, 2, 3, 4]) (hr : repC x = true) (h : F_at_once n [.dat d, .dat v] [p] = .exn k x [p]) :
    F__law_caught n [.dat (.int 0), .dat d, .dat v, .dat th] [p] = .ok (.val (.dat (.tuple [.int (kindI k), .str x.shown]))) [p] := by
  have q0 : ∀ S : Sto, eqv false (.dat (.int 0)) (.dat (.int 0)) S = some (.val (.dat (.bool true)), S) := fun _ => rfl
  simp at hk
  rcases hk with rfl | rfl | rfl | rfl
  all_goals
    simp [F__law_caught, m__law_caught, trimF, ev0, q0, h, mtryK, misc, mexval, tb_InvalidWalkers, tb_InvalidStands, tb_InvalidTime, tb_InvalidNumber, List.lookup_cons, argm, isLst, appendM, lstAt, opIsN, isNone, indexM, flV, flD, flVs, lsOf, L2.eqV, reprV, hr, toDats, trim, hc, kindI, Rv.cl, Vl.cl, List.findIdx?_cons]
theorem ev_caught1 (p : Ob) (hc : p.cl 1 = true) (d v th x : PyData) (n k : Nat) (hk : k ∈ [1, 2, 3, 4]) (hr : repC x = true) (h : F_stands_at n [.dat d, .dat v, .dat th] [p] = .exn k x [p]) :
    F__law_caught n [.dat (.int 1), .dat d, .dat v, .dat th] [p] = .ok (.val (.dat (.tuple [.int (kindI k), .str x.shown]))) [p] := by
  have q0 : ∀ S : Sto, eqv false (.dat (.int 1)) (.dat (.int 0)) S = some (.val (.dat (.bool false)), S) := fun _ => rfl
  have q1 : ∀ S : Sto, eqv false (.dat (.int 1)) (.dat (.int 1)) S = some (.val (.dat (.bool true)), S) := fun _ => rfl
  have q2 : ∀ S : Sto, eqv false (.dat (.int 1)) (.dat (.int 2)) S = some (.val (.dat (.bool false)), S) := fun _ => rfl
  simp at hk
  rcases hk with rfl | rfl | rfl | rfl
  all_goals
    simp [F__law_caught, m__law_caught, trimF, ev0, q0, q1, q2, p210, h, mtryK, misc, mexval, tb_InvalidWalkers, tb_InvalidStands, tb_InvalidTime, tb_InvalidNumber, List.lookup_cons, argm, isLst, appendM, lstAt, opIsN, isNone, indexM, flV, flD, flVs, lsOf, L2.eqV, reprV, hr, toDats, trim, hc, kindI, Rv.cl, Vl.cl, List.findIdx?_cons]
theorem ev_caught2 (p : Ob) (hc : p.cl 1 = true) (d v th x : PyData) (n k : Nat) (hk : k ∈ [1, 2, 3, 4]) (hr : repC x = true) (h : F_outs_of n [.dat d, .dat v, .dat th] [p] = .exn k x [p]) :
    F__law_caught n [.dat (.int 2), .dat d, .dat v, .dat th] [p] = .ok (.val (.dat (.tuple [.int (kindI k), .str x.shown]))) [p] := by
  have q0 : ∀ S : Sto, eqv false (.dat (.int 2)) (.dat (.int 0)) S = some (.val (.dat (.bool false)), S) := fun _ => rfl
  have q1 : ∀ S : Sto, eqv false (.dat (.int 2)) (.dat (.int 1)) S = some (.val (.dat (.bool false)), S) := fun _ => rfl
  have q2 : ∀ S : Sto, eqv false (.dat (.int 2)) (.dat (.int 2)) S = some (.val (.dat (.bool true)), S) := fun _ => rfl
  simp at hk
  rcases hk with rfl | rfl | rfl | rfl
  all_goals
    simp [F__law_caught, m__law_caught, trimF, ev0, q0, q1, q2, p210, h, mtryK, misc, mexval, tb_InvalidWalkers, tb_InvalidStands, tb_InvalidTime, tb_InvalidNumber, List.lookup_cons, argm, isLst, appendM, lstAt, opIsN, isNone, indexM, flV, flD, flVs, lsOf, L2.eqV, reprV, hr, toDats, trim, hc, kindI, Rv.cl, Vl.cl, List.findIdx?_cons]
theorem ev_caught3 (p : Ob) (hc : p.cl 1 = true) (d v th x : PyData) (n k : Nat) (hk : k ∈ [1, 2, 3, 4]) (hr : repC x = true) (h : F__law_about [.dat (.int 3), .dat d] [p] = .exn k x [p]) :
    F__law_caught n [.dat (.int 3), .dat d, .dat v, .dat th] [p] = .ok (.val (.dat (.tuple [.int (kindI k), .str x.shown]))) [p] := by
  have q0 : ∀ S : Sto, eqv false (.dat (.int 3)) (.dat (.int 0)) S = some (.val (.dat (.bool false)), S) := fun _ => rfl
  have q1 : ∀ S : Sto, eqv false (.dat (.int 3)) (.dat (.int 1)) S = some (.val (.dat (.bool false)), S) := fun _ => rfl
  have q2 : ∀ S : Sto, eqv false (.dat (.int 3)) (.dat (.int 2)) S = some (.val (.dat (.bool false)), S) := fun _ => rfl
  simp at hk
  rcases hk with rfl | rfl | rfl | rfl
  all_goals
    simp [F__law_caught, m__law_caught, trimF, ev0, q0, q1, q2, p210, h, mtryK, misc, mexval, tb_InvalidWalkers, tb_InvalidStands, tb_InvalidTime, tb_InvalidNumber, List.lookup_cons, argm, isLst, appendM, lstAt, opIsN, isNone, indexM, flV, flD, flVs, lsOf, L2.eqV, reprV, hr, toDats, trim, hc, kindI, Rv.cl, Vl.cl, List.findIdx?_cons]
theorem ev_caught4 (p : Ob) (hc : p.cl 1 = true) (d v th x : PyData) (n k : Nat) (hk : k ∈ [1, 2, 3, 4]) (hr : repC x = true) (h : F__law_about [.dat (.int 4), .dat d] [p] = .exn k x [p]) :
    F__law_caught n [.dat (.int 4), .dat d, .dat v, .dat th] [p] = .ok (.val (.dat (.tuple [.int (kindI k), .str x.shown]))) [p] := by
  have q0 : ∀ S : Sto, eqv false (.dat (.int 4)) (.dat (.int 0)) S = some (.val (.dat (.bool false)), S) := fun _ => rfl
  have q1 : ∀ S : Sto, eqv false (.dat (.int 4)) (.dat (.int 1)) S = some (.val (.dat (.bool false)), S) := fun _ => rfl
  have q2 : ∀ S : Sto, eqv false (.dat (.int 4)) (.dat (.int 2)) S = some (.val (.dat (.bool false)), S) := fun _ => rfl
  simp at hk
  rcases hk with rfl | rfl | rfl | rfl
  all_goals
    simp [F__law_caught, m__law_caught, trimF, ev0, q0, q1, q2, p210, h, mtryK, misc, mexval, tb_InvalidWalkers, tb_InvalidStands, tb_InvalidTime, tb_InvalidNumber, List.lookup_cons, argm, isLst, appendM, lstAt, opIsN, isNone, indexM, flV, flD, flVs, lsOf, L2.eqV, reprV, hr, toDats, trim, hc, kindI, Rv.cl, Vl.cl, List.findIdx?_cons]
end Qk68
/-! text J68 -/
set_option Elab.async false
set_option linter.all false
set_option maxRecDepth 100000
set_option maxHeartbeats 4000000
set_option autoImplicit false
namespace Qk68
open PySem PySem.Spec Bk
/-! ### the greatest common divisor of the law -/
theorem ev_gcd (a b : Option Vl) (S : Sto) : ∀ (n x y : Nat), y < n →
    wloop (mb (mw (m2 (mVar 3) (mC (.int 0)) (eqv true)))) (mpar 2 3 (mcons (mVar 3) (mcons (mw (m2 (mw (mN (mcons (mVar 2) mnil) intV)) (mVar 3) imod)) mnil))) n [a, b, some (.dat (.int x)), some (.dat (.int y))] S = .next [a, b, some (.dat (.int (Nat.gcd x y))), some (.dat (.int 0))] S
  | 0, _, _, h => by omega
  | n + 1, x, y, h => by
    have q : ∀ i : Int, eqv true (.dat (.int i)) (.dat (.int 0)) S = some (.val (.dat (.bool (!(i == 0)))), S) := fun i => by
      simp [SeqAt.shaped, PyData.canLay0, PyData.depth, PyData.eqv]
    by_cases z : y = 0
    · subst z
      simp [q]
    · have hy : 0 < y := by omega
      have ih := ev_gcd a b S n y (x % y) (by have := Nat.mod_lt x hy; omega)
      have m : imod (.dat (.int x)) (.dat (.int y)) S = some (.val (.dat (.int ((x % y : Nat) : Int))), S) := by
        simp [imod, modC]
        omega
      have nz : ((y : Int) == 0) = false := by simp; omega
      have g : Nat.gcd y (x % y) = Nat.gcd x y := by rw [Nat.gcd_comm x y, Nat.gcd_rec y x, Nat.gcd_comm]
      rw [g, Int.natCast_emod] at ih
      rw [Int.natCast_emod] at m
      simp [q, nz, intV, m, ih]
theorem ev_make (S : Sto) (n a b : Nat) (hb : 0 < b) (hn : b < n) (h9 : b < 1000) : F__law_make n [.dat (.int a), .dat (.int b)] S = .ok (.val (.dat (.tuple [.int ((a / Nat.gcd a b : Nat) : Int), .int ((b / Nat.gcd a b : Nat) : Int)]))) S := by
  have e := ev_gcd (some (.dat (.int a))) (some (.dat (.int b))) S n a b hn
  have l : ilt (.dat (.int b)) (.dat (.int 0)) S = some (.val (.dat (.bool false)), S) := by
    have : ¬ ((b : Int) < 0) := by omega
    simp [ilt, yesC, this]
  have ab : absV [.dat (.int a)] S = some (.val (.dat (.int a)), S) := by
    simp [absV]
    omega
  have gp : 0 < Nat.gcd a b := Nat.gcd_pos_of_pos_right a hb
  have gl : Nat.gcd a b ≤ b := Nat.gcd_le_right a hb
  have d : ∀ x : Nat, idiv (.dat (.int x)) (.dat (.int (Nat.gcd a b))) S = some (.val (.dat (.int ((x / Nat.gcd a b : Nat) : Int))), S) := fun x => by
    have c : divC x (Nat.gcd a b) = true := by
      have h1 : (0 : Int) < (Nat.gcd a b : Int) := by omega
      have h2 : (Nat.gcd a b).log2 < 64 := log2_small (by omega)
      simp [divC]
      omega
    simp [idiv, c]
  simp [F__law_make, m__law_make, trimF, ev0, l, ab, e, d, toDats, Rv.cl, Vl.cl]
end Qk68
/-! text K68 -/
set_option Elab.async false
set_option linter.all false
set_option maxRecDepth 100000
set_option maxHeartbeats 4000000
set_option autoImplicit false
namespace Qk68
open PySem PySem.Spec Bk
/-! ### a drawn fraction -/
/-- a fraction in lowest terms of small parts, above zero -/
def SpD (d : PyData) : Prop := ∃ a b : Nat, d = .tuple [.int a, .int b] ∧ 0 < a ∧ 0 < b ∧ Nat.gcd a b = 1 ∧ a < 1000 ∧ b < 1000
theorem sp_make {a b : Nat} (ha : 0 < a) (hb : 0 < b) (h1 : a < 1000) (h2 : b < 1000) : SpD (.tuple [.int ((a / Nat.gcd a b : Nat) : Int), .int ((b / Nat.gcd a b : Nat) : Int)]) := by
  have gp : 0 < Nat.gcd a b := Nat.gcd_pos_of_pos_left b ha
  refine ⟨a / Nat.gcd a b, b / Nat.gcd a b, rfl, ?_, ?_, ?_, ?_, ?_⟩
  · exact Nat.div_pos (Nat.gcd_le_left b ha) gp
  · exact Nat.div_pos (Nat.gcd_le_right a hb) gp
  · rw [Nat.gcd_div (Nat.gcd_dvd_left a b) (Nat.gcd_dvd_right a b), Nat.div_self gp]
  · exact Nat.lt_of_le_of_lt (Nat.div_le_self _ _) h1
  · exact Nat.lt_of_le_of_lt (Nat.div_le_self _ _) h2
theorem ev_speed (R S : Sto) (n : Nat) (hn : 60 ≤ n) (hp : PoolAt R S) : ∃ (d : PyData) (S' : Sto), F__law_speed n [.ref 0] S = .ok (.val (.dat d)) S' ∧ PoolAt R S' ∧ SpD d := by
  obtain ⟨i, S1, e1, p1, a1, a2⟩ := ev_take R S 6 hp (by omega) (by omega)
  obtain ⟨j, S2, e2, p2, b1, b2⟩ := ev_take R S1 3 p1 (by omega) (by omega)
  obtain ⟨x, rfl⟩ : ∃ x : Nat, i = x := ⟨i.toNat, by omega⟩
  obtain ⟨y, rfl⟩ : ∃ y : Nat, j = y := ⟨j.toNat, by omega⟩
  have m := ev_make S2 n (1 + x) (1 + y) (by omega) (by omega) (by omega)
  have q : ∀ (z : Nat) (S : Sto), addV (.dat (.int 1)) (.dat (.int z)) S = some (.val (.dat (.int ((1 + z : Nat) : Int))), S) := fun z S => by
    rw [Int.natCast_add]; rfl
  have tr : trim S.length S2 = S2 := by
    obtain ⟨xs, rfl, _⟩ := hp
    obtain ⟨ys, rfl, _⟩ := p2
    simp
  refine ⟨_, S2, ?_, p2, sp_make (a := 1 + x) (b := 1 + y) (by omega) (by omega) (by omega) (by omega)⟩
  have q2 : ∀ (z : Nat) (S : Sto), addV (.dat (.int 1)) (.dat (.int z)) S = some (.val (.dat (.int (1 + (z : Int)))), S) := fun z S => rfl
  simp only [Int.natCast_add] at m
  have m' : F__law_make n [.dat (.int (1 + (x : Int))), .dat (.int (1 + (y : Int)))] S2 = _ := m
  simp [F__law_speed, m__law_speed, trimF, ev0, e1, e2, q2, m', tr, Rv.cl, Vl.cl]
end Qk68
/-! text L68 -/
set_option Elab.async false
set_option linter.all false
set_option maxRecDepth 100000
set_option maxHeartbeats 4000000
set_option autoImplicit false
namespace Qk68
open PySem PySem.Spec Bk
theorem dats_of {Q : PyData → Prop} : ∀ {acc : List Vl}, (∀ y ∈ acc, ∃ d, y = .dat d ∧ Q d) → ∃ ds : List PyData, acc = ds.map .dat ∧ ∀ d ∈ ds, Q d
  | [], _ => ⟨[], rfl, by simp⟩
  | y :: r, h => by
    obtain ⟨d, rfl, hd⟩ := h y List.mem_cons_self
    obtain ⟨ds, rfl, hds⟩ := dats_of fun z hz => h z (List.mem_cons_of_mem _ hz)
    exact ⟨d :: ds, rfl, fun x hx => by
      rcases List.mem_cons.mp hx with rfl | hx
      · exact hd
      · exact hds x hx⟩
/-- a comprehension that draws: from each item a datum, the pool going on -/
theorem lcl_draw (c : List Vl) (env0 : Ev) (mg : MG) (me : MW) (R : Sto) (Q : PyData → Prop) (h : ∀ w ∈ c, ∀ S, PoolAt R S → ∃ env2 d S', mg w env0 S = .next env2 S ∧ me env2 S = .ok (.dat d) S' ∧ PoolAt R S' ∧ Q d) (hz : c.length < 1000000) (S : Sto) (hS : PoolAt R S) :
    ∃ (ds : List PyData) (S' : Sto), lcl (.st c) env0 mg myes me c.length 0 [] S = .ok (.new (ds.map .dat)) S' ∧ PoolAt R S' ∧ ds.length = c.length ∧ ∀ d ∈ ds, Q d := by
  obtain ⟨acc, S', e, p, l, q⟩ := lcl_inv c env0 mg myes me (PoolAt R) (fun y => ∃ d, y = .dat d ∧ Q d) (fun w hw S hS => by
    obtain ⟨env2, d, S', a, b, c, e⟩ := h w hw S hS
    exact ⟨env2, .dat d, S', a, rfl, b, c, d, rfl, e⟩) hz S hS
  obtain ⟨ds, rfl, hd⟩ := dats_of q
  exact ⟨ds, S', e, p, by simpa using l, hd⟩
theorem pool_trim {R S S' : Sto} (h : PoolAt R S) (h' : PoolAt R S') : trim S.length S' = S' := by
  obtain ⟨xs, rfl, _⟩ := h
  obtain ⟨ys, rfl, _⟩ := h'
  simp
end Qk68
/-! text M68 -/
set_option Elab.async false
set_option linter.all false
set_option maxRecDepth 100000
set_option maxHeartbeats 4000000
set_option autoImplicit false
namespace Qk68
open PySem PySem.Spec Bk
/-! ### rows of speeds -/
/-- a tuple of k drawn speeds -/
def RowD (k : Nat) (d : PyData) : Prop := ∃ ds : List PyData, d = .tuple ds ∧ ds.length = k ∧ ∀ x ∈ ds, SpD x
theorem tupV_list (ds : List PyData) (S : Sto) : tupV [.dat (.list ds)] S = some (.val (.dat (.tuple ds)), S) := by
  simp only [tupV, lsOf, Option.bind_some, allDat_map, Option.map_some]
/-- tuple([_law_speed(pool) for _ in c]) at a place of the names -/
theorem draw_row (c : List Vl) (env0 : Ev) (i : Nat) (n : Nat) (hn : 60 ≤ n) (R S : Sto) (hS : PoolAt R S) (h0 : ∀ w, (env0.set i (some w))[0]? = some (some (.ref 0))) (hz : c.length < 1000000) :
    ∃ (ds : List PyData) (S' : Sto), lcl (.st c) env0 (mgN i) myes (mw (mcall 1 (F__law_speed n) (mcons (mVar 0) mnil))) c.length 0 [] S = .ok (.new (ds.map .dat)) S' ∧ PoolAt R S' ∧ ds.length = c.length ∧ ∀ d ∈ ds, SpD d := by
  refine lcl_draw c env0 _ _ R SpD (fun w hw S hS => ?_) hz S hS
  obtain ⟨d, S', e, p, q⟩ := ev_speed R S n hn hS
  exact ⟨env0.set i (some w), d, S', rfl, by simp [h0, e], p, q⟩
end Qk68
/-! text N68 -/
set_option Elab.async false
set_option linter.all false
set_option maxRecDepth 100000
set_option maxHeartbeats 4000000
set_option autoImplicit false
namespace Qk68
open PySem PySem.Spec Bk
/-! ### the cuts -/
def mk12 (i : Int) : PyData := .tuple [.int ((i.toNat / Nat.gcd i.toNat 12 : Nat) : Int), .int ((12 / Nat.gcd i.toNat 12 : Nat) : Int)]
theorem ev_mk12 (S : Sto) (n : Nat) (hn : 60 ≤ n) (i : Int) (h0 : 0 ≤ i) : F__law_make n [.dat (.int i), .dat (.int 12)] S = .ok (.val (.dat (mk12 i))) S := by
  have e := ev_make S n i.toNat 12 (by omega) (by omega) (by omega)
  have z : ((i.toNat : Nat) : Int) = i := by omega
  rw [z] at e
  exact e
theorem map12 (is : List Int) (n : Nat) (hn : 60 ≤ n) (S : Sto) (env0 : Ev) (i : Nat) (h0 : ∀ w, (env0.set i (some w))[i]? = some (some w)) (hp : ∀ x ∈ is, 0 ≤ x) (hz : is.length < 1000000) :
    lcl (.st (is.map fun x => .dat (.int x))) env0 (mgN i) myes (mw (mcall 2 (F__law_make n) (mcons (mVar i) (mcons (mC (.int 12)) mnil)))) is.length 0 [] S = .ok (.new ((is.map mk12).map .dat)) S := by
  have z := dat_map (is.map .int) env0 (mgN i) myes (mw (mcall 2 (F__law_make n) (mcons (mVar i) (mcons (mC (.int 12)) mnil)))) S (fun d => match d with
    | .int x => mk12 x
    | d => d) (fun d hd => by
      obtain ⟨x, hx, rfl⟩ := List.mem_map.mp hd
      exact ⟨env0.set i (some (.dat (.int x))), rfl, rfl, by simp [h0, ev_mk12 S n hn x (hp x hx)]⟩) (by simpa using hz)
  simpa [Function.comp_def] using z
end Qk68
/-! text O68 -/
set_option Elab.async false
set_option linter.all false
set_option maxRecDepth 100000
set_option maxHeartbeats 4000000
set_option autoImplicit false
namespace Qk68
open PySem PySem.Spec Bk
open PySem.PyData (strOk)
/-! ### good data: shown in few signs, of small depth -/
theorem strOk_app (x y : PySem.Str) : strOk (x ++ y) = (strOk x && strOk y) := by
  show Array.all (x.cps ++ y.cps) _ = _
  rw [Array.all_append]; rfl
theorem strOk_ofString (s : String) : strOk (Str.ofString s) = true := by
  rw [Str.ofString_eq_toList]
  unfold strOk
  rw [List.all_toArray, List.all_eq_true]
  intro n hn
  obtain ⟨c, _, rfl⟩ := List.mem_map.mp hn
  have h := c.valid
  have : c.toNat < 0x110000 := by
    have h2 : c.val.toNat < 0x110000 := by
      rcases h with h | h
      · exact Nat.lt_trans h (by decide)
      · exact h.2
    exact h2
  exact decide_eq_true this
theorem strOk_join (sep : PySem.Str) (hs : strOk sep = true) : ∀ ts : List PySem.Str, (∀ t ∈ ts, strOk t = true) → strOk (Str.join sep ts) = true
  | [], _ => by show strOk Str.empty = true; decide +kernel
  | [x], h => h x (by simp)
  | x :: y :: r, h => by
    have ih := strOk_join sep hs (y :: r) (fun t ht => h t (List.mem_cons_of_mem _ ht))
    show strOk (x ++ sep ++ Str.join sep (y :: r)) = true
    rw [strOk_app, strOk_app, ih, hs, h x (by simp)]; rfl
structure Gd (k M : Nat) (d : PyData) : Prop where
  ok : okD d = true
  lo : loB k d = true
  sh : d.showable = true
  hd : d.hasDict = false
  dp : d.depth < k
  ln : d.shown.length ≤ M
  so : strOk d.shown = true
  cl : d.canLay0 = true
theorem shownAll_map : ∀ ds : List PyData, PyData.shownAll ds = ds.map PyData.shown
  | [] => rfl
  | d :: r => by rw [PyData.shownAll, shownAll_map r]; rfl
theorem showableAll_all : ∀ ds : List PyData, (∀ d ∈ ds, d.showable = true) → PyData.showableAll ds = true
  | [], _ => rfl
  | d :: r, h => by rw [PyData.showableAll, h d (by simp), showableAll_all r fun x hx => h x (by simp [hx])]; rfl
theorem hasDictAll_all : ∀ ds : List PyData, (∀ d ∈ ds, d.hasDict = false) → PyData.hasDictAll ds = false
  | [], _ => rfl
  | d :: r, h => by rw [PyData.hasDictAll, h d (by simp), hasDictAll_all r fun x hx => h x (by simp [hx])]; rfl
theorem canLayAll_all : ∀ ds : List PyData, (∀ d ∈ ds, d.canLay0 = true) → PyData.canLayAll0 ds = true
  | [], _ => rfl
  | d :: r, h => by rw [PyData.canLayAll0, h d (by simp), canLayAll_all r fun x hx => h x (by simp [hx])]; rfl
theorem depthAll_all (k : Nat) : ∀ ds : List PyData, 0 < k → (∀ d ∈ ds, d.depth < k) → PyData.depthAll ds < k
  | [], h0, _ => h0
  | d :: r, h0, h => by
    have a := h d (by simp)
    have b := depthAll_all k r h0 fun x hx => h x (by simp [hx])
    rw [PyData.depthAll]; omega
theorem sum_all (M : Nat) : ∀ ds : List PyData, (∀ d ∈ ds, d.shown.length ≤ M) → ((PyData.shownAll ds).map (·.length)).sum ≤ ds.length * M
  | [], _ => Nat.zero_le _
  | d :: r, h => by
    have a := h d (by simp)
    have b := sum_all M r fun x hx => h x (by simp [hx])
    rw [PyData.shownAll, List.map_cons, List.sum_cons, List.length_cons, Nat.succ_mul]; omega
theorem shownAll_len (ds : List PyData) : (PyData.shownAll ds).length = ds.length := by rw [shownAll_map]; simp
theorem so_all {ds : List PyData} (h : ∀ d ∈ ds, strOk d.shown = true) : ∀ t ∈ PyData.shownAll ds, strOk t = true := by
  intro t ht
  rw [shownAll_map] at ht
  obtain ⟨d, hd, rfl⟩ := List.mem_map.mp ht
  exact h d hd
theorem bound_mul {l n M s : Nat} (h : s ≤ l * M) (hl : l ≤ n) : s + 2 * l + 3 ≤ n * (M + 2) + 3 := by
  have : l * M ≤ n * M := Nat.mul_le_mul_right M hl
  rw [Nat.mul_add]
  omega
theorem gd_tup {k M n : Nat} {ds : List PyData} (hk : 0 < k) (hn : n < 1000) (hl : ds.length ≤ n) (h : ∀ d ∈ ds, Gd k M d) : Gd (k + 1) (n * (M + 2) + 3) (.tuple ds) where
  ok := by rw [okD]; exact okDs_of fun d hd => (h d hd).ok
  lo := by
    rw [loB, Bool.and_eq_true]
    exact ⟨decide_eq_true (by omega), List.all_eq_true.mpr fun d hd => (h d hd).lo⟩
  sh := by rw [PyData.showable]; exact showableAll_all ds fun d hd => (h d hd).sh
  hd := by rw [PyData.hasDict]; exact hasDictAll_all ds fun d hd => (h d hd).hd
  dp := by
    have := depthAll_all k ds hk fun d hd => (h d hd).dp
    rw [PyData.depth]; omega
  ln := by
    rw [PyData.shown]
    refine Nat.le_trans (tupleText_len_le _) ?_
    rw [shownAll_len]
    exact bound_mul (sum_all M ds fun d hd => (h d hd).ln) hl
  so := by
    rw [PyData.shown]
    unfold tupleText
    rw [strOk_app, strOk_app, strOk_ofString, strOk_join _ (strOk_ofString _) _ (so_all fun d hd => (h d hd).so), strOk_ofString]; rfl
  cl := by rw [PyData.canLay0]; exact canLayAll_all ds fun d hd => (h d hd).cl
theorem gd_lst {k M n : Nat} {ds : List PyData} (hk : 0 < k) (hn : n < 1000) (hl : ds.length ≤ n) (h : ∀ d ∈ ds, Gd k M d) : Gd (k + 1) (n * (M + 2) + 3) (.list ds) where
  ok := by rw [okD]; exact okDs_of fun d hd => (h d hd).ok
  lo := by
    rw [loB, Bool.and_eq_true]
    exact ⟨decide_eq_true (by omega), List.all_eq_true.mpr fun d hd => (h d hd).lo⟩
  sh := by rw [PyData.showable]; exact showableAll_all ds fun d hd => (h d hd).sh
  hd := by rw [PyData.hasDict]; exact hasDictAll_all ds fun d hd => (h d hd).hd
  dp := by
    have := depthAll_all k ds hk fun d hd => (h d hd).dp
    rw [PyData.depth]; omega
  ln := by
    rw [PyData.shown]
    refine Nat.le_trans (listText_len_le _) ?_
    rw [shownAll_len]
    exact bound_mul (sum_all M ds fun d hd => (h d hd).ln) hl
  so := by
    rw [PyData.shown, listText_eq_join]
    rw [strOk_app, strOk_app, strOk_ofString, strOk_join _ (strOk_ofString _) _ (so_all fun d hd => (h d hd).so), strOk_ofString]; rfl
  cl := by rw [PyData.canLay0]; exact canLayAll_all ds fun d hd => (h d hd).cl
theorem lo_mono {k : Nat} : ∀ {k' : Nat} {d : PyData}, loB k d = true → k ≤ k' → loB k' d = true := by
  induction k with
  | zero => intro k' d h _; simp [loB] at h
  | succ k ih =>
    intro k' d h hk
    match k', hk with
    | k' + 1, hk =>
      cases d with
      | list ds =>
        simp only [loB, Bool.and_eq_true, List.all_eq_true] at h ⊢
        exact ⟨h.1, fun x hx => ih (h.2 x hx) (by omega)⟩
      | tuple ds =>
        simp only [loB, Bool.and_eq_true, List.all_eq_true] at h ⊢
        exact ⟨h.1, fun x hx => ih (h.2 x hx) (by omega)⟩
      | _ => rfl
theorem Gd.mono {k k' M M' : Nat} {d : PyData} (h : Gd k M d) (hk : k ≤ k') (hM : M ≤ M') : Gd k' M' d :=
  ⟨h.ok, lo_mono h.lo hk, h.sh, h.hd, Nat.lt_of_lt_of_le h.dp hk, Nat.le_trans h.ln hM, h.so, h.cl⟩
theorem gd_int {i : Int} (h : i.natAbs < 2 ^ 64) : Gd 1 65 (.int i) where
  ok := by rw [okD]; exact decide_eq_true h
  lo := rfl
  sh := by
    rw [PyData.showable]
    exact decide_eq_true (Nat.lt_trans (log2_small h) (by decide))
  hd := by rw [PyData.hasDict]
  dp := by rw [PyData.depth]; decide
  ln := by
    rw [PyData.shown, Str.ofString_eq_toList]
    show (List.map Char.toNat (toString i).toList).toArray.size ≤ 65
    rw [List.size_toArray, List.length_map]
    exact int_text_length_le (by decide) (log2_small h)
  so := by rw [PyData.shown]; exact strOk_ofString _
  cl := by rw [PyData.canLay0]
theorem gd_non : Gd 1 65 .none := ⟨rfl, rfl, rfl, by rw [PyData.hasDict], by rw [PyData.depth]; decide, by decide +kernel, by decide +kernel, rfl⟩
theorem gd_bool (b : Bool) : Gd 1 65 (.bool b) := ⟨rfl, rfl, rfl, by rw [PyData.hasDict], by rw [PyData.depth]; decide, by cases b <;> decide +kernel, by cases b <;> decide +kernel, rfl⟩
theorem gd_ahead : Gd 1 65 (.str "ahead") := ⟨rfl, rfl, rfl, by rw [PyData.hasDict], by rw [PyData.depth]; decide, by decide +kernel, by decide +kernel, by decide +kernel⟩
theorem gd_back : Gd 1 65 (.str "back") := ⟨rfl, rfl, rfl, by rw [PyData.hasDict], by rw [PyData.depth]; decide, by decide +kernel, by decide +kernel, by decide +kernel⟩
theorem gd_Back : Gd 1 65 (.str "Back") := ⟨rfl, rfl, rfl, by rw [PyData.hasDict], by rw [PyData.depth]; decide, by decide +kernel, by decide +kernel, by decide +kernel⟩
theorem Gd.rep {k M : Nat} {d : PyData} (h : Gd k M d) (hk : k ≤ 64) (hM : M ≤ 1000000) : repC d = true := by
  unfold repC
  rw [h.sh, h.hd, decide_eq_true (show d.depth ≤ 64 by have := h.dp; omega), decide_eq_true (show d.shown.length ≤ 1000000 by have := h.ln; omega)]; rfl
theorem Gd.shaped {k M : Nat} {d : PyData} (h : Gd k M d) (hk : k ≤ 64) : SeqAt.shaped d = true := by
  unfold SeqAt.shaped
  rw [h.cl, decide_eq_true (show d.depth ≤ 64 by have := h.dp; omega)]; rfl
theorem Gd.shapedS {k M : Nat} {d : PyData} (h : Gd k M d) : SeqAt.shaped (.str d.shown) = true := by
  unfold SeqAt.shaped
  rw [PyData.canLay0, h.so]; rfl
theorem Gd.lo8 {k M : Nat} {d : PyData} (h : Gd k M d) (hk : k ≤ 8) : loB 8 d = true := lo_mono h.lo hk
end Qk68
/-! text P68 -/
set_option Elab.async false
set_option linter.all false
set_option maxRecDepth 100000
set_option maxHeartbeats 4000000
set_option autoImplicit false
namespace Qk68
open PySem PySem.Spec Bk
theorem loop_inv (xs : List Vl) (B : Vl → MS) (I : Nat → Ev → Sto → Prop) (h : ∀ (i : Nat) (w : Vl) (env : Ev) (S : Sto), xs[i]? = some w → I i env S → ∃ env' S', B w env S = .next env' S' ∧ I (i + 1) env' S') : ∀ (k i : Nat) (env : Ev) (S : Sto), i + k = xs.length → I i env S → ∃ env' S', loop (.st xs) B k i env S = .next env' S' ∧ I xs.length env' S'
  | 0, i, env, S, hi, h0 => by
    have e : i = xs.length := by omega
    subst e
    exact ⟨env, S, loop_end (Nat.le_refl _) B env S, h0⟩
  | k + 1, i, env, S, hi, h0 => by
    have hlt : i < xs.length := by omega
    have hw : xs[i]? = some xs[i] := List.getElem?_eq_getElem hlt
    obtain ⟨env', S', e, h1⟩ := h i xs[i] env S hw h0
    obtain ⟨env2, S2, e2, h2⟩ := loop_inv xs B I h k (i + 1) env' S' (by omega) h1
    exact ⟨env2, S2, by rw [loop_step hw, e]; exact e2, h2⟩
def pl_in : MS := (mIf (mb (mw (m2 (mVar 5) (mC (.int 0)) igt))) (mseq (mexpr (mmtL (mVar 2) (mcons (mw (m2 (mw (mN (mcons (mVar 5) mnil) intV)) (mC (.int 1000)) imod)) mnil) appendM))
    (mset 5 (mw (m2 (mVar 5) (mC (.int 1000)) idiv)))) mnext)
def pl_out : MS := (mseq (mset 5 (mw (mN (mcons (mw (mN (mcons (mVar 4) mnil) intV)) mnil) absV)))
    (mseq (mset 3 (mw (m2 (mw (m2 (mw (m2 (mw (m2 (mw (m2 (mVar 3) (mC (.int 48271)) imul)) (mw (m2 (mw (mN (mcons (mVar 5) mnil) intV)) (mC (.int 2147483629)) imod)) addV)) (mw (m2 (mC (.int 7)) (mw (mN (mcons (mVar 2) mnil) lenV)) imul)) addV)) (mw (mN (mcons (mw (m2 (mVar 4) (mC (.int 0)) ilt)) mnil) intV)) addV)) (mC (.int 2147483647)) imod)))
    (mIf (mb (mw (m2 (mVar 5) (mw (m2 (mC (.int 10)) (mC (.int 18)) ipow)) ige))) (mfor (mrng1 (mcons (mC (.int 60)) mnil)) (mgN 6) pl_in) mnext)))
def pl_two : MS := (mseq (mset 3 (mw (m2 (mw (m2 (mw (m2 (mw (m2 (mVar 3) (mC (.int 69621)) imul)) (mC (.int 12347)) addV)) (mVar 6) addV)) (mC (.int 2147483647)) imod)))
    (mexpr (mmtL (mVar 2) (mcons (mw (m2 (mw (m2 (mw (m2 (mw (mN (mcons (mw (m2 (mVar 3) (mw (m2 (mw (m2 (mVar 3) (mw (m2 (mC (.int 2)) (mVar 6) imul)) addV)) (mC (.int 1)) addV)) imul)) mnil) intV)) (mC (.int 2147483629)) imod)) (mC (.int 1009)) idiv)) (mC (.int 1000)) imod)) mnil) appendM)))
def PE (sc many : Vl) (m : Nat) (env : Ev) (S : Sto) : Prop := ∃ (seed : Int) (a b c : Option Vl) (xs : List Int), env = [some sc, some many, some (.ref 0), some (.dat (.int seed)), a, b, c] ∧ S = [.lst (intsV xs)] ∧ 0 ≤ seed ∧ seed < 2147483647 ∧ (∀ i ∈ xs, 0 ≤ i ∧ i < 1000) ∧ xs.length ≤ m
def PI (sc many : Vl) (m : Nat) (env : Ev) (S : Sto) : Prop := ∃ (seed left : Int) (a c : Option Vl) (xs : List Int), env = [some sc, some many, some (.ref 0), some (.dat (.int seed)), a, some (.dat (.int left)), c] ∧ S = [.lst (intsV xs)] ∧ 0 ≤ seed ∧ seed < 2147483647 ∧ (∀ i ∈ xs, 0 ≤ i ∧ i < 1000) ∧ xs.length ≤ m
theorem intsV_app (xs : List Int) (i : Int) : intsV xs ++ [.dat (.int i)] = intsV (xs ++ [i]) := by simp [intsV, intD]
theorem intsV_len (xs : List Int) : (intsV xs).length = xs.length := by simp [intsV, intD]
theorem app_pool (xs : List Int) (i : Int) (h : xs.length < 1000000) (R : Sto) : appendM (.ref 0) [.dat (.int i)] (.lst (intsV xs) :: R) = some (.val (.dat .none), .lst (intsV (xs ++ [i])) :: R) := by
  have e : lstAt (.lst (intsV xs) :: R) (.ref 0) = some (0, intsV xs) := rfl
  simp only [appendM, e, intsV_len]
  rw [if_pos h, intsV_app]
  rfl
theorem mem_app {xs : List Int} {i : Int} (h : ∀ j ∈ xs, 0 ≤ j ∧ j < 1000) (h0 : 0 ≤ i) (h1 : i < 1000) : ∀ j ∈ xs ++ [i], 0 ≤ j ∧ j < 1000 := by
  intro j hj
  rcases List.mem_append.mp hj with hj | hj
  · exact h j hj
  · rw [List.mem_singleton.mp hj]; exact ⟨h0, h1⟩
theorem small_of {i : Int} (h0 : 0 ≤ i) (h1 : i < 2 ^ 64) : i.natAbs < 2 ^ 64 := by omega
theorem ev_pl_in (sc many : Vl) (m : Nat) (hm : m < 100000) (w : Vl) (env : Ev) (S : Sto) (h : PI sc many m env S) : ∃ env' S', mseq (fun env S => .next (List.set env 6 (some w)) S) pl_in env S = .next env' S' ∧ PI sc many (m + 1) env' S' := by
  obtain ⟨seed, left, a, c, xs, rfl, rfl, s0, s1, hx, hl⟩ := h
  by_cases hp : 0 < left
  · have e1 : ∀ S : Sto, imod (.dat (.int left)) (.dat (.int 1000)) S = some (.val (.dat (.int (left % 1000))), S) := fun S => by simp [imod, modC]
    have e2 : ∀ S : Sto, idiv (.dat (.int left)) (.dat (.int 1000)) S = some (.val (.dat (.int (left / 1000))), S) := fun S => by
      have : divC left 1000 = true := by unfold divC; decide
      simp [idiv, this]
    have e3 := app_pool xs (left % 1000) (by omega) []
    have e4 : isLst [.lst (intsV xs)] (.ref 0) = true := rfl
    refine ⟨_, _, by simp [pl_in, igt, hp, e1, e2, e3, e4, intV], seed, left / 1000, a, some w, xs ++ [left % 1000], rfl, rfl, s0, s1, mem_app hx (Int.emod_nonneg _ (by decide)) (Int.emod_lt_of_pos _ (by decide)), by simp; omega⟩
  · refine ⟨_, _, by simp [pl_in, igt, hp], seed, left, a, some w, xs, rfl, rfl, s0, s1, hx, by omega⟩
theorem mod_ev (x m : Int) (h : 0 < m) (S : Sto) : imod (.dat (.int x)) (.dat (.int m)) S = some (.val (.dat (.int (x % m))), S) := by simp [imod, modC, h]
theorem mul_ev (x y : Int) (hx : x.natAbs < 2 ^ 64) (hy : y.natAbs < 2 ^ 64) (S : Sto) : imul (.dat (.int x)) (.dat (.int y)) S = some (.val (.dat (.int (x * y))), S) := by simp [imul, mulC_small hx hy]
theorem add_ev (x y : Int) (S : Sto) : addV (.dat (.int x)) (.dat (.int y)) S = some (.val (.dat (.int (x + y))), S) := rfl
theorem ev_pl_out (sc many : Vl) (m : Nat) (hm : m < 10000) (cell : Int) (env : Ev) (S : Sto) (h : PE sc many m env S) : ∃ env' S', mseq (fun env S => .next (List.set env 4 (some (.dat (.int cell)))) S) pl_out env S = .next env' S' ∧ PE sc many (m + 60) env' S' := by
  obtain ⟨seed, a, b, c, xs, rfl, rfl, s0, s1, hx, hl⟩ := h
  have e1 : ∀ S : Sto, absV [.dat (.int cell)] S = some (.val (.dat (.int (if cell < 0 then -cell else cell))), S) := fun _ => rfl
  generalize (if cell < 0 then -cell else cell) = left at e1
  have e2 := mul_ev seed 48271 (by omega) (by decide)
  have e3 := mul_ev 7 xs.length (by decide) (by omega)
  have e4 : ∀ x : Int, ∀ S : Sto, imod (.dat (.int x)) (.dat (.int 2147483629)) S = some (.val (.dat (.int (x % 2147483629))), S) := fun x => mod_ev x _ (by decide)
  have e5 : ∀ x : Int, ∀ S : Sto, imod (.dat (.int x)) (.dat (.int 2147483647)) S = some (.val (.dat (.int (x % 2147483647))), S) := fun x => mod_ev x _ (by decide)
  have e6 : lenV [.ref 0] [.lst (intsV xs)] = some (.val (.dat (.int xs.length)), [.lst (intsV xs)]) := by simp [lenV, itemsOf, intsV_len]
  have e7 : ∀ S : Sto, ipow (.dat (.int 10)) (.dat (.int 18)) S = some (.val (.dat (.int 1000000000000000000)), S) := fun S => by simp [ipow, powC]
  have e8 : ∃ z : Int, ∀ S : Sto, (lift (ilt (.dat (.int cell)) (.dat (.int 0)) S)).bind (fun r S => (lift (argw r S)).bind fun w S => (lift (intV [w] S)).bind fun r S => lift (argw r S)) = .ok (.dat (.int z)) S := by
    by_cases q : cell < 0
    · exact ⟨1, fun S => by simp [ilt, q, intV]⟩
    · exact ⟨0, fun S => by simp [ilt, q, intV]⟩
  obtain ⟨z, e8⟩ := e8
  have key : ∃ s2, 0 ≤ s2 ∧ s2 < 2147483647 ∧ mseq (fun env S => .next (List.set env 4 (some (.dat (.int cell)))) S) pl_out [some sc, some many, some (.ref 0), some (.dat (.int seed)), a, b, c] [.lst (intsV xs)] = (mIf (mb (mw (m2 (mVar 5) (mw (m2 (mC (.int 10)) (mC (.int 18)) ipow)) ige))) (mfor (mrng1 (mcons (mC (.int 60)) mnil)) (mgN 6) pl_in) mnext) [some sc, some many, some (.ref 0), some (.dat (.int s2)), some (.dat (.int cell)), some (.dat (.int left)), c] [.lst (intsV xs)] := by
    refine ⟨(seed * 48271 + left % 2147483629 + 7 * xs.length + z) % 2147483647, Int.emod_nonneg _ (by decide), Int.emod_lt_of_pos _ (by decide), ?_⟩
    by_cases q : cell < 0
    · have z1 : z = 1 := by
        have := e8 []
        simp [ilt, q, intV] at this
        exact this.symm
      subst z1
      simp [pl_out, e1, e2, e3, e4, e5, e6, intV, add_ev, ilt, q]
    · have z1 : z = 0 := by
        have := e8 []
        simp [ilt, q, intV] at this
        exact this.symm
      subst z1
      simp [pl_out, e1, e2, e3, e4, e5, e6, intV, add_ev, ilt, q]
  obtain ⟨s2, h0, h1, e⟩ := key
  rw [e]
  by_cases q : (1000000000000000000 : Int) ≤ left
  · obtain ⟨env', S', e2, hI⟩ := loop_inv (rngV 0 60) (fun w => mseq (fun env S => .next (List.set env 6 (some w)) S) pl_in) (fun i => PI sc many (m + i)) (fun i w env S hw hI => ev_pl_in sc many (m + i) (by
      have := (List.getElem?_eq_some_iff.mp hw).1
      rw [rngV_len] at this
      omega) w env S hI) 60 0 [some sc, some many, some (.ref 0), some (.dat (.int s2)), some (.dat (.int cell)), some (.dat (.int left)), c] [.lst (intsV xs)] (by rw [rngV_len]) ⟨s2, left, some (.dat (.int cell)), c, xs, rfl, rfl, h0, h1, hx, hl⟩
    refine ⟨env', S', ?_, ?_⟩
    · rw [← e2]
      have q' : ige (.dat (.int left)) (.dat (.int 1000000000000000000)) [.lst (intsV xs)] = some (.val (.dat (.bool true)), [.lst (intsV xs)]) := by simp only [ige, iop_ii, yesC, if_pos, decide_eq_true q]
      simp [e7, q', rngV_len]
    · obtain ⟨seed, left, a, c, xs, rfl, rfl, s0, s1, hx, hl⟩ := hI
      rw [rngV_len] at hl
      exact ⟨seed, a, some (.dat (.int left)), c, xs, rfl, rfl, s0, s1, hx, hl⟩
  · refine ⟨_, _, ?_, s2, some (.dat (.int cell)), some (.dat (.int left)), c, xs, rfl, rfl, h0, h1, hx, by omega⟩
    have q' : ige (.dat (.int left)) (.dat (.int 1000000000000000000)) [.lst (intsV xs)] = some (.val (.dat (.bool false)), [.lst (intsV xs)]) := by simp only [ige, iop_ii, yesC, if_pos, decide_eq_false q]
    simp [e7, q']
theorem ev_pl_two (sc many : Vl) (m : Nat) (hm : m < 100000) (k : Nat) (hk : k < 100000) (env : Ev) (S : Sto) (h : PE sc many m env S) : ∃ env' S', mseq (fun env S => .next (List.set env 6 (some (.dat (.int k)))) S) pl_two env S = .next env' S' ∧ PE sc many (m + 1) env' S' := by
  obtain ⟨seed, a, b, c, xs, rfl, rfl, s0, s1, hx, hl⟩ := h
  have e2 := mul_ev seed 69621 (by omega) (by decide)
  have e3 := mul_ev 2 k (by decide) (by omega)
  have e5 : ∀ x : Int, ∀ S : Sto, imod (.dat (.int x)) (.dat (.int 2147483647)) S = some (.val (.dat (.int (x % 2147483647))), S) := fun x => mod_ev x _ (by decide)
  have e4 : ∀ x : Int, ∀ S : Sto, imod (.dat (.int x)) (.dat (.int 2147483629)) S = some (.val (.dat (.int (x % 2147483629))), S) := fun x => mod_ev x _ (by decide)
  have e6 : ∀ x : Int, ∀ S : Sto, imod (.dat (.int x)) (.dat (.int 1000)) S = some (.val (.dat (.int (x % 1000))), S) := fun x => mod_ev x _ (by decide)
  have e7 : ∀ x : Int, ∀ S : Sto, idiv (.dat (.int x)) (.dat (.int 1009)) S = some (.val (.dat (.int (x / 1009))), S) := fun x S => by
    have : divC x 1009 = true := by unfold divC; decide
    simp [idiv, this]
  have e9 : isLst [.lst (intsV xs)] (.ref 0) = true := rfl
  obtain ⟨s2, hs⟩ : ∃ s2, s2 = (seed * 69621 + 12347 + (k : Int)) % 2147483647 := ⟨_, rfl⟩
  have h0 : 0 ≤ s2 := by rw [hs]; exact Int.emod_nonneg _ (by decide)
  have h1 : s2 < 2147483647 := by rw [hs]; exact Int.emod_lt_of_pos _ (by decide)
  have e8 := mul_ev s2 (s2 + 2 * (k : Int) + 1) (by omega) (by omega)
  have e10 := fun i : Int => app_pool xs i (by omega) []
  refine ⟨_, _, by simp [pl_two, e2, e3, e4, e5, e6, e7, e9, add_ev, ← hs, e8, intV, e10], s2, a, b, some (.dat (.int k)), xs ++ [s2 * (s2 + 2 * (k : Int) + 1) % 2147483629 / 1009 % 1000], rfl, rfl, h0, h1, mem_app hx (Int.emod_nonneg _ (by decide)) (Int.emod_lt_of_pos _ (by decide)), by simp; omega⟩
theorem mrng1_int {m : MA} {env : Ev} {S S' : Sto} (n : Int) (e6 : -(2 ^ 62) ≤ n ∧ n < 2 ^ 62) (h : m env S = .ok [.dat (.int n)] S') : mrng1 m env S = .ok (.st (rngV 0 n.toNat)) S' := by
  unfold mrng1
  rw [h]
  simp only [Out.bind_ok]
  exact if_pos e6
theorem mrng1_nat {m : MA} {env : Ev} {S S' : Sto} (n : Nat) (hn : n < 1000000) (h : m env S = .ok [.dat (.int n)] S') : mrng1 m env S = .ok (.st (rngV 0 n)) S' := by
  have e := mrng1_int (n : Int) (by omega) h
  rwa [Int.toNat_natCast] at e
theorem mfor_rng1 {m : MA} {mg : MG} {mb : MS} {env : Ev} {S S' : Sto} (n : Nat) (hn : n < 1000000) (h : m env S = .ok [.dat (.int n)] S') : mfor (mrng1 m) mg mb env S = loop (.st (rngV 0 n)) (fun w => mseq (fun env S => (mg w env S).pl) mb) n 0 env S' := by
  unfold mfor
  rw [mrng1_nat n hn h]
  show loop (.st (rngV 0 n)) _ (rngV 0 n).length 0 env S' = _
  rw [rngV_len]
def pl_end : MS := mseq (mfor (mrng1 (mcons (mVar 1) mnil)) (mgN 6) pl_two) (mret (m1 (mVar 2) revV))
def fl_out (x : Fl) : Out Rv := match x with
  | .next _ S => .ok (.val (.dat .none)) S
  | .ret r S => .ok r S
  | .exn k d _ S => .exn k d S
  | .fail => .fail
theorem ev_pool0 (is : List Int) (many : Int) (js : List PyData) (hjs : js = cutG (is.map PyData.int) none (some 63)) : F__law_pool [.ro (is.map .int), .dat (.int many)] [] = trimO 0 (fl_out ((loop (.st (js.map .dat)) (fun w => mseq (fun env S => .next (List.set env 4 (some w)) S) pl_out) js.length 0 [some (.ro (is.map .int)), some (.dat (.int many)), some (.ref 0), some (.dat (.int 32788)), none, none, none] [.lst (intsV [])]).bind pl_end)) := by
  have e0 : argm (.new []) ([] : Sto) = some (.ref 0, [.lst (intsV [])]) := rfl
  have e3 : ∀ S : Sto, argw (.new (js.map .dat)) S = some (.dat (.list js), S) := argw_new js
  have e4 : ∀ S : Sto, slV (.ro (is.map .int)) none (some 63) S = some (.new (js.map .dat), S) := fun _ => by rw [hjs]; rfl
  have m : m__law_pool = mseq (mset 2 (mwM (mlst mnil))) (mseq (mset 3 (mC (.int 32788))) (mseq (mfor (misrc (mw (mslice (mVar 0) moN (moS (mC (.int 63)))))) (mgN 4) pl_out) pl_end)) := rfl
  simp [F__law_pool, m, trimF, ev0, e0, e3, e4, srcOf]
  rfl
theorem ev_pool1 (is : List Int) (many : Nat) (hm : many ≤ 1000) (js : List PyData) (hjs : js = cutG (is.map PyData.int) none (some 63)) : ∃ (s : Int) (a b c : Option Vl) (xs : List Int), loop (.st (js.map .dat)) (fun w => mseq (fun env S => .next (List.set env 4 (some w)) S) pl_out) js.length 0 [some (.ro (is.map .int)), some (.dat (.int many)), some (.ref 0), some (.dat (.int 32788)), none, none, none] [.lst (intsV [])] = .next [some (.ro (is.map .int)), some (.dat (.int many)), some (.ref 0), some (.dat (.int s)), a, b, c] [.lst (intsV xs)] ∧ 0 ≤ s ∧ s < 2147483647 ∧ (∀ i ∈ xs, 0 ≤ i ∧ i < 1000) ∧ xs.length ≤ 3780 := by
  have hj : ∀ d ∈ js, ∃ i, d = .int i := fun d hd => by
    rw [hjs] at hd
    have := List.mem_of_mem_drop (List.mem_of_mem_take hd)
    obtain ⟨i, _, rfl⟩ := List.mem_map.mp this
    exact ⟨i, rfl⟩
  have hjl : js.length ≤ 63 := by
    rw [hjs]
    simp [cutG, HT.sIx]
    omega
  obtain ⟨env1, S1, e1, h1⟩ := loop_inv (js.map .dat) (fun w => mseq (fun env S => .next (List.set env 4 (some w)) S) pl_out) (fun i => PE (.ro (is.map .int)) (.dat (.int many)) (60 * i)) (fun i w env S hw hI => by
    obtain ⟨hi, _⟩ := List.getElem?_eq_some_iff.mp hw
    obtain ⟨d, hd, rfl⟩ := List.mem_map.mp (List.mem_of_getElem? hw)
    obtain ⟨c, rfl⟩ := hj d hd
    exact ev_pl_out _ _ (60 * i) (by rw [List.length_map] at hi; omega) c env S hI) js.length 0 [some (.ro (is.map .int)), some (.dat (.int many)), some (.ref 0), some (.dat (.int 32788)), none, none, none] [.lst (intsV [])] (by simp) ⟨32788, none, none, none, [], rfl, rfl, by omega, by omega, by simp, by simp⟩
  rw [List.length_map] at h1
  obtain ⟨s1, a1, b1, c1, xs1, rfl, rfl, z1, z2, z3, z4⟩ := h1
  exact ⟨s1, a1, b1, c1, xs1, e1, z1, z2, z3, by omega⟩
theorem ev_pool2 (sc : Vl) (many : Nat) (hm : many ≤ 1000) (s : Int) (a b c : Option Vl) (xs : List Int) (s0 : 0 ≤ s) (s1 : s < 2147483647) (hx : ∀ i ∈ xs, 0 ≤ i ∧ i < 1000) (hl : xs.length ≤ 3780) : ∃ ys : List Int, pl_end [some sc, some (.dat (.int many)), some (.ref 0), some (.dat (.int s)), a, b, c] [.lst (intsV xs)] = .ret (.new (intsV ys)) [.lst (intsV ys.reverse)] ∧ ∀ i ∈ ys, 0 ≤ i ∧ i < 1000 := by
  obtain ⟨env2, S2, e2, h2⟩ := loop_inv (rngV 0 many) (fun w => mseq (fun env S => .next (List.set env 6 (some w)) S) pl_two) (fun i => PE sc (.dat (.int many)) (3780 + i)) (fun i w env S hw hI => by
    have hi := (List.getElem?_eq_some_iff.mp hw).1
    rw [rngV_len] at hi
    rw [rng_get hi] at hw
    cases hw
    exact ev_pl_two _ _ (3780 + i) (by omega) i (by omega) env S hI) many 0 [some sc, some (.dat (.int many)), some (.ref 0), some (.dat (.int s)), a, b, c] [.lst (intsV xs)] (by rw [rngV_len]; omega) ⟨s, a, b, c, xs, rfl, rfl, s0, s1, hx, hl⟩
  obtain ⟨s2, a2, b2, c2, xs2, rfl, rfl, _, _, hx, _⟩ := h2
  refine ⟨xs2.reverse, ?_, fun i hi => hx i (List.mem_reverse.mp hi)⟩
  have e7 : revV (.ref 0) [.lst (intsV xs2)] = some (.new (intsV xs2).reverse, [.lst (intsV xs2)]) := rfl
  have e8 : (intsV xs2).reverse = intsV xs2.reverse := by simp [intsV, intD]
  have e9 : pl_end [some sc, some (.dat (.int many)), some (.ref 0), some (.dat (.int s)), a, b, c] [.lst (intsV xs)] = (loop (.st (rngV 0 many)) (fun w => mseq (fun env S => .next (List.set env 6 (some w)) S) pl_two) many 0 [some sc, some (.dat (.int many)), some (.ref 0), some (.dat (.int s)), a, b, c] [.lst (intsV xs)]).bind (mret (m1 (mVar 2) revV)) := by
    rw [pl_end, v_mseq, mfor_rng1 many (by omega) rfl]
    rfl
  rw [e9, e2]
  simp [e7, e8]
theorem ev_pool (is : List Int) (many : Nat) (hm : many ≤ 1000) : ∃ xs : List Int, F__law_pool [.ro (is.map .int), .dat (.int many)] [] = .ok (.new (intsV xs)) [] ∧ ∀ i ∈ xs, 0 ≤ i ∧ i < 1000 := by
  obtain ⟨s, a, b, c, xs, e, s0, s1, hx, hl⟩ := ev_pool1 is many hm _ rfl
  obtain ⟨ys, e2, hy⟩ := ev_pool2 (.ro (is.map .int)) many hm s a b c xs s0 s1 hx hl
  refine ⟨ys, ?_, hy⟩
  have e9 : Rv.cl 0 (.new (intsV ys)) = true := by simp [Rv.cl, intsV, Vl.cl]
  have e10 := ev_pool0 is many _ rfl
  rw [e, show ∀ E S, (Fl.next E S).bind pl_end = pl_end E S from fun _ _ => rfl, e2] at e10
  rw [e10]
  simp [fl_out, e9, trim]
end Qk68
/-! text R68 -/
set_option Elab.async false
set_option linter.all false
set_option maxRecDepth 100000
set_option maxHeartbeats 4000000
set_option autoImplicit false
namespace Qk68
open PySem PySem.Spec Bk
open L2 (Key)
/-! ### sorted ints -/
theorem isort_mem (is : List Int) (i : Int) : i ∈ isort is ↔ i ∈ is := (List.mergeSort_perm is _).mem_iff
theorem isort_len (is : List Int) : (isort is).length = is.length := (List.mergeSort_perm is _).length_eq
theorem isort_le (is : List Int) : (isort is).Pairwise (· ≤ ·) := by
  have h := List.pairwise_mergeSort (le := fun a b : Int => decide (a ≤ b)) (fun a b c h1 h2 => by simp at *; omega) (fun a b => by simp; omega) is
  exact h.imp fun h => by simpa using h
theorem isort_nodup {is : List Int} (h : is.Nodup) : (isort is).Nodup := (List.mergeSort_perm is _).nodup_iff.mpr h
theorem isort_lt {is : List Int} (h : is.Nodup) : (isort is).Pairwise (· < ·) := by
  have a := isort_le is
  have b := isort_nodup h
  exact List.Pairwise.imp₂ (R := (· ≤ ·)) (S := (· ≠ ·)) (fun x y h1 h2 => by omega) a b
/-! ### twelfths -/
theorem range13 {P : Int → Prop} (h : ∀ n : Nat, n < 13 → P n) {i : Int} (h0 : 0 ≤ i) (h1 : i ≤ 12) : P i := by
  have e : ((i.toNat : Nat) : Int) = i := by omega
  rw [← e]
  exact h _ (by omega)
theorem mk12_frac {i : Int} (h0 : 0 ≤ i) (h1 : i ≤ 12) : fracB (mk12 i) = true := range13 (P := fun i => fracB (mk12 i) = true) (by decide +kernel) h0 h1
theorem mk12_place {i : Int} (h0 : 0 ≤ i) (h1 : i ≤ 12) : placeB (mk12 i) = true := range13 (P := fun i => placeB (mk12 i) = true) (by decide +kernel) h0 h1
theorem mk12_in {i : Int} (h0 : 1 ≤ i) (h1 : i ≤ 11) : inB (mk12 i) = true := by
  have := range13 (P := fun i => (1 ≤ i ∧ i ≤ 11) → inB (mk12 i) = true) (by decide +kernel) (i := i) (by omega) (by omega)
  exact this ⟨h0, h1⟩
theorem mk12_lt {i j : Int} (h0 : 0 ≤ i) (h1 : i ≤ 12) (g0 : 0 ≤ j) (g1 : j ≤ 12) : ltB (mk12 i) (mk12 j) = decide (i < j) :=
  range13 (P := fun i => ∀ j : Int, 0 ≤ j → j ≤ 12 → ltB (mk12 i) (mk12 j) = decide (i < j)) (fun n hn j g0 g1 => range13 (P := fun j => ltB (mk12 n) (mk12 j) = decide ((n : Int) < j)) (fun m hm => by
    revert n m
    decide +kernel) g0 g1) h0 h1 j g0 g1
theorem gd_fr {a b : Int} (ha : a.natAbs < 2 ^ 64) (hb : b.natAbs < 2 ^ 64) : Gd 2 137 (.tuple [.int a, .int b]) := by
  have := gd_tup (n := 2) (M := 65) (k := 1) (ds := [.int a, .int b]) (by decide) (by decide) (by simp) (fun d hd => by
    simp at hd
    rcases hd with rfl | rfl
    · exact gd_int ha
    · exact gd_int hb)
  exact this
theorem gd_mk12 {i : Int} (h0 : 0 ≤ i) (h1 : i ≤ 12) : Gd 2 137 (mk12 i) := by
  unfold mk12
  have a : i.toNat / Nat.gcd i.toNat 12 ≤ i.toNat := Nat.div_le_self _ _
  have b : 12 / Nat.gcd i.toNat 12 ≤ 12 := Nat.div_le_self _ _
  generalize i.toNat / Nat.gcd i.toNat 12 = x at a
  generalize 12 / Nat.gcd i.toNat 12 = y at b
  exact gd_fr (by omega) (by omega)
theorem pl_mk12 (i : Int) : PlB (mk12 i) := ⟨_, _, rfl⟩
/-- drawn cuts -/
structure CutL (m : Nat) (cs : List PyData) : Prop where
  len : cs.length ≤ m
  ok : (cs.all fracB && (growB cs && cs.all inB)) = true
  gd : ∀ c ∈ cs, Gd 2 137 c
  pl : ∀ c ∈ cs, PlB c
theorem grow_lt : ∀ is : List Int, (∀ i ∈ is, 0 ≤ i ∧ i ≤ 12) → is.Pairwise (· < ·) → growB (is.map mk12) = true
  | [], _, _ => rfl
  | [_], _, _ => rfl
  | x :: y :: r, h, p => by
    have ih := grow_lt (y :: r) (fun i hi => h i (List.mem_cons_of_mem _ hi)) (List.pairwise_cons.mp p).2
    have hx := h x (by simp)
    have hy := h y (by simp)
    have lt := (List.pairwise_cons.mp p).1 y (by simp)
    show (ltB (mk12 x) (mk12 y) && growB ((y :: r).map mk12)) = true
    rw [ih, mk12_lt hx.1 hx.2 hy.1 hy.2, decide_eq_true lt]; rfl
theorem cut_of {m : Nat} {is : List Int} (hl : is.length ≤ m) (h : ∀ i ∈ is, 1 ≤ i ∧ i ≤ 11) (p : is.Pairwise (· < ·)) : CutL m (is.map mk12) where
  len := by simpa using hl
  ok := by
    have a : (is.map mk12).all fracB = true := List.all_eq_true.mpr fun c hc => by
      obtain ⟨i, hi, rfl⟩ := List.mem_map.mp hc
      have := h i hi
      exact mk12_frac (by omega) (by omega)
    have b : (is.map mk12).all inB = true := List.all_eq_true.mpr fun c hc => by
      obtain ⟨i, hi, rfl⟩ := List.mem_map.mp hc
      have := h i hi
      exact mk12_in (by omega) (by omega)
    rw [a, b, grow_lt is (fun i hi => by have := h i hi; omega) p]; rfl
  gd := fun c hc => by
    obtain ⟨i, hi, rfl⟩ := List.mem_map.mp hc
    have := h i hi
    exact gd_mk12 (by omega) (by omega)
  pl := fun c hc => by
    obtain ⟨i, hi, rfl⟩ := List.mem_map.mp hc
    exact pl_mk12 i
def kvT (ks : List Int) : List (Key × Vl) := ks.map fun z => (.inl z, .dat (.bool true))
theorem keyInts_kvT : ∀ ks : List Int, keyInts (kvT ks) = some ks
  | [] => rfl
  | z :: r => by
    show (keyInts (kvT r)).map (z :: ·) = _
    rw [keyInts_kvT r]; rfl
theorem any_kvT (ks : List Int) (z : Int) : ((kvT ks).any fun kv => decide (kv.1 = Sum.inl z)) = decide (z ∈ ks) := by
  induction ks with
  | nil => rfl
  | cons k r ih =>
    show (decide ((Sum.inl k : Key) = Sum.inl z) || (kvT r).any _) = _
    rw [ih]
    by_cases h : k = z
    · subst h; simp
    · have h' : ¬ z = k := fun e => h e.symm
      have h2 : ¬ ((Sum.inl k : Key) = Sum.inl z) := fun e => h (Sum.inl.inj e)
      simp [h', h2]
theorem put_kvT (ks : List Int) (z : Int) : putKv (kvT ks) (.inl z) (.dat (.bool true)) = kvT (if z ∈ ks then ks else ks ++ [z]) := by
  unfold putKv
  rw [any_kvT]
  by_cases h : z ∈ ks
  · rw [decide_eq_true h, if_pos rfl, if_pos h]
    unfold kvT
    rw [List.map_map]
    apply List.map_congr_left
    intro k _
    show (if (Sum.inl k : Key) = Sum.inl z then ((Sum.inl k : Key), Vl.dat (.bool true)) else (Sum.inl k, .dat (.bool true))) = _
    split <;> rfl
  · rw [decide_eq_false h, if_neg (by decide), if_neg h]
    simp [kvT]
def TE (most : Vl) (m : Nat) (env : Ev) (S : Sto) : Prop := ∃ (a : Option Vl) (ks : List Int), env = [some (.ref 0), some most, some (.dat (.int 1)), some (.dat (.int 11)), some (.ref 1), a, none] ∧ PoolAt [.dic (kvT ks)] S ∧ ks.Nodup ∧ (∀ i ∈ ks, 1 ≤ i ∧ i ≤ 11) ∧ ks.length ≤ m
def tw_in : MS := (mdput (mVar 4) (mw (m2 (mVar 2) (mw (mcall 2 F__law_take (mcons (mVar 0) (mcons (mw (m2 (mw (m2 (mVar 3) (mVar 2) isub)) (mC (.int 1)) addV)) mnil)))) addV)) (mC (.bool true)))
@[simp] theorem v_mdput (mo mi mv : MW) (env : Ev) (S : Sto) : mdput mo mi mv env S = (mv env S).fl env fun w S => (mo env S).fl env fun x S => (mi env S).fl env fun y S => match x with
  | .ref n => match S[n]? with
    | some (.dic kvs) => match keyOf y with
      | some q => if kvs.length < 1000000 then .next env (S.set n (.dic (putKv kvs q w))) else .fail
      | none => .fail
    | _ => .fail
  | _ => .fail := rfl
theorem ev_tw_in (most : Vl) (m : Nat) (hm : m < 900) (w : Vl) (env : Ev) (S : Sto) (h : TE most m env S) : ∃ env' S', mseq (fun env S => .next (List.set env 5 (some w)) S) tw_in env S = .next env' S' ∧ TE most (m + 1) env' S' := by
  obtain ⟨a, ks, rfl, hp, nd, hk, hl⟩ := h
  have sb : ∀ S : Sto, isub (.dat (.int 11)) (.dat (.int 1)) S = some (.val (.dat (.int 10)), S) := fun _ => rfl
  have ad : ∀ S : Sto, addV (.dat (.int 10)) (.dat (.int 1)) S = some (.val (.dat (.int 11)), S) := fun _ => rfl
  obtain ⟨i, S1, e1, p1, h0, h1⟩ := ev_take [.dic (kvT ks)] S 11 hp (by omega) (by omega)
  obtain ⟨xs, rfl, hx⟩ := p1
  have kl : (kvT ks).length = ks.length := by simp [kvT]
  have pk := put_kvT ks (1 + i)
  have lt : ks.length < 1000000 := by omega
  have ad2 : ∀ S : Sto, addV (.dat (.int 1)) (.dat (.int i)) S = some (.val (.dat (.int (1 + i))), S) := fun _ => rfl
  refine ⟨[some (.ref 0), some most, some (.dat (.int 1)), some (.dat (.int 11)), some (.ref 1), some w, none], [.lst (intsV xs), .dic (kvT (if 1 + i ∈ ks then ks else ks ++ [1 + i]))], ?_, some w, _, rfl, ⟨xs, rfl, hx⟩, ?_, ?_, ?_⟩
  · simp [tw_in, sb, ad, e1, ad2, keyOf, kl, lt, pk]
  · split
    · exact nd
    · rename_i h
      rw [List.nodup_append]
      exact ⟨nd, by simp, fun x hx y hy e => h (by rw [List.mem_singleton] at hy; rw [← hy, ← e]; exact hx)⟩
  · split
    · exact hk
    · intro j hj
      rcases List.mem_append.mp hj with hj | hj
      · exact hk j hj
      · rw [List.mem_singleton.mp hj]; omega
  · split
    · omega
    · simp; omega
theorem ev_twelfths (n : Nat) (hn : 60 ≤ n) (most : Nat) (hm : most < 50) (S : Sto) (hp : PoolAt [] S) : ∃ (cs : List PyData) (S' : Sto), F__law_twelfths n [.ref 0, .dat (.int most), .dat (.int 1), .dat (.int 11)] S = .ok (.val (.dat (.tuple cs))) S' ∧ PoolAt [] S' ∧ CutL most cs := by
  have hp1 : PoolAt [.dic []] (S ++ [.dic []]) := by
    obtain ⟨xs, rfl, hx⟩ := hp
    exact ⟨xs, rfl, hx⟩
  have sl : S.length = 1 := by
    obtain ⟨xs, rfl, hx⟩ := hp; rfl
  have ad : ∀ S : Sto, addV (.dat (.int most)) (.dat (.int 1)) S = some (.val (.dat (.int (most + 1))), S) := fun _ => rfl
  obtain ⟨i, S1, e1, p1, h0, h1⟩ := ev_take [.dic []] (S ++ [.dic []]) (most + 1) hp1 (by omega) (by omega)
  obtain ⟨t, rfl⟩ : ∃ t : Nat, i = t := ⟨i.toNat, by omega⟩
  obtain ⟨env2, S2, e2, h2⟩ := loop_inv (rngV 0 t) (fun w => mseq (fun env S => .next (List.set env 5 (some w)) S) tw_in) (fun i => TE (.dat (.int most)) i) (fun i w env S hw hI => by
    have := (List.getElem?_eq_some_iff.mp hw).1
    rw [rngV_len] at this
    exact ev_tw_in _ i (by omega) w env S hI) t 0 [some (.ref 0), some (.dat (.int most)), some (.dat (.int 1)), some (.dat (.int 11)), some (.ref 1), none, none] S1 (by rw [rngV_len]; omega) ⟨none, [], rfl, p1, List.nodup_nil, by simp, by simp⟩
  rw [rngV_len] at h2
  obtain ⟨a, ks, rfl, ⟨xs, rfl, hx⟩, nd, hk, hl⟩ := h2
  have so : sortV [.ref 1] [.lst (intsV xs), .dic (kvT ks)] = some (.new ((isort ks).map fun i => .dat (.int i)), [.lst (intsV xs), .dic (kvT ks)]) := by
    have : ks.length < 64 := by omega
    simp [sortV, keyInts_kvT, this]
  have mp := map12 (isort ks) n hn [.lst (intsV xs), .dic (kvT ks)] [some (.ref 0), some (.dat (.int most)), some (.dat (.int 1)), some (.dat (.int 11)), some (.ref 1), a, none] 6 (fun w => rfl) (fun x hx => by
    have := hk x ((isort_mem ks x).mp hx)
    omega) (by rw [isort_len]; omega)
  have aw : ∀ S : Sto, argw (.new ((isort ks).map fun i => Vl.dat (.int i))) S = some (.dat (.list ((isort ks).map .int)), S) := fun S => by
    have := argw_new ((isort ks).map PyData.int) S
    rwa [List.map_map] at this
  have aw2 : ∀ S : Sto, argw (.new (((isort ks).map mk12).map Vl.dat)) S = some (.dat (.list ((isort ks).map mk12)), S) := argw_new _
  have sr : srcOf [.lst (intsV xs), .dic (kvT ks)] (.dat (.list ((isort ks).map .int))) = some (.st ((isort ks).map fun i => Vl.dat (.int i))) := by
    simp [srcOf]
  have tr : trim 1 [.lst (intsV xs), .dic (kvT ks)] = [.lst (intsV xs)] := by simp [trim, Ob.cl, intsV, Vl.cl]
  refine ⟨(isort ks).map mk12, [.lst (intsV xs)], ?_, ⟨xs, rfl, hx⟩, cut_of (by rw [isort_len]; omega) (fun i hi => hk i ((isort_mem ks i).mp hi)) (isort_lt nd)⟩
  have m : m__law_twelfths n = mseq (mset 4 mdict0) (mseq (mfor (mrng1 (mcons (mw (mcall 2 F__law_take (mcons (mVar 0) (mcons (mw (m2 (mVar 1) (mC (.int 1)) addV)) mnil)))) mnil)) (mgN 5) tw_in)
    (mret (mN (mcons (mw (mlc [6] (misrc (mw (mN (mcons (mVar 4) mnil) sortV))) (mgN 6) myes (mw (mcall 2 (F__law_make n) (mcons (mVar 6) (mcons (mC (.int 12)) mnil)))))) mnil) tupV))) := rfl
  have d0 : mdict0 [some (.ref 0), some (.dat (.int most)), some (.dat (.int 1)), some (.dat (.int 11)), none, none, none] S = .ok (.ref 1) (S ++ [.dic []]) := by
    unfold mdict0; rw [sl]
  have lp := mfor_rng1 (m := mcons (mw (mcall 2 F__law_take (mcons (mVar 0) (mcons (mw (m2 (mVar 1) (mC (.int 1)) addV)) mnil)))) mnil) (mg := mgN 5) (mb := tw_in) (env := [some (.ref 0), some (.dat (.int most)), some (.dat (.int 1)), some (.dat (.int 11)), some (.ref 1), none, none]) (S := S ++ [.dic []]) (S' := S1) t (by omega) (by simp [ad, e1])
  have lp' : loop (.st (rngV 0 t)) (fun w => mseq (fun env S => (mgN 5 w env S).pl) tw_in) t 0 [some (.ref 0), some (.dat (.int most)), some (.dat (.int 1)), some (.dat (.int 11)), some (.ref 1), none, none] S1 = _ := e2
  rw [lp'] at lp
  have ln : ((isort ks).map fun i => Vl.dat (.int i)).length = (isort ks).length := by simp
  simp only [List.map_map] at mp aw2
  simp [-v_mfor, -v_mrng1, F__law_twelfths, m, trimF, ev0, d0, lp, so, aw, sr, wipeE, ln, mp, aw2, tupV_list, tr, sl, Rv.cl, Vl.cl]
end Qk68
/-! text S68 -/
set_option Elab.async false
set_option linter.all false
set_option maxRecDepth 100000
set_option maxHeartbeats 4000000
set_option autoImplicit false
namespace Qk68
open PySem PySem.Spec Bk
open L2 (Key)
/-- a comprehension that draws, item by item -/
theorem lcl_pair (c : List Vl) (env0 : Ev) (mg : MG) (me : MW) (R : Sto) (Q : Vl → PyData → Prop) (h : ∀ w ∈ c, ∀ S, PoolAt R S → ∃ env2 d S', mg w env0 S = .next env2 S ∧ me env2 S = .ok (.dat d) S' ∧ PoolAt R S' ∧ Q w d) (hz : c.length < 1000000) (S : Sto) (hS : PoolAt R S) :
    ∃ (ds : List PyData) (S' : Sto), lcl (.st c) env0 mg myes me c.length 0 [] S = .ok (.new (ds.map .dat)) S' ∧ PoolAt R S' ∧ Paired Q c ds := by
  have key : ∀ (n i : Nat) (acc : List Vl) (S : Sto), PoolAt R S → i + n = c.length → acc.length = i → ∃ ds S', lcl (.st c) env0 mg myes me n i acc S = .ok (.new (acc ++ ds.map .dat)) S' ∧ PoolAt R S' ∧ Paired Q (c.drop i) ds := by
    intro n
    induction n with
    | zero =>
      intro i acc S hS hi ha
      have e : Src.stop (.st c) S i = true := decide_eq_true (by omega)
      exact ⟨[], S, by rw [lcl, if_pos e]; simp, hS, by rw [List.drop_eq_nil_of_le (by omega)]; exact .nil⟩
    | succ n ih =>
      intro i acc S hS hi ha
      have hlt : i < c.length := by omega
      have e : Src.at (.st c) S i = some c[i] := List.getElem?_eq_getElem hlt
      obtain ⟨env2, d, S', h1, h3, h4, h5⟩ := h c[i] (List.getElem_mem hlt) S hS
      obtain ⟨ds, S2, a, b, p⟩ := ih (i + 1) (acc ++ [.dat d]) S' h4 (by omega) (by simp; omega)
      refine ⟨d :: ds, S2, ?_, b, by rw [List.drop_eq_getElem_cons hlt]; exact .cons h5 p⟩
      rw [lcl, e]
      simp only [h1, h3, v_myes]
      rw [if_pos (by omega), a, List.append_assoc]
      rfl
  exact key c.length 0 [] S hS (by omega) rfl
/-! ### places -/
def PlI (many : Nat) (pl : List PyData) : Prop := ∃ is : List Int, pl = is.map mk12 ∧ is.length = many ∧ (∀ i ∈ is, 0 ≤ i ∧ i ≤ 12) ∧ is.Pairwise (· ≤ ·)
theorem desc_le : ∀ is : List Int, (∀ i ∈ is, 0 ≤ i ∧ i ≤ 12) → is.Pairwise (· ≤ ·) → (zipD (is.map mk12) (is.map mk12).tail).any pairR = false
  | [], _, _ => rfl
  | [_], _, _ => rfl
  | x :: y :: r, h, p => by
    have ih := desc_le (y :: r) (fun i hi => h i (List.mem_cons_of_mem _ hi)) (List.pairwise_cons.mp p).2
    have hx := h x (by simp)
    have hy := h y (by simp)
    have le := (List.pairwise_cons.mp p).1 y (by simp)
    show (ltB (mk12 y) (mk12 x) || (zipD ((y :: r).map mk12) ((y :: r).map mk12).tail).any pairR) = false
    rw [ih, mk12_lt hy.1 hy.2 hx.1 hx.2, decide_eq_false (by omega)]; rfl
theorem PlI.ok {many : Nat} {pl : List PyData} (h : PlI many pl) (h1 : 1 ≤ many) (h5 : many ≤ 5) : placesB (.tuple pl) = true := by
  obtain ⟨is, rfl, hl, hi, p⟩ := h
  have a : (is.map mk12).all placeB = true := List.all_eq_true.mpr fun c hc => by
    obtain ⟨i, h, rfl⟩ := List.mem_map.mp hc
    exact mk12_place (hi i h).1 (hi i h).2
  have l : (is.map mk12).length = many := by simpa using hl
  rw [placesB, a, desc_le is hi p, l, decide_eq_true h1, decide_eq_true h5]; rfl
theorem PlI.len {many : Nat} {pl : List PyData} (h : PlI many pl) : pl.length = many := by
  obtain ⟨is, rfl, hl, hi, p⟩ := h
  simpa using hl
theorem PlI.plb {many : Nat} {pl : List PyData} (h : PlI many pl) : ∀ d ∈ pl, PlB d := by
  obtain ⟨is, rfl, hl, hi, p⟩ := h
  intro d hd
  obtain ⟨i, h, rfl⟩ := List.mem_map.mp hd
  exact pl_mk12 i
theorem PlI.gd {many : Nat} {pl : List PyData} (h : PlI many pl) : ∀ d ∈ pl, Gd 2 137 d := by
  obtain ⟨is, rfl, hl, hi, p⟩ := h
  intro d hd
  obtain ⟨i, h, rfl⟩ := List.mem_map.mp hd
  exact gd_mk12 (hi i h).1 (hi i h).2
theorem ints_of {P : Int → Prop} : ∀ {ds : List PyData}, (∀ d ∈ ds, ∃ i, d = .int i ∧ P i) → ∃ is : List Int, ds = is.map .int ∧ ∀ i ∈ is, P i
  | [], _ => ⟨[], rfl, by simp⟩
  | d :: r, h => by
    obtain ⟨i, rfl, hi⟩ := h d (by simp)
    obtain ⟨is, rfl, hs⟩ := ints_of fun x hx => h x (List.mem_cons_of_mem _ hx)
    exact ⟨i :: is, rfl, fun j hj => by
      rcases List.mem_cons.mp hj with rfl | hj
      · exact hi
      · exact hs j hj⟩
theorem intsOf_map : ∀ is : List Int, intsOf (is.map fun i => Vl.dat (.int i)) = some is
  | [] => rfl
  | i :: r => by
    show (intsOf (r.map fun i => Vl.dat (.int i))).map (i :: ·) = _
    rw [intsOf_map r]; rfl
theorem pool_len {S : Sto} (h : PoolAt [] S) : S.length = 1 := by
  obtain ⟨xs, rfl, hx⟩ := h; rfl
theorem pool_tr {S : Sto} (h : PoolAt [] S) : trim 1 S = S := by
  obtain ⟨xs, rfl, hx⟩ := h
  exact trim_le (Nat.le_refl _)
theorem ev_places (n : Nat) (hn : 60 ≤ n) (many : Nat) (hm : many < 1000) (S : Sto) (hp : PoolAt [] S) : ∃ (pl : List PyData) (S' : Sto), F__law_places n [.ref 0, .dat (.int many)] S = .ok (.val (.dat (.tuple pl))) S' ∧ PoolAt [] S' ∧ PlI many pl := by
  have sl := pool_len hp
  obtain ⟨ds, S1, e1, p1, l1, q1⟩ := lcl_draw (rngV 0 many) [some (.ref 0), some (.dat (.int many)), none, none, none] (mgN 3) (mw (mcall 2 F__law_take (mcons (mVar 0) (mcons (mC (.int 13)) mnil)))) [] (fun d => ∃ i, d = .int i ∧ 0 ≤ i ∧ i < 13) (fun w hw S hS => by
    obtain ⟨i, S', e, p, h0, h1⟩ := ev_take [] S 13 hS (by omega) (by omega)
    exact ⟨[some (.ref 0), some (.dat (.int many)), none, some w, none], .int i, S', rfl, by simp [e], p, i, rfl, h0, h1⟩) (by rw [rngV_len]; omega) S hp
  obtain ⟨is, rfl, hi⟩ := ints_of q1
  rw [rngV_len, List.length_map] at l1
  have rg := mrng1_nat (m := mcons (mVar 1) mnil) (env := [some (.ref 0), some (.dat (.int many)), none, none, none]) (S := S) (S' := S) many (by omega) (by simp)
  have aw : ∀ S : Sto, argw (.new ((is.map PyData.int).map Vl.dat)) S = some (.dat (.list (is.map .int)), S) := argw_new _
  have so : ∀ S : Sto, sortV [.dat (.list (is.map .int))] S = some (.new ((isort is).map fun i => .dat (.int i)), S) := fun S => by
    simp [sortV, lsOf, Function.comp_def, intsOf_map]
  have aw3 : ∀ S : Sto, argw (.new ((isort is).map fun i => Vl.dat (.int i))) S = some (.dat (.list ((isort is).map .int)), S) := fun S => by
    have := argw_new ((isort is).map PyData.int) S
    rwa [List.map_map] at this
  have aw2 : ∀ S : Sto, argw (.new (((isort is).map mk12).map Vl.dat)) S = some (.dat (.list ((isort is).map mk12)), S) := argw_new _
  have hi' : ∀ i ∈ isort is, 0 ≤ i ∧ i ≤ 12 := fun i h => by
    have := hi i ((isort_mem is i).mp h)
    omega
  have mp := map12 (isort is) n hn S1 [some (.ref 0), some (.dat (.int many)), some (.dat (.list ((isort is).map .int))), none, none] 4 (fun w => rfl) (fun x hx => (hi' x hx).1) (by rw [isort_len]; omega)
  have sr : ∀ S : Sto, srcOf S (.dat (.list ((isort is).map .int))) = some (.st ((isort is).map fun i => Vl.dat (.int i))) := fun S => by
    simp [srcOf]
  have ln : ((isort is).map fun i => Vl.dat (.int i)).length = (isort is).length := by simp
  refine ⟨(isort is).map mk12, S1, ?_, p1, isort is, rfl, by rw [isort_len]; omega, hi', isort_le is⟩
  rw [rngV_len] at e1
  simp only [List.map_map] at mp aw2 aw e1
  simp -implicitDefEqProofs [-v_mrng1, F__law_places, m__law_places, trimF, ev0, wipeE, rg, e1, aw, so, aw3, sr, ln, mp, aw2, tupV_list, sl, pool_tr p1, rngV_len, Rv.cl, Vl.cl]
/-! ### brigades -/
structure BrL (c least most : Nat) (cs rows : List PyData) : Prop where
  cut : CutL c cs
  lo : least ≤ rows.length
  hi : rows.length ≤ most
  row : ∀ r ∈ rows, RowD (cs.length + 1) r
theorem ev_brigade (n : Nat) (hn : 60 ≤ n) (least most cuts : Nat) (hlm : least ≤ most) (hm : most < 50) (hc : cuts < 50) (S : Sto) (hp : PoolAt [] S) : ∃ (cs rows : List PyData) (S' : Sto), F__law_brigade n [.ref 0, .dat (.int least), .dat (.int most), .dat (.int cuts)] S = .ok (.val (.dat (.tuple [.tuple cs, .tuple rows]))) S' ∧ PoolAt [] S' ∧ BrL cuts least most cs rows := by
  have sl := pool_len hp
  obtain ⟨cs, S1, e1, p1, hcs⟩ := ev_twelfths n hn cuts hc S hp
  obtain ⟨i, S2, e2, p2, h0, h1⟩ := ev_take [] S1 (most - least + 1) p1 (by omega) (by omega)
  obtain ⟨t, ht⟩ : ∃ t : Nat, (least : Int) + i = t := ⟨((least : Int) + i).toNat, by omega⟩
  have hcl := hcs.len
  have rg2 : ∀ (w : Vl) (S : Sto), mrng1 (mcons (mw (m2 (mw (mN (mcons (mVar 4) mnil) lenV)) (mC (.int 1)) addV)) mnil) [some (.ref 0), some (.dat (.int least)), some (.dat (.int most)), some (.dat (.int cuts)), some (.dat (.tuple cs)), some (.dat (.int t)), some w, none] S = .ok (.st (rngV 0 (cs.length + 1))) S := fun w S => mrng1_nat (S := S) (S' := S) (cs.length + 1) (by omega) (by simp [lenV, itemsOf, addV])
  obtain ⟨rows, S3, e3, p3, l3, q3⟩ := lcl_draw (rngV 0 t) [some (.ref 0), some (.dat (.int least)), some (.dat (.int most)), some (.dat (.int cuts)), some (.dat (.tuple cs)), some (.dat (.int t)), none, none] (mgN 6)
    (mw (mN (mcons (mw (mlc [7] (mrng1 (mcons (mw (m2 (mw (mN (mcons (mVar 4) mnil) lenV)) (mC (.int 1)) addV)) mnil)) (mgN 7) myes (mw (mcall 1 (F__law_speed n) (mcons (mVar 0) mnil))))) mnil) tupV)) [] (RowD (cs.length + 1)) (fun w hw S hS => by
    obtain ⟨ds, S', a, b, c, d⟩ := draw_row (rngV 0 (cs.length + 1)) [some (.ref 0), some (.dat (.int least)), some (.dat (.int most)), some (.dat (.int cuts)), some (.dat (.tuple cs)), some (.dat (.int t)), some w, none] 7 n hn [] S hS (fun w => rfl) (by rw [rngV_len]; omega)
    rw [rngV_len] at a c
    have aw : ∀ S : Sto, argw (.new (ds.map Vl.dat)) S = some (.dat (.list ds), S) := argw_new _
    refine ⟨[some (.ref 0), some (.dat (.int least)), some (.dat (.int most)), some (.dat (.int cuts)), some (.dat (.tuple cs)), some (.dat (.int t)), some w, none], .tuple ds, S', rfl, ?_, b, ds, rfl, c, d⟩
    simp -implicitDefEqProofs [-v_mrng1, wipeE, rg2, rngV_len, a, aw, tupV_list]) (by rw [rngV_len]; omega) S2 p2
  rw [rngV_len] at e3 l3
  have rg := mrng1_nat (m := mcons (mVar 5) mnil) (env := [some (.ref 0), some (.dat (.int least)), some (.dat (.int most)), some (.dat (.int cuts)), some (.dat (.tuple cs)), some (.dat (.int t)), none, none]) (S := S2) (S' := S2) t (by omega) (by simp)
  have aw : ∀ S : Sto, argw (.new (rows.map Vl.dat)) S = some (.dat (.list rows), S) := argw_new _
  have sb : ∀ S : Sto, isub (.dat (.int most)) (.dat (.int least)) S = some (.val (.dat (.int (most - least : Int))), S) := fun _ => rfl
  have ad : ∀ S : Sto, addV (.dat (.int (most - least : Int))) (.dat (.int 1)) S = some (.val (.dat (.int (most - least + 1 : Int))), S) := fun _ => rfl
  have ad2 : ∀ S : Sto, addV (.dat (.int least)) (.dat (.int i)) S = some (.val (.dat (.int t)), S) := fun _ => by rw [← ht]; rfl
  refine ⟨cs, rows, S3, ?_, p3, hcs, by omega, by omega, q3⟩
  simp -implicitDefEqProofs [-v_mrng1, F__law_brigade, m__law_brigade, trimF, ev0, wipeE, e1, sb, ad, e2, ad2, rg, rngV_len, e3, aw, tupV_list, sl, pool_tr p3, toDats, Rv.cl, Vl.cl]
end Qk68
/-! text U68 -/
set_option Elab.async false
set_option linter.all false
set_option maxRecDepth 100000
set_option maxHeartbeats 4000000
set_option autoImplicit false
namespace Qk68
open PySem PySem.Spec Bk
open L2 (Key)
/-! ### walkers -/
theorem sp_pos {d : PyData} (h : SpD d) : posB d = true := by
  obtain ⟨a, b, rfl, h0, h1, g, _, _⟩ := h
  have e1 : decide ((1 : Int) ≤ (b : Int)) = true := decide_eq_true (by omega)
  have e2 : decide ((0 : Int) < (a : Int)) = true := decide_eq_true (by omega)
  have e3 : decide (Nat.gcd (a : Int).natAbs (b : Int).natAbs = 1) = true := decide_eq_true (by simpa using g)
  show (decide ((1 : Int) ≤ (b : Int)) && decide (Nat.gcd (a : Int).natAbs (b : Int).natAbs = 1) && decide ((0 : Int) < (a : Int))) = true
  rw [e1, e2, e3]; rfl
theorem gd_sp {d : PyData} (h : SpD d) : Gd 2 137 d := by
  obtain ⟨a, b, rfl, h0, h1, g, h2, h3⟩ := h
  exact gd_fr (by omega) (by omega)
theorem gd_row {k : Nat} {d : PyData} (h : RowD k d) (hk : k ≤ 6) : Gd 3 837 d := by
  obtain ⟨ds, rfl, hl, hs⟩ := h
  exact gd_tup (n := 6) (by decide) (by decide) (by omega) fun x hx => gd_sp (hs x hx)
theorem row_speeds {k : Nat} {d : PyData} (h : RowD k d) : speedsB d (k : Int) = true := by
  obtain ⟨ds, rfl, hl, hs⟩ := h
  rw [speedsB, hl, decide_eq_true rfl, List.all_eq_true.mpr fun x hx => sp_pos (hs x hx)]; rfl
theorem cuts_of {c : Nat} {cs : List PyData} (h : CutL c cs) (hc : c ≤ 5) : cutsB (.tuple cs) = true := by
  have := h.len
  rw [cutsB, h.ok, decide_eq_true (by omega)]; rfl
theorem brig_of {cs rows : List PyData} {c : Nat} (hc : c ≤ 5) (h : CutL c cs) (h1 : 1 ≤ rows.length) (h5 : rows.length ≤ 5) (hr : ∀ r ∈ rows, RowD (cs.length + 1) r) : brigB (.tuple [.tuple cs, .tuple rows]) = true := by
  have e : (rows.all fun sp => speedsB sp ((cs.length : Int) + 1)) = true := List.all_eq_true.mpr fun r hx => row_speeds (hr r hx)
  rw [brigB, cuts_of h hc]
  simp only [e, decide_eq_true h1, decide_eq_true h5]; rfl
structure WkL (c most : Nat) (cs rows bk : List PyData) : Prop where
  br : BrL c 1 most cs rows
  len : bk.length = rows.length
  row : ∀ r ∈ bk, RowD (cs.length + 1) r
abbrev wkD (cs rows bk : List PyData) : PyData := .tuple [.tuple [.tuple cs, .tuple rows], .tuple bk]
theorem ev_walkers (n : Nat) (hn : 60 ≤ n) (most cuts : Nat) (h1 : 1 ≤ most) (hm : most < 50) (hc : cuts < 50) (S : Sto) (hp : PoolAt [] S) : ∃ (cs rows bk : List PyData) (S' : Sto), F__law_walkers n [.ref 0, .dat (.int most), .dat (.int cuts)] S = .ok (.val (.dat (wkD cs rows bk))) S' ∧ PoolAt [] S' ∧ WkL cuts most cs rows bk := by
  have sl := pool_len hp
  obtain ⟨cs, rows, S1, e1, p1, hb⟩ := ev_brigade n hn 1 most cuts h1 hm hc S hp
  have hcl := hb.cut.len
  have hrl := hb.hi
  obtain ⟨bk, S2, e2, p2, l2, q2⟩ := lcl_draw (rows.map .dat) [some (.ref 0), some (.dat (.int most)), some (.dat (.int cuts)), some (.dat (.tuple [.tuple cs, .tuple rows])), none, none, none] (mgN 5)
    (mw (mN (mcons (mw (mlc [6] (misrc (mVar 5)) (mgN 6) myes (mw (mcall 1 (F__law_speed n) (mcons (mVar 0) mnil))))) mnil) tupV)) [] (RowD (cs.length + 1)) (fun w hw S hS => by
    obtain ⟨d, hd, rfl⟩ := List.mem_map.mp hw
    obtain ⟨ds, rfl, hl, hs⟩ := hb.row d hd
    obtain ⟨es, S', a, b, c, q⟩ := draw_row (ds.map .dat) [some (.ref 0), some (.dat (.int most)), some (.dat (.int cuts)), some (.dat (.tuple [.tuple cs, .tuple rows])), none, some (.dat (.tuple ds)), none] 6 n hn [] S hS (fun w => rfl) (by simp; omega)
    rw [List.length_map] at a c
    have aw : ∀ S : Sto, argw (.new (es.map Vl.dat)) S = some (.dat (.list es), S) := argw_new _
    refine ⟨[some (.ref 0), some (.dat (.int most)), some (.dat (.int cuts)), some (.dat (.tuple [.tuple cs, .tuple rows])), none, some (.dat (.tuple ds)), none], .tuple es, S', rfl, ?_, b, es, rfl, by omega, q⟩
    simp -implicitDefEqProofs [wipeE, srcOf, a, aw, tupV_list]) (by simp; omega) S1 p1
  rw [List.length_map] at e2 l2
  have aw : ∀ S : Sto, argw (.new (bk.map Vl.dat)) S = some (.dat (.list bk), S) := argw_new _
  have e1' : F__law_brigade n [.ref 0, .dat (.int 1), .dat (.int most), .dat (.int cuts)] S = _ := e1
  refine ⟨cs, rows, bk, S2, ?_, p2, hb, l2, q2⟩
  simp -implicitDefEqProofs [F__law_walkers, m__law_walkers, trimF, ev0, wipeE, e1', ix_t1, srcOf, e2, aw, tupV_list, sl, pool_tr p2, toDats, Rv.cl, Vl.cl]
theorem wk_ok {c most : Nat} {cs rows bk : List PyData} (h : WkL c most cs rows bk) (hc : c ≤ 5) (hm : most ≤ 5) : walkersB (wkD cs rows bk) = true := by
  have b1 := brig_of hc h.br.cut h.br.lo (by have := h.br.hi; omega) h.br.row
  have b2 := brig_of (rows := bk) hc h.br.cut (by have := h.br.lo; have := h.len; omega) (by have := h.br.hi; have := h.len; omega) h.row
  rw [walkersB, b1]
  simp only [b2, lenD, h.len, decide_eq_true (rfl : rows.length = rows.length)]; rfl
theorem wk_many {cs rows bk : List PyData} : manyD (wkD cs rows bk) = bk.length := rfl
theorem gd_rows {k : Nat} (hk : k ≤ 6) {rows : List PyData} (hl : rows.length ≤ 6) (hr : ∀ r ∈ rows, RowD k r) : Gd 4 5037 (.tuple rows) := gd_tup (n := 6) (by decide) (by decide) hl fun r h => gd_row (hr r h) hk
theorem gd_cuts {c : Nat} {cs : List PyData} (h : CutL c cs) (hc : c ≤ 5) : Gd 3 837 (.tuple cs) := gd_tup (n := 6) (by decide) (by decide) (by have := h.len; omega) fun x hx => h.gd x hx
theorem gd_pair {k M : Nat} (hk : 0 < k) {x y : PyData} (hx : Gd k M x) (hy : Gd k M y) : Gd (k + 1) (2 * (M + 2) + 3) (.tuple [x, y]) := gd_tup (n := 2) hk (by decide) (by simp) fun d hd => by
  simp at hd
  rcases hd with rfl | rfl
  · exact hx
  · exact hy
theorem gd_brig {c most : Nat} {cs rows : List PyData} (h : BrL c 1 most cs rows) (hc : c ≤ 5) (hm : most ≤ 5) : Gd 5 10081 (.tuple [.tuple cs, .tuple rows]) :=
  gd_pair (by decide) ((gd_cuts h.cut hc).mono (by decide) (by decide)) (gd_rows (by have := h.cut.len; omega) (by have := h.hi; omega) h.row)
theorem gd_wk {c most : Nat} {cs rows bk : List PyData} (h : WkL c most cs rows bk) (hc : c ≤ 5) (hm : most ≤ 5) : Gd 6 20169 (wkD cs rows bk) :=
  gd_pair (by decide) (gd_brig h.br hc hm) ((gd_rows (k := cs.length + 1) (by have := h.br.cut.len; omega) (by have := h.br.hi; have := h.len; omega) h.row).mono (by decide) (by decide))
/-! ### stands -/
theorem st_of : ∀ {pl ds : List PyData}, Paired (fun w d => ∃ p b, w = Vl.dat p ∧ d = .tuple [p, wayS b]) (pl.map Vl.dat) ds → ∃ bs : List Bool, bs.length = pl.length ∧ ds = stD pl bs
  | [], _, h => by
    cases h
    exact ⟨[], rfl, rfl⟩
  | p :: pl, _, h => by
    cases h with
    | cons h1 h2 =>
      obtain ⟨q, b, e, rfl⟩ := h1
      cases e
      obtain ⟨bs, hl, rfl⟩ := st_of h2
      exact ⟨b :: bs, by simp [hl], rfl⟩
theorem ev_law_stands (n : Nat) (hn : 60 ≤ n) (many : Nat) (hm : many < 1000) (S : Sto) (hp : PoolAt [] S) : ∃ (pl : List PyData) (bs : List Bool) (S' : Sto), F__law_stands n [.ref 0, .dat (.int many)] S = .ok (.val (.dat (.tuple (stD pl bs)))) S' ∧ PoolAt [] S' ∧ PlI many pl ∧ bs.length = pl.length := by
  have sl := pool_len hp
  obtain ⟨pl, S1, e1, p1, h1⟩ := ev_places n hn many hm S hp
  have hl := h1.len
  obtain ⟨ds, S2, e2, p2, q2⟩ := lcl_pair (pl.map .dat) [some (.ref 0), some (.dat (.int many)), none] (mgN 2) (mtup (mcons (mVar 2) (mcons (mw (m2 (mw (mlst (mcons (mC (.str "ahead")) (mcons (mC (.str "back")) mnil)))) (mw (mcall 2 F__law_take (mcons (mVar 0) (mcons (mC (.int 2)) mnil)))) ixV)) mnil))) [] (fun w d => ∃ p b, w = Vl.dat p ∧ d = .tuple [p, wayS b]) (fun w hw S hS => by
    obtain ⟨p, hd, rfl⟩ := List.mem_map.mp hw
    obtain ⟨i, S', e, pp, h0, h1⟩ := ev_take [] S 2 hS (by omega) (by omega)
    have aw : ∀ S : Sto, argw (.new [Vl.dat (.str "ahead"), Vl.dat (.str "back")]) S = some (.dat (.list [.str "ahead", .str "back"]), S) := fun _ => rfl
    have hi : i = 0 ∨ i = 1 := by omega
    rcases hi with rfl | rfl
    · refine ⟨[some (.ref 0), some (.dat (.int many)), some (.dat p)], .tuple [p, wayS true], S', rfl, ?_, pp, p, true, rfl, rfl⟩
      simp -implicitDefEqProofs [aw, e, ixV, itemsOf, L2.atI, L2.ixN, toDats, wayS]
    · refine ⟨[some (.ref 0), some (.dat (.int many)), some (.dat p)], .tuple [p, wayS false], S', rfl, ?_, pp, p, false, rfl, rfl⟩
      simp -implicitDefEqProofs [aw, e, ixV, itemsOf, L2.atI, L2.ixN, toDats, wayS]) (by simp; omega) S1 p1
  obtain ⟨bs, bl, rfl⟩ := st_of q2
  rw [List.length_map] at e2
  have aw : ∀ S : Sto, argw (.new ((stD pl bs).map Vl.dat)) S = some (.dat (.list (stD pl bs)), S) := argw_new _
  refine ⟨pl, bs, S2, ?_, p2, h1, bl⟩
  simp -implicitDefEqProofs [F__law_stands, m__law_stands, trimF, ev0, wipeE, e1, srcOf, e2, aw, tupV_list, sl, pool_tr p2, Rv.cl, Vl.cl]
theorem st_ok {many : Nat} {pl : List PyData} {bs : List Bool} (h : PlI many pl) (hb : bs.length = pl.length) (h1 : 1 ≤ many) (h5 : many ≤ 5) : standsB (many : Int) (.tuple (stD pl bs)) = true := by
  have a : (stD pl bs).all (fun d => tupLen d 2 2) = true := List.all_eq_true.mpr fun d hd => by
    obtain ⟨x, y, rfl⟩ := stD_mem hd
    rfl
  have b : (stD pl bs).all (fun d => wordB (sndD d)) = true := List.all_eq_true.mpr fun d hd => by
    obtain ⟨x, y, rfl⟩ := stD_mem hd
    show wordB (wayS y) = true
    cases y <;> decide +kernel
  have l : (stD pl bs).length = many := by rw [stD_len hb, h.len]
  rw [standsB, a, b, l, stD_map hb, h.ok h1 h5, decide_eq_true rfl]; rfl
theorem gd_way (b : Bool) : Gd 1 65 (wayS b) := by
  cases b
  · exact gd_back
  · exact gd_ahead
theorem gd_st {many : Nat} {pl : List PyData} {bs : List Bool} (h : PlI many pl) (hb : bs.length = pl.length) (h5 : many ≤ 6) : Gd 4 1701 (.tuple (stD pl bs)) ∧ ∀ d ∈ stD pl bs, Gd 3 281 d := by
  have z : ∀ d ∈ stD pl bs, Gd 3 281 d := fun d hd => by
    obtain ⟨i, hi⟩ := List.mem_iff_getElem?.mp hd
    simp [stD, List.getElem?_zipWith] at hi
    split at hi
    · rename_i p b hp hb
      simp at hi
      subst hi
      exact gd_pair (by decide) (h.gd _ (List.mem_of_getElem? hp)) ((gd_way _).mono (by decide) (by decide))
    · simp at hi
  exact ⟨gd_tup (n := 6) (by decide) (by decide) (by rw [stD_len hb, h.len]; exact h5) z, z⟩
end Qk68
/-! text X68 -/
set_option Elab.async false
set_option linter.all false
set_option maxRecDepth 100000
set_option maxHeartbeats 4000000
set_option autoImplicit false
namespace Qk68
open PySem PySem.Spec Bk
open L2 (Key)
/-! ### rows of objects -/
theorem ev_first (j : Nat) (env : Ev) (S : Sto) (ds : List PyData) (ma : MA) (h : ma env S = .ok (ds.map .dat) S) (hl : ds.length ≤ 900) : mset j (mw (mlst ma)) env S = .next (env.set j (some (.dat (.list ds)))) S := by
  have aw : ∀ S : Sto, argw (.new (ds.map Vl.dat)) S = some (.dat (.list ds), S) := argw_new _
  have : ds.length ≤ 1000 := by omega
  simp -implicitDefEqProofs [h, aw, this]
theorem ev_more (j : Nat) (env : Ev) (S : Sto) (L ds : List PyData) (ma : MA) (hj : env[j]? = some (some (.dat (.list L)))) (h : ma env S = .ok (ds.map .dat) S) (hl : L.length + ds.length ≤ 900) : mset j (mw (m2 (mVar j) (mw (mlst ma)) addV)) env S = .next (env.set j (some (.dat (.list (L ++ ds))))) S := by
  have aw : ∀ S : Sto, argw (.new (ds.map Vl.dat)) S = some (.dat (.list ds), S) := argw_new _
  have aw2 : ∀ S : Sto, argw (.new ((L ++ ds).map Vl.dat)) S = some (.dat (.list (L ++ ds)), S) := argw_new _
  have l1 : ds.length ≤ 1000 := by omega
  have l2 : L.length + ds.length ≤ sizeLine := Nat.le_trans hl (by decide)
  have ad : ∀ S : Sto, addV (.dat (.list L)) (.dat (.list ds)) S = some (.new ((L ++ ds).map .dat), S) := fun S => by
    simp [addV, lstOf, l2]
  rw [List.map_append] at aw2
  simp -implicitDefEqProofs [hj, h, aw, l1, ad, aw2]
theorem cut_last {α : Type} (xs : List α) (x : α) : cutG (xs ++ [x]) none (some (-1)) = xs := by
  have e : ∀ n : Nat, 0 < n → HT.sIx n n (some (-1)) = n - 1 := fun n h => by
    show (if (-1 : Int) < 0 then ((-1 : Int) + (n : Int)).toNat else min (-1 : Int).toNat n) = n - 1
    rw [if_pos (by decide)]
    omega
  unfold cutG
  rw [HT.sIx_none, e _ (by simp)]
  simp
theorem cut_one {α : Type} (xs : List α) : cutG xs none (some 1) = xs.take 1 := by
  unfold cutG HT.sIx
  cases xs with
  | nil => simp
  | cons a r => simp
theorem ix_last (xs : List PyData) (x : PyData) (S : Sto) : ixV (.dat (.tuple (xs ++ [x]))) (.dat (.int (-1))) S = some (.val (.dat x), S) := by
  have e : L2.ixN (xs.length + 1) (-1) = some xs.length := ixN_last (n := xs.length + 1) (by omega)
  simp [ixV, itemsOf, L2.atI, e]
theorem add_tup (x y : List PyData) (h : x.length + y.length ≤ 900) (S : Sto) : addV (.dat (.tuple x)) (.dat (.tuple y)) S = some (.val (.dat (.tuple (x ++ y))), S) := by
  have : x.length + y.length ≤ sizeLine := Nat.le_trans h (by decide)
  simp [addV, this]
theorem rep_ev (d : PyData) (k : Nat) (h1 : 1 ≤ k) (h9 : k ≤ 900) (S : Sto) : repTV (.dat (.tuple [d])) (.dat (.int k)) S = some (.val (.dat (.tuple (List.replicate k d))), S) := by
  have fl : ∀ k, (List.replicate k [d]).flatten = List.replicate k d := fun k => by
    induction k with
    | zero => rfl
    | succ k ih => rw [List.replicate_succ, List.flatten_cons, ih, List.replicate_succ]; rfl
  unfold repTV
  by_cases h : k = 1
  · subst h; simp
  · have a : ¬ ((k : Int) = 1) := by omega
    have b : ([d] ≠ [] ∧ 2 ≤ (k : Int) ∧ (k : Int) ≤ 1000 ∧ [d].length ≤ 1000) := ⟨by simp, by omega, by omega, by simp⟩
    simp only
    rw [if_neg a, if_pos b, Int.toNat_natCast, fl]
theorem fl_next (e : Ev) (S : Sto) (f : MS) : (Fl.next e S).bind f = f e S := rfl
theorem toD2 (a b : PyData) (S : Sto) : toDats [.dat a, .dat b] S = some ([a, b], S) := rfl
theorem toD1 (a : PyData) (S : Sto) : toDats [.dat a] S = some ([a], S) := rfl
theorem toD0 (S : Sto) : toDats [] S = some ([], S) := rfl
theorem sl_tup (xs : List PyData) (lo hi : Option Int) (S : Sto) : slV (.dat (.tuple xs)) lo hi S = some (.val (.dat (.tuple (cutG xs lo hi))), S) := rfl
theorem len_tup (xs : List PyData) (S : Sto) : lenV [.dat (.tuple xs)] S = some (.val (.dat (.int xs.length)), S) := by simp [lenV, itemsOf]
theorem list_tup (xs : List PyData) (S : Sto) : listV [.dat (.tuple xs)] S = some (.new (xs.map .dat), S) := by simp [listV, itemsOf]
theorem neg1 (S : Sto) : ineg (.dat (.int 1)) S = some (.val (.dat (.int (-1))), S) := rfl
/-- the rows of what is no walkers -/
def badW (cs rows bi es : List PyData) : List PyData :=
  let br : PyData := .tuple [.tuple cs, .tuple rows]
  let bk : List PyData := bi ++ [.tuple es]
  [.none, .list [br, .tuple bk], .tuple [br], .tuple [br, .tuple bk.tail], .tuple [br, .tuple (bk ++ bk.take 1)]] ++ [.tuple [br, .list bk], br] ++ [.tuple [br, .tuple (bi ++ [.tuple (es ++ [oneD])])]] ++ [.tuple [br, .tuple (bi ++ [.tuple (List.replicate es.length zeroD)])]] ++
    [.tuple [.none, .tuple bk], .tuple [.tuple [.tuple cs, .tuple []], .tuple []], .tuple [br, .none], .tuple [br, .tuple bk, .tuple []]]
theorem ev_bad_walkers (cs rows bi es : List PyData) (S : Sto) (hp : PoolAt [] S) (hb : bi.length ≤ 20) (he : 1 ≤ es.length) (he9 : es.length ≤ 20) : ∃ (d : PyData) (S' : Sto), F__law_bad_walkers [.ref 0, .dat (wkD cs rows (bi ++ [.tuple es]))] S = .ok (.val (.dat d)) S' ∧ PoolAt [] S' ∧ d ∈ badW cs rows bi es := by
  have sl := pool_len hp
  obtain ⟨br, hbr⟩ : ∃ br : PyData, br = .tuple [.tuple cs, .tuple rows] := ⟨_, rfl⟩
  obtain ⟨bk, hbk⟩ : ∃ bk : List PyData, bk = bi ++ [.tuple es] := ⟨_, rfl⟩
  have lb : bk.length = bi.length + 1 := by rw [hbk]; simp
  obtain ⟨i, S1, e1, p1, h0, h1⟩ := ev_take [] S 13 hp (by omega) (by omega)
  have aw : ∀ (x y : PyData) (S : Sto), argw (.new [Vl.dat x, Vl.dat y]) S = some (.dat (.list [x, y]), S) := fun _ _ _ => rfl
  have aw2 : ∀ (S : Sto), argw (.new (bk.map Vl.dat)) S = some (.dat (.list bk), S) := argw_new _
  have ls2 : ∀ (x y : PyData) (S : Sto), listV [.dat (.tuple [x, y])] S = some (.new [.dat x, .dat y], S) := fun _ _ _ => rfl
  have c1 : cutG bk (some 1) none = bk.tail := cut1 bk
  have c2 := cut_one bk
  have c3 : cutG bk none (some (-1)) = bi := by rw [hbk]; exact cut_last bi _
  have i3 : ∀ S : Sto, ixV (.dat (.tuple bk)) (.dat (.int (-1))) S = some (.val (.dat (.tuple es)), S) := fun S => by rw [hbk]; exact ix_last bi _ S
  have a1 := add_tup bk (bk.take 1) (by rw [List.length_take]; omega)
  have a2 := add_tup es [oneD] (by simp; omega)
  have a3 := add_tup bi [.tuple (es ++ [oneD])] (by simp; omega)
  have a4 := add_tup bi [.tuple (List.replicate es.length zeroD)] (by simp; omega)
  have a5 := add_tup [br, .tuple bk] [.tuple []] (by simp)
  have r1 := rep_ev zeroD es.length he (by omega)
  have g0 : ev0 5 [.ref 0, .dat (.tuple [br, .tuple bk])] = [some (.ref 0), some (.dat (.tuple [br, .tuple bk])), none, none, none] := rfl
  have s0 : masg (mVar 1) (fun w env S => ((mgtup 2 (mgcons (mgN 2) (mgcons (mgN 3) mgnil))) w env S).pl) [some (.ref 0), some (.dat (.tuple [br, .tuple bk])), none, none, none] S = .next [some (.ref 0), some (.dat (.tuple [br, .tuple bk])), some (.dat br), some (.dat (.tuple bk)), none] S := by
    simp [itemsOf]
  obtain ⟨E, hE⟩ : ∃ E : PyData → Ev, E = fun L => [some (.ref 0), some (.dat (.tuple [br, .tuple bk])), some (.dat br), some (.dat (.tuple bk)), some (.dat L)] := ⟨_, rfl⟩
  have z : ∀ (d : Option Vl) (L : PyData), List.set [some (Vl.ref 0), some (.dat (.tuple [br, .tuple bk])), some (.dat br), some (.dat (.tuple bk)), d] 4 (some (.dat L)) = E L := fun d L => by rw [hE]; rfl
  have s1 := ev_first 4 [some (.ref 0), some (.dat (.tuple [br, .tuple bk])), some (.dat br), some (.dat (.tuple bk)), none] S [.none, .list [br, .tuple bk], .tuple [br], .tuple [br, .tuple bk.tail], .tuple [br, .tuple (bk ++ bk.take 1)]]
    (mcons (mC .none) (mcons (mw (mN (mcons (mVar 1) mnil) listV)) (mcons (mtup (mcons (mVar 2) mnil)) (mcons (mtup (mcons (mVar 2) (mcons (mw (mslice (mVar 3) (moS (mC (.int 1))) moN)) mnil))) (mcons (mtup (mcons (mVar 2) (mcons (mw (m2 (mVar 3) (mw (mslice (mVar 3) moN (moS (mC (.int 1))))) addV)) mnil))) mnil))))) (by
      simp -implicitDefEqProofs [ls2, aw, toD1, toD2, sl_tup, c1, c2, a1]) (by simp)
  rw [z] at s1
  have s2 : ∀ L : List PyData, L.length ≤ 500 → _ := fun L hL => ev_more 4 (E (.list L)) S L [.tuple [br, .list bk], br] (mcons (mtup (mcons (mVar 2) (mcons (mw (mN (mcons (mVar 3) mnil) listV)) mnil))) (mcons (mVar 2) mnil)) (by rw [hE]; rfl) (by
      rw [hE]; simp -implicitDefEqProofs [list_tup, aw2, toD2]) (by simp; omega)
  have s3 : ∀ L : List PyData, L.length ≤ 500 → _ := fun L hL => ev_more 4 (E (.list L)) S L [.tuple [br, .tuple (bi ++ [.tuple (es ++ [oneD])])]] (mcons (mtup (mcons (mVar 2) (mcons (mw (m2 (mw (mslice (mVar 3) moN (moS (mw (m1 (mC (.int 1)) ineg))))) (mtup (mcons (mw (m2 (mw (m2 (mVar 3) (mw (m1 (mC (.int 1)) ineg)) ixV)) (mtup (mcons (mtup (mcons (mC (.int 1)) (mcons (mC (.int 1)) mnil))) mnil)) addV)) mnil)) addV)) mnil))) mnil) (by rw [hE]; rfl) (by
      rw [hE]; simp -implicitDefEqProofs [neg1, sl_tup, c3, i3, toD1, toD2, a2, a3]) (by simp; omega)
  have s4 : ∀ L : List PyData, L.length ≤ 500 → _ := fun L hL => ev_more 4 (E (.list L)) S L [.tuple [br, .tuple (bi ++ [.tuple (List.replicate es.length zeroD)])]] (mcons (mtup (mcons (mVar 2) (mcons (mw (m2 (mw (mslice (mVar 3) moN (moS (mw (m1 (mC (.int 1)) ineg))))) (mtup (mcons (mw (m2 (mtup (mcons (mtup (mcons (mC (.int 0)) (mcons (mC (.int 1)) mnil))) mnil)) (mw (mN (mcons (mw (m2 (mVar 3) (mw (m1 (mC (.int 1)) ineg)) ixV)) mnil) lenV)) repTV)) mnil)) addV)) mnil))) mnil) (by rw [hE]; rfl) (by
      rw [hE]; simp -implicitDefEqProofs [neg1, sl_tup, c3, i3, toD1, toD2, len_tup, r1, a4]) (by simp; omega)
  have s5 : ∀ L : List PyData, L.length ≤ 500 → _ := fun L hL => ev_more 4 (E (.list L)) S L [.tuple [.none, .tuple bk], .tuple [.tuple [.tuple cs, .tuple []], .tuple []], .tuple [br, .none], .tuple [br, .tuple bk, .tuple []]] (mcons (mtup (mcons (mC .none) (mcons (mVar 3) mnil))) (mcons (mtup (mcons (mtup (mcons (mw (m2 (mVar 2) (mC (.int 0)) ixV)) (mcons (mtup mnil) mnil))) (mcons (mtup mnil) mnil))) (mcons (mtup (mcons (mVar 2) (mcons (mC .none) mnil))) (mcons (mw (m2 (mVar 1) (mtup (mcons (mtup mnil) mnil)) addV)) mnil)))) (by rw [hE]; rfl) (by
      rw [hE, hbr]; rw [hbr] at a5; simp -implicitDefEqProofs [ix_t0, toD0, toD1, toD2, a5]) (by simp; omega)
  have zE : ∀ L L', List.set (E L) 4 (some (.dat L')) = E L' := fun L L' => by rw [hE]; rfl
  simp only [zE] at s2 s3 s4 s5
  obtain ⟨LL, hLL⟩ : ∃ LL, LL = badW cs rows bi es := ⟨_, rfl⟩
  have hl : LL.length = 13 := by rw [hLL]; simp [badW]
  obtain ⟨t, rfl⟩ : ∃ t : Nat, i = t := ⟨i.toNat, by omega⟩
  obtain ⟨d, hd⟩ := get_some (show t < LL.length by omega)
  have fin : ∀ S, ixV (.dat (.list LL)) (.dat (.int t)) S = some (.val (.dat d), S) := fun S => ix_list hd S
  refine ⟨d, S1, ?_, p1, hLL ▸ List.mem_of_getElem? hd⟩
  have run : m__law_bad_walkers (ev0 5 [.ref 0, .dat (.tuple [br, .tuple bk])]) S = (mret (m2 (mVar 4) (mw (mcall 2 F__law_take (mcons (mVar 0) (mcons (mC (.int 13)) mnil)))) ixV)) (E (.list LL)) S := by
    unfold m__law_bad_walkers
    rw [g0, v_mseq, s0]
    rw [fl_next, v_mseq, s1]
    rw [fl_next, v_mseq, s2 _ (by simp)]
    rw [fl_next, v_mseq, s3 _ (by simp)]
    rw [fl_next, v_mseq, s4 _ (by simp)]
    rw [fl_next, v_mseq, s5 _ (by simp), fl_next]
    rw [hLL, badW, ← hbk, ← hbr]
  have fi : F__law_bad_walkers [.ref 0, .dat (.tuple [br, .tuple bk])] S = .ok (.val (.dat d)) S1 := by
    unfold F__law_bad_walkers trimF
    rw [v_runF, run, hE]
    simp -implicitDefEqProofs [e1, fin, sl, pool_tr p1, Rv.cl, Vl.cl]
  rw [hbr, hbk] at fi
  exact fi
end Qk68
/-! text Y68 -/
set_option Elab.async false
set_option linter.all false
set_option maxRecDepth 100000
set_option maxHeartbeats 4000000
set_option autoImplicit false
namespace Qk68
open PySem PySem.Spec Bk
open L2 (Key)
/-! ### no walkers -/
theorem wk_len_no {b : PyData} {c p : PyData} {ks : List PyData} (hb : b = .tuple [c, p]) (h : ks.length ≠ lenD p) : walkersB (.tuple [b, .tuple ks]) = false := by
  subst hb
  have e : decide (ks.length = lenD p) = false := decide_eq_false h
  show (brigB (.tuple [c, p]) && (brigB (.tuple [c, .tuple ks]) && decide (ks.length = lenD p))) = false
  rw [e, Bool.and_false, Bool.and_false]
theorem wk_brig_no {c p k : PyData} (h : brigB (.tuple [c, k]) = false) : walkersB (.tuple [.tuple [c, p], k]) = false := by
  show (brigB (.tuple [c, p]) && (brigB (.tuple [c, k]) && decide (lenD k = lenD p))) = false
  rw [h, Bool.false_and, Bool.and_false]
theorem wk_first_no {b k : PyData} (h : brigB b = false) : walkersB (.tuple [b, k]) = false := by
  unfold walkersB
  simp only [h, Bool.false_and]
theorem brig_row_no {cs ps : List PyData} {p : PyData} (hp : p ∈ ps) (h : speedsB p ((cs.length : Int) + 1) = false) : brigB (.tuple [.tuple cs, .tuple ps]) = false := by
  have e : (ps.all fun sp => speedsB sp ((cs.length : Int) + 1)) = false := by
    rw [List.all_eq_false]
    exact ⟨p, hp, by rw [h]; decide⟩
  show (cutsB (.tuple cs) && (decide (1 ≤ ps.length) && (decide (ps.length ≤ 5) && (ps.all fun sp => speedsB sp ((cs.length : Int) + 1))))) = false
  rw [e]; simp
theorem brig_cs_no {cs : List PyData} (h : ∀ c ∈ cs, PlB c) : brigB (.tuple cs) = false := by
  match cs, h with
  | [], _ => rfl
  | [_], _ => rfl
  | [c, p], h =>
    obtain ⟨a, b, rfl⟩ := h c (by simp)
    have : cutsB (.tuple [.int a, .int b]) = false := rfl
    unfold brigB
    simp only [this, Bool.false_and]
  | _ :: _ :: _ :: _, _ => rfl
theorem badW_no {c most : Nat} {cs rows bi es : List PyData} (h : WkL c most cs rows (bi ++ [.tuple es])) (he : es.length = cs.length + 1) : ∀ d ∈ badW cs rows bi es, walkersB d = false := by
  have hl : bi.length + 1 = rows.length := by have := h.len; simpa using this
  intro d hd
  simp only [badW, List.mem_append, List.mem_cons, List.not_mem_nil, or_false] at hd
  rcases hd with (((((rfl | rfl | rfl | rfl | rfl) | (rfl | rfl)) | rfl) | rfl) | (rfl | rfl | rfl | rfl))
  · rfl
  · rfl
  · rfl
  · exact wk_len_no rfl (by simp [lenD]; omega)
  · exact wk_len_no rfl (by simp [lenD]; omega)
  · refine wk_brig_no ?_
    show (cutsB (.tuple cs) && false) = false
    rw [Bool.and_false]
  · exact wk_first_no (brig_cs_no h.br.cut.pl)
  · refine wk_brig_no (brig_row_no (p := .tuple (es ++ [oneD])) (by simp) ?_)
    have : decide (((es ++ [oneD]).length : Int) = (cs.length : Int) + 1) = false := decide_eq_false (by simp; omega)
    rw [speedsB, this, Bool.false_and]
  · refine wk_brig_no (brig_row_no (p := .tuple (List.replicate es.length zeroD)) (by simp) ?_)
    have : (List.replicate es.length zeroD).all posB = false := by
      rw [List.all_eq_false]
      exact ⟨zeroD, List.mem_replicate.mpr ⟨by omega, rfl⟩, by decide⟩
    rw [speedsB, this, Bool.and_false]
  · exact wk_first_no rfl
  · refine wk_first_no ?_
    unfold brigB
    simp
  · refine wk_brig_no ?_
    show (cutsB (.tuple cs) && false) = false
    rw [Bool.and_false]
  · rfl
theorem gd_nil : Gd 2 3 (.tuple []) := gd_tup (k := 1) (M := 0) (n := 0) (by decide) (by decide) (by simp) (by simp)
theorem gd_one : Gd 2 137 oneD := gd_fr (by decide) (by decide)
theorem gd_zero : Gd 2 137 zeroD := gd_fr (by decide) (by decide)
theorem gd_single {k M : Nat} (hk : 0 < k) {x : PyData} (hx : Gd k M x) : Gd (k + 1) (1 * (M + 2) + 3) (.tuple [x]) := gd_tup (n := 1) hk (by decide) (by simp) fun d hd => by
  simp at hd
  rw [hd]
  exact hx
theorem gd_two_l {k M : Nat} (hk : 0 < k) {x y : PyData} (hx : Gd k M x) (hy : Gd k M y) : Gd (k + 1) (2 * (M + 2) + 3) (.list [x, y]) := gd_lst (n := 2) hk (by decide) (by simp) fun d hd => by
  simp at hd
  rcases hd with rfl | rfl
  · exact hx
  · exact hy
theorem gd_three {k M : Nat} (hk : 0 < k) {x y z : PyData} (hx : Gd k M x) (hy : Gd k M y) (hz : Gd k M z) : Gd (k + 1) (3 * (M + 2) + 3) (.tuple [x, y, z]) := gd_tup (n := 3) hk (by decide) (by simp) fun d hd => by
  simp at hd
  rcases hd with rfl | rfl | rfl
  · exact hx
  · exact hy
  · exact hz
theorem gd_rowsL {rs : List PyData} (hl : rs.length ≤ 7) (h : ∀ r ∈ rs, Gd 3 1200 r) : Gd 4 8417 (.tuple rs) := gd_tup (n := 7) (by decide) (by decide) hl h
theorem badW_gd {c most : Nat} (hc : c ≤ 5) (hm : most ≤ 5) {cs rows bi es : List PyData} (h : WkL c most cs rows (bi ++ [.tuple es])) (he : es.length = cs.length + 1) : ∀ d ∈ badW cs rows bi es, Gd 7 400000 d := by
  have hl : bi.length + 1 = rows.length := by have := h.len; simpa using this
  have hcl := h.br.cut.len
  have hr5 := h.br.hi
  have br := gd_brig h.br hc hm
  have br5 : Gd 5 40000 (.tuple [.tuple cs, .tuple rows]) := br.mono (by decide) (by decide)
  have rowg : ∀ r ∈ bi ++ [.tuple es], Gd 3 1200 r := fun r hr => (gd_row (h.row r hr) (by omega)).mono (by decide) (by decide)
  have rb : ∀ r ∈ bi, Gd 3 1200 r := fun r hr => rowg r (by simp [hr])
  have esg : ∀ x ∈ es, Gd 2 137 x := fun x hx => by
    obtain ⟨ds, e, _, hs⟩ := h.row (.tuple es) (by simp)
    cases e
    exact gd_sp (hs x hx)
  have bkg : Gd 5 40000 (.tuple (bi ++ [.tuple es])) := (gd_rowsL (by simp; omega) rowg).mono (by decide) (by decide)
  have pair : ∀ {x y : PyData}, Gd 5 40000 x → Gd 5 40000 y → Gd 7 400000 (.tuple [x, y]) := fun a b => (gd_pair (by decide) a b).mono (by decide) (by decide)
  intro d hd
  simp only [badW, List.mem_append, List.mem_cons, List.not_mem_nil, or_false] at hd
  rcases hd with (((((rfl | rfl | rfl | rfl | rfl) | (rfl | rfl)) | rfl) | rfl) | (rfl | rfl | rfl | rfl))
  · exact gd_non.mono (by decide) (by decide)
  · exact (gd_two_l (by decide) br5 bkg).mono (by decide) (by decide)
  · exact (gd_single (by decide) br5).mono (by decide) (by decide)
  · exact pair br5 ((gd_rowsL (by simp; omega) fun r hr => rowg r (List.mem_of_mem_tail hr)).mono (by decide) (by decide))
  · refine pair br5 ((gd_rowsL (by simp; omega) fun r hr => ?_).mono (by decide) (by decide))
    rcases List.mem_append.mp hr with hr | hr
    · exact rowg r hr
    · exact rowg r (List.mem_of_mem_take hr)
  · exact pair br5 ((gd_lst (n := 7) (k := 3) (M := 1200) (by decide) (by decide) (by simp; omega) rowg).mono (by decide) (by decide))
  · exact br5.mono (by decide) (by decide)
  · refine pair br5 ((gd_rowsL (by simp; omega) fun r hr => ?_).mono (by decide) (by decide))
    rcases List.mem_append.mp hr with hr | hr
    · exact rb r hr
    · rw [List.mem_singleton.mp hr]
      refine (gd_tup (n := 7) (k := 2) (M := 137) (by decide) (by decide) (by simp; omega) fun x hx => ?_).mono (by decide) (by decide)
      rcases List.mem_append.mp hx with hx | hx
      · exact esg x hx
      · rw [List.mem_singleton.mp hx]; exact gd_one
  · refine pair br5 ((gd_rowsL (by simp; omega) fun r hr => ?_).mono (by decide) (by decide))
    rcases List.mem_append.mp hr with hr | hr
    · exact rb r hr
    · rw [List.mem_singleton.mp hr]
      refine (gd_tup (n := 7) (k := 2) (M := 137) (by decide) (by decide) (by simp; omega) fun x hx => ?_).mono (by decide) (by decide)
      rw [List.eq_of_mem_replicate hx]; exact gd_zero
  · exact pair (gd_non.mono (by decide) (by decide)) bkg
  · have g1 : Gd 5 40000 (.tuple [.tuple cs, .tuple []]) := (gd_pair (k := 3) (M := 837) (by decide) (gd_cuts h.br.cut hc) (gd_nil.mono (by decide) (by decide))).mono (by decide) (by decide)
    exact pair g1 (gd_nil.mono (by decide) (by decide))
  · exact pair br5 (gd_non.mono (by decide) (by decide))
  · exact (gd_three (by decide) br5 bkg (gd_nil.mono (by decide) (by decide))).mono (by decide) (by decide)
/-! ### no stands -/
def oddS (di : List PyData) (p : PyData) (b : Bool) : List PyData :=
  let ds : List PyData := di ++ [.tuple [p, wayS b]]
  (([.tuple [p, .str "Back"], .tuple [p, .none], .list [p, wayS b], .tuple [p], .tuple [.tuple [.int 3, .int 2], wayS b], .tuple [wayS b, p], .tuple [.tuple [.int 2, .int 2], wayS b], .none] ++ [.tuple [.int 1, wayS b]] : List PyData).map (fun own => PyData.tuple (di ++ [own]))) ++
    [.none, .list ds, .tuple (ds ++ [.tuple [oneD, .str "back"]]), .tuple ds.tail] ++ [.tuple ([.tuple [oneD, .str "ahead"]] ++ List.replicate ds.length (.tuple [zeroD, .str "back"]))]
theorem ev_bad_stands (di : List PyData) (p : PyData) (b : Bool) (S : Sto) (hp : PoolAt [] S) (hb : di.length ≤ 20) : ∃ (d : PyData) (S' : Sto), F__law_bad_stands [.ref 0, .dat (.tuple (di ++ [.tuple [p, wayS b]]))] S = .ok (.val (.dat d)) S' ∧ PoolAt [] S' ∧ d ∈ oddS di p b := by
  have sl := pool_len hp
  obtain ⟨w, hw⟩ : ∃ w, w = wayS b := ⟨_, rfl⟩
  obtain ⟨ds, hds⟩ : ∃ ds : List PyData, ds = di ++ [.tuple [p, w]] := ⟨_, rfl⟩
  have lb : ds.length = di.length + 1 := by rw [hds]; simp
  obtain ⟨i, S1, e1, p1, h0, h1⟩ := ev_take [] S 14 hp (by omega) (by omega)
  have aw : ∀ (x y : PyData) (S : Sto), argw (.new [Vl.dat x, Vl.dat y]) S = some (.dat (.list [x, y]), S) := fun _ _ _ => rfl
  have aw2 : ∀ (S : Sto), argw (.new (ds.map Vl.dat)) S = some (.dat (.list ds), S) := argw_new _
  have c1 : cutG ds (some 1) none = ds.tail := cut1 ds
  have c3 : cutG ds none (some (-1)) = di := by rw [hds]; exact cut_last di _
  have i3 : ∀ S : Sto, ixV (.dat (.tuple ds)) (.dat (.int (-1))) S = some (.val (.dat (.tuple [p, w])), S) := fun S => by rw [hds]; exact ix_last di _ S
  have a1 := add_tup ds [.tuple [oneD, .str "back"]] (by simp; omega)
  have a2 : ∀ own : PyData, ∀ S, addV (.dat (.tuple di)) (.dat (.tuple [own])) S = some (.val (.dat (.tuple (di ++ [own]))), S) := fun own => add_tup di [own] (by simp; omega)
  have r1 := rep_ev (.tuple [zeroD, .str "back"]) ds.length (by omega) (by omega)
  have a4 := add_tup [.tuple [oneD, .str "ahead"]] (List.replicate ds.length (.tuple [zeroD, .str "back"])) (by simp; omega)
  obtain ⟨odd, hodd⟩ : ∃ odd : List PyData, odd = [.tuple [p, .str "Back"], .tuple [p, .none], .list [p, w], .tuple [p], .tuple [.tuple [.int 3, .int 2], w], .tuple [w, p], .tuple [.tuple [.int 2, .int 2], w], .none] ++ [.tuple [.int 1, w]] := ⟨_, rfl⟩
  have lo : odd.length = 9 := by rw [hodd]; rfl
  have s0 : masg (mw (m2 (mVar 1) (mw (m1 (mC (.int 1)) ineg)) ixV)) (fun w env S => ((mgtup 2 (mgcons (mgN 2) (mgcons (mgN 3) mgnil))) w env S).pl) [some (.ref 0), some (.dat (.tuple ds)), none, none, none, none, none] S = .next [some (.ref 0), some (.dat (.tuple ds)), some (.dat p), some (.dat w), none, none, none] S := by
    simp -implicitDefEqProofs [neg1, i3, itemsOf]
  have s1 := ev_first 4 [some (.ref 0), some (.dat (.tuple ds)), some (.dat p), some (.dat w), none, none, none] S [.tuple [p, .str "Back"], .tuple [p, .none], .list [p, w], .tuple [p], .tuple [.tuple [.int 3, .int 2], w], .tuple [w, p], .tuple [.tuple [.int 2, .int 2], w], .none]
    (mcons (mtup (mcons (mVar 2) (mcons (mC (.str "Back")) mnil))) (mcons (mtup (mcons (mVar 2) (mcons (mC .none) mnil))) (mcons (mw (mlst (mcons (mVar 2) (mcons (mVar 3) mnil)))) (mcons (mtup (mcons (mVar 2) mnil)) (mcons (mtup (mcons (mtup (mcons (mC (.int 3)) (mcons (mC (.int 2)) mnil))) (mcons (mVar 3) mnil))) (mcons (mtup (mcons (mVar 3) (mcons (mVar 2) mnil))) (mcons (mtup (mcons (mtup (mcons (mC (.int 2)) (mcons (mC (.int 2)) mnil))) (mcons (mVar 3) mnil))) (mcons (mC .none) mnil)))))))) (by
      simp -implicitDefEqProofs [aw, toD1, toD2]) (by simp)
  have s2 : ∀ L : List PyData, L.length ≤ 500 → _ := fun L hL => ev_more 4 [some (.ref 0), some (.dat (.tuple ds)), some (.dat p), some (.dat w), some (.dat (.list L)), none, none] S L [.tuple [.int 1, w]] (mcons (mtup (mcons (mC (.int 1)) (mcons (mVar 3) mnil))) mnil) rfl (by
      simp -implicitDefEqProofs [toD2]) (by simp; omega)
  have lc := dat_map odd [some (.ref 0), some (.dat (.tuple ds)), some (.dat p), some (.dat w), some (.dat (.list odd)), none, none] (mgN 6) myes (mw (m2 (mw (mslice (mVar 1) moN (moS (mw (m1 (mC (.int 1)) ineg))))) (mtup (mcons (mVar 6) mnil)) addV)) S (fun own => .tuple (di ++ [own])) (fun own _ => ⟨[some (.ref 0), some (.dat (.tuple ds)), some (.dat p), some (.dat w), some (.dat (.list odd)), none, some (.dat own)], rfl, rfl, by
      simp -implicitDefEqProofs [neg1, sl_tup, c3, toD1, a2]⟩) (by omega)
  obtain ⟨m9, hm9⟩ : ∃ m9 : List PyData, m9 = odd.map (fun own => PyData.tuple (di ++ [own])) := ⟨_, rfl⟩
  rw [← hm9] at lc
  have l9 : m9.length = 9 := by rw [hm9, List.length_map, lo]
  have aw9 : ∀ (S : Sto), argw (.new (m9.map Vl.dat)) S = some (.dat (.list m9), S) := argw_new _
  have s3 : msetLc 5 (mlc [6] (misrc (mVar 4)) (mgN 6) myes (mw (m2 (mw (mslice (mVar 1) moN (moS (mw (m1 (mC (.int 1)) ineg))))) (mtup (mcons (mVar 6) mnil)) addV))) true [some (.ref 0), some (.dat (.tuple ds)), some (.dat p), some (.dat w), some (.dat (.list odd)), none, none] S = .next [some (.ref 0), some (.dat (.tuple ds)), some (.dat p), some (.dat w), some (.dat (.list odd)), some (.dat (.list m9)), none] S := by
    have e : mlc [6] (misrc (mVar 4)) (mgN 6) myes (mw (m2 (mw (mslice (mVar 1) moN (moS (mw (m1 (mC (.int 1)) ineg))))) (mtup (mcons (mVar 6) mnil)) addV)) [some (.ref 0), some (.dat (.tuple ds)), some (.dat p), some (.dat w), some (.dat (.list odd)), none, none] S = .ok (.new (m9.map .dat)) S := by
      rw [v_mlc]
      have : misrc (mVar 4) [some (.ref 0), some (.dat (.tuple ds)), some (.dat p), some (.dat w), some (.dat (.list odd)), none, none] S = .ok (.st (odd.map .dat)) S := by simp [srcOf]
      rw [this, Out.bind_ok, v_src_len, List.length_map]
      exact lc
    rw [v_msetLc, e]
    show (match (if true = true then argw (.new (m9.map Vl.dat)) S else _) with
      | some (w, S) => _
      | none => _) = _
    rw [if_pos rfl, aw9]
    rfl
  obtain ⟨E, hE⟩ : ∃ E : PyData → Ev, E = fun L => [some (.ref 0), some (.dat (.tuple ds)), some (.dat p), some (.dat w), some (.dat (.list odd)), some (.dat L), none] := ⟨_, rfl⟩
  have s4 : ∀ L : List PyData, L.length ≤ 500 → _ := fun L hL => ev_more 5 (E (.list L)) S L [.none, .list ds, .tuple (ds ++ [.tuple [oneD, .str "back"]]), .tuple ds.tail] (mcons (mC .none) (mcons (mw (mN (mcons (mVar 1) mnil) listV)) (mcons (mw (m2 (mVar 1) (mtup (mcons (mtup (mcons (mtup (mcons (mC (.int 1)) (mcons (mC (.int 1)) mnil))) (mcons (mC (.str "back")) mnil))) mnil)) addV)) (mcons (mw (mslice (mVar 1) (moS (mC (.int 1))) moN)) mnil)))) (by rw [hE]; rfl) (by
      rw [hE]; simp -implicitDefEqProofs [list_tup, aw2, toD1, toD2, a1, sl_tup, c1]) (by simp; omega)
  have s5 : ∀ L : List PyData, L.length ≤ 500 → _ := fun L hL => ev_more 5 (E (.list L)) S L [.tuple ([.tuple [oneD, .str "ahead"]] ++ List.replicate ds.length (.tuple [zeroD, .str "back"]))] (mcons (mw (m2 (mtup (mcons (mtup (mcons (mtup (mcons (mC (.int 1)) (mcons (mC (.int 1)) mnil))) (mcons (mC (.str "ahead")) mnil))) mnil)) (mw (m2 (mtup (mcons (mtup (mcons (mtup (mcons (mC (.int 0)) (mcons (mC (.int 1)) mnil))) (mcons (mC (.str "back")) mnil))) mnil)) (mw (mN (mcons (mVar 1) mnil) lenV)) repTV)) addV)) mnil) (by rw [hE]; rfl) (by
      rw [hE]; simp -implicitDefEqProofs [len_tup, toD1, toD2, r1, a4]) (by simp; omega)
  have zE : ∀ L L', List.set (E L) 5 (some (.dat L')) = E L' := fun L L' => by rw [hE]; rfl
  simp only [zE] at s4 s5
  have zE2 : [some (Vl.ref 0), some (.dat (.tuple ds)), some (.dat p), some (.dat w), some (.dat (.list odd)), some (.dat (.list m9)), none] = E (.list m9) := by rw [hE]
  obtain ⟨LL, hLL⟩ : ∃ LL, LL = oddS di p b := ⟨_, rfl⟩
  have hl : LL.length = 14 := by rw [hLL]; simp [oddS]
  obtain ⟨t, rfl⟩ : ∃ t : Nat, i = t := ⟨i.toNat, by omega⟩
  obtain ⟨d, hd⟩ := get_some (show t < LL.length by omega)
  have fin : ∀ S, ixV (.dat (.list LL)) (.dat (.int t)) S = some (.val (.dat d), S) := fun S => ix_list hd S
  refine ⟨d, S1, ?_, p1, hLL ▸ List.mem_of_getElem? hd⟩
  have g0 : ev0 7 [.ref 0, .dat (.tuple ds)] = [some (.ref 0), some (.dat (.tuple ds)), none, none, none, none, none] := rfl
  have run : m__law_bad_stands (ev0 7 [.ref 0, .dat (.tuple ds)]) S = (mret (m2 (mVar 5) (mw (mcall 2 F__law_take (mcons (mVar 0) (mcons (mC (.int 14)) mnil)))) ixV)) (E (.list LL)) S := by
    unfold m__law_bad_stands
    rw [g0, v_mseq, s0, fl_next, v_mseq, s1, fl_next, v_mseq]
    have s2' := s2 [.tuple [p, .str "Back"], .tuple [p, .none], .list [p, w], .tuple [p], .tuple [.tuple [.int 3, .int 2], w], .tuple [w, p], .tuple [.tuple [.int 2, .int 2], w], .none] (by simp)
    rw [← hodd] at s2'
    have s2'' : mset 4 (mw (m2 (mVar 4) (mw (mlst (mcons (mtup (mcons (mC (.int 1)) (mcons (mVar 3) mnil))) mnil))) addV)) (List.set [some (.ref 0), some (.dat (.tuple ds)), some (.dat p), some (.dat w), none, none, none] 4 (some (.dat (.list [.tuple [p, .str "Back"], .tuple [p, .none], .list [p, w], .tuple [p], .tuple [.tuple [.int 3, .int 2], w], .tuple [w, p], .tuple [.tuple [.int 2, .int 2], w], .none])))) S = .next [some (.ref 0), some (.dat (.tuple ds)), some (.dat p), some (.dat w), some (.dat (.list odd)), none, none] S := s2'
    rw [s2'', fl_next, v_mseq, s3, fl_next, v_mseq, zE2, s4 _ (by omega), fl_next, v_mseq, s5 _ (by simp; omega), fl_next]
    rw [hLL, oddS, ← hw, ← hds, hm9, hodd]
  have fi : F__law_bad_stands [.ref 0, .dat (.tuple ds)] S = .ok (.val (.dat d)) S1 := by
    unfold F__law_bad_stands trimF
    rw [v_runF, run, hE]
    simp -implicitDefEqProofs [e1, fin, sl, pool_tr p1, Rv.cl, Vl.cl]
  rw [hds, hw] at fi
  exact fi
end Qk68
/-! text Z68 -/
set_option Elab.async false
set_option linter.all false
set_option maxRecDepth 100000
set_option maxHeartbeats 4000000
set_option autoImplicit false
namespace Qk68
open PySem PySem.Spec Bk
open L2 (Key)
theorem st_len_no {n : Int} {ds : List PyData} (h : (ds.length : Int) ≠ n) : standsB n (.tuple ds) = false := by
  unfold standsB
  simp only [decide_eq_false h, Bool.false_and]
theorem st_two_no {n : Int} {ds : List PyData} {d : PyData} (hd : d ∈ ds) (h : tupLen d 2 2 = false) : standsB n (.tuple ds) = false := by
  have e : (ds.all fun d => tupLen d 2 2) = false := by
    rw [List.all_eq_false]
    exact ⟨d, hd, by rw [h]; decide⟩
  unfold standsB
  simp only [e, Bool.false_and, Bool.and_false]
theorem st_word_no {n : Int} {ds : List PyData} {d : PyData} (hd : d ∈ ds) (h : wordB (sndD d) = false) : standsB n (.tuple ds) = false := by
  have e : (ds.all fun d => wordB (sndD d)) = false := by
    rw [List.all_eq_false]
    exact ⟨d, hd, by rw [h]; decide⟩
  unfold standsB
  simp only [e, Bool.false_and, Bool.and_false]
theorem st_place_no {n : Int} {ds : List PyData} {d : PyData} (hd : d ∈ ds) (h : placeB (fstD d) = false) : standsB n (.tuple ds) = false := by
  have e : (ds.map fstD).all placeB = false := by
    rw [List.all_eq_false]
    exact ⟨fstD d, List.mem_map.mpr ⟨d, hd, rfl⟩, by rw [h]; decide⟩
  unfold standsB placesB
  simp only [e, Bool.false_and, Bool.and_false]
theorem oddS_no {di : List PyData} {p : PyData} {b : Bool} (hp : PlB p) : ∀ d ∈ oddS di p b, standsB ((di.length + 1 : Nat) : Int) d = false := by
  intro d hd
  simp only [oddS, List.mem_append, List.mem_cons, List.not_mem_nil, or_false, List.mem_map] at hd
  have last : ∀ x : PyData, x ∈ di ++ [x] := fun x => by simp
  rcases hd with ((⟨own, h, rfl⟩ | (rfl | rfl | rfl | rfl)) | rfl)
  · rcases h with ((rfl | rfl | rfl | rfl | rfl | rfl | rfl | rfl) | rfl)
    · exact st_word_no (last _) (by show wordB (.str "Back") = false; decide +kernel)
    · exact st_word_no (last _) rfl
    · exact st_two_no (last _) rfl
    · exact st_two_no (last _) rfl
    · exact st_place_no (last _) (by show placeB (.tuple [.int 3, .int 2]) = false; decide +kernel)
    · obtain ⟨x, y, rfl⟩ := hp
      exact st_word_no (last _) rfl
    · exact st_place_no (last _) (by show placeB (.tuple [.int 2, .int 2]) = false; decide +kernel)
    · exact st_two_no (last _) rfl
    · exact st_place_no (last _) rfl
  · rfl
  · rfl
  · exact st_len_no (by simp)
  · exact st_len_no (by cases di <;> simp <;> omega)
  · exact st_len_no (by simp; omega)
theorem oddS_gd {di : List PyData} {p : PyData} {b : Bool} (hl : di.length ≤ 5) (hd : ∀ x ∈ di, Gd 3 281 x) (hp : Gd 2 137 p) : ∀ d ∈ oddS di p b, Gd 7 400000 d := by
  have w := gd_way b
  have w2 : Gd 2 137 (wayS b) := w.mono (by decide) (by decide)
  have st : Gd 3 281 (.tuple [p, wayS b]) := gd_pair (by decide) hp w2
  have rows : ∀ {ds : List PyData}, ds.length ≤ 8 → (∀ x ∈ ds, Gd 3 700 x) → Gd 7 400000 (.tuple ds) := fun l h => (gd_tup (n := 8) (k := 3) (M := 700) (by decide) (by decide) l h).mono (by decide) (by decide)
  have dI : ∀ x ∈ di, Gd 3 700 x := fun x hx => (hd x hx).mono (by decide) (by decide)
  have one : ∀ {own : PyData}, Gd 3 700 own → Gd 7 400000 (.tuple (di ++ [own])) := fun h => rows (by simp; omega) fun x hx => by
    rcases List.mem_append.mp hx with hx | hx
    · exact dI x hx
    · rw [List.mem_singleton.mp hx]; exact h
  have all : ∀ x ∈ di ++ [.tuple [p, wayS b]], Gd 3 700 x := fun x hx => by
    rcases List.mem_append.mp hx with hx | hx
    · exact dI x hx
    · rw [List.mem_singleton.mp hx]; exact st.mono (by decide) (by decide)
  have pr : ∀ {x y : PyData}, Gd 2 137 x → Gd 2 137 y → Gd 3 700 (.tuple [x, y]) := fun a b => (gd_pair (by decide) a b).mono (by decide) (by decide)
  have sm : ∀ {x : PyData}, Gd 1 65 x → Gd 2 137 x := fun h => h.mono (by decide) (by decide)
  intro d hd
  simp only [oddS, List.mem_append, List.mem_cons, List.not_mem_nil, or_false, List.mem_map] at hd
  rcases hd with ((⟨own, h, rfl⟩ | (rfl | rfl | rfl | rfl)) | rfl)
  · apply one
    rcases h with ((rfl | rfl | rfl | rfl | rfl | rfl | rfl | rfl) | rfl)
    · exact pr hp (sm gd_Back)
    · exact pr hp (sm gd_non)
    · exact (gd_two_l (by decide) hp w2).mono (by decide) (by decide)
    · exact (gd_single (by decide) hp).mono (by decide) (by decide)
    · exact pr (gd_fr (by decide) (by decide)) w2
    · exact pr w2 hp
    · exact pr (gd_fr (by decide) (by decide)) w2
    · exact gd_non.mono (by decide) (by decide)
    · exact pr (sm (gd_int (by decide))) w2
  · exact gd_non.mono (by decide) (by decide)
  · exact (gd_lst (n := 8) (k := 3) (M := 700) (by decide) (by decide) (by simp; omega) all).mono (by decide) (by decide)
  · refine rows (by simp; omega) fun x hx => ?_
    rcases List.mem_append.mp hx with hx | hx
    · exact all x hx
    · rw [List.mem_singleton.mp hx]; exact pr gd_one (sm gd_back)
  · exact rows (by cases di <;> simp at hl ⊢ <;> omega) fun x hx => all x (List.mem_of_mem_tail hx)
  · refine rows (by simp; omega) fun x hx => ?_
    rcases List.mem_append.mp hx with hx | hx
    · rw [List.mem_singleton.mp hx]; exact pr gd_one (sm gd_ahead)
    · rw [List.eq_of_mem_replicate hx]; exact pr gd_zero (sm gd_back)
theorem split_last {α : Type} {xs : List α} (h : 0 < xs.length) : ∃ ys x, xs = ys ++ [x] := by
  rcases rev_cases xs with rfl | ⟨r, i, e⟩
  · simp at h
  · exact ⟨r, i, e⟩
theorem st_split {pl : List PyData} {bs : List Bool} (hb : bs.length = pl.length) (h : 0 < pl.length) : ∃ di p b, stD pl bs = di ++ [.tuple [p, wayS b]] ∧ p ∈ pl ∧ di.length + 1 = pl.length := by
  obtain ⟨di, x, e⟩ := split_last (show 0 < (stD pl bs).length by rw [stD_len hb]; exact h)
  obtain ⟨q, c, rfl⟩ := stD_mem (show x ∈ stD pl bs by rw [e]; simp)
  refine ⟨di, q, c, e, ?_, ?_⟩
  · have := stD_map hb
    rw [e] at this
    rw [← this]
    simp [fstD]
  · have := stD_len hb
    rw [e] at this
    simpa using this
end Qk68
/-! text LA68 -/
set_option Elab.async false
set_option linter.all false
set_option maxRecDepth 100000
set_option maxHeartbeats 4000000
set_option autoImplicit false
namespace Qk68
open PySem PySem.Spec Bk
open L2 (Key)
open PySem.PyData (strOk)
/-! ### the law's loops -/
def li0 (fuel : Nat) : MS := (mset 6 (mwM (mcall 2 (F__law_stands fuel) (mcons (mVar 1) (mcons (mVar 4) mnil)))))
def li1 (fuel : Nat) : MS := (mIf (mb (mw (m2 (mVar 5) (mC (.int 0)) (eqv false)))) (mseq (mset 7 (mw (m2 (mw (mlst (mcons (mtup (mcons (mC (.int 0)) (mcons (mC (.int 1)) mnil))) (mcons (mtup (mcons (mC (.int 0)) (mcons (mC (.int 1)) mnil))) (mcons (mtup (mcons (mC (.int 1)) (mcons (mC (.int 2)) mnil))) (mcons (mtup (mcons (mC (.int 1)) (mcons (mC (.int 1)) mnil))) mnil)))))) (mw (mcall 2 F__law_take (mcons (mVar 1) (mcons (mC (.int 4)) mnil)))) ixV)))
    (mset 6 (mwM (mN (mcons (mw (mlc [15, 16] (misrc (mVar 6)) (mgtup 2 (mgcons (mgN 15) (mgcons (mgN 16) mgnil))) myes (mtup (mcons (mVar 7) (mcons (mVar 16) mnil))))) mnil) tupV)))) mnext)
def li2 (fuel : Nat) : MS := (mIf (mb (mw (m2 (mw (mN (mcons (mw (mlst (mcons (mw (mcall 2 F_are_stands (mcons (mVar 3) (mcons (mVar 6) mnil)))) (mcons (mw (mcallK 2 p10 F_are_stands (mcons (mVar 6) (mcons (mVar 3) mnil)))) mnil)))) mnil) reprV)) (mC (.str "[True, True]")) (eqv true)))) (mret (me (mC (.bool false)))) mnext)
def li3 (fuel : Nat) : MS := (mset 8 (mw (mcall 2 (F__law_settled fuel) (mcons (mC (.int 0)) (mcons (mVar 6) mnil)))))
def li4 (fuel : Nat) : MS := (mIf (mb (mw (m2 (mw (mN (mcons (mw (mlst (mcons (mw (mcall 2 (F_at_once fuel) (mcons (mVar 3) (mcons (mVar 6) mnil)))) (mcons (mw (mcallK 2 p10 (F_at_once fuel) (mcons (mVar 6) (mcons (mVar 3) mnil)))) mnil)))) mnil) reprV)) (mw (mN (mcons (mw (mlst (mcons (mVar 8) (mcons (mVar 8) mnil)))) mnil) reprV)) (eqv true)))) (mret (me (mC (.bool false)))) mnext)
def li5 (fuel : Nat) : MS := (mpar 9 10 (mcons (mw (mcall 2 F__law_bad_walkers (mcons (mVar 1) (mcons (mVar 3) mnil)))) (mcons (mw (mcall 2 F__law_bad_stands (mcons (mVar 1) (mcons (mVar 6) mnil)))) mnil)))
def li6 (fuel : Nat) : MS := (mpar 11 12 (mcons (mw (mN (mcons (mw (mlst (mcons (mVar 9) (mcons (mVar 10) mnil)))) mnil) reprV)) (mcons (mw (mcall 2 F__law_take (mcons (mVar 1) (mcons (mC (.int 3)) mnil)))) mnil)))
def li7 (fuel : Nat) : MS := (mIf (mor (mb (mw (m2 (mw (mN (mcons (mw (mlst (mcons (mw (mcall 1 F_are_walkers (mcons (mVar 9) mnil))) (mcons (mw (mcall 2 F_are_stands (mcons (mVar 3) (mcons (mVar 10) mnil)))) mnil)))) mnil) reprV)) (mC (.str "[False, False]")) (eqv true)))) (mb (mw (m2 (mw (mN (mcons (mw (mlst (mcons (mVar 9) (mcons (mVar 10) mnil)))) mnil) reprV)) (mVar 11) (eqv true))))) (mret (me (mC (.bool false)))) mnext)
def li8 (fuel : Nat) : MS := (mIf (mb (mw (m2 (mw (mcall 4 (F__law_caught fuel) (mcons (mw (mcall 2 F__law_take (mcons (mVar 1) (mcons (mC (.int 5)) mnil)))) (mcons (mVar 9) (mcons (mVar 10) (mcons (mw (m1 (mC (.int 1)) ineg)) mnil)))))) (mtup (mcons (mC (.int 0)) (mcons (mw (mN (mcons (mVar 9) mnil) reprV)) mnil))) (eqv true)))) (mret (me (mC (.bool false)))) mnext)
def li9 (fuel : Nat) : MS := (mIf (mb (mw (m2 (mw (mcall 4 (F__law_caught fuel) (mcons (mVar 12) (mcons (mVar 3) (mcons (mVar 10) (mcons (mw (m1 (mC (.int 1)) ineg)) mnil)))))) (mtup (mcons (mC (.int 1)) (mcons (mw (mN (mcons (mVar 10) mnil) reprV)) mnil))) (eqv true)))) (mret (me (mC (.bool false)))) mnext)
def l_in (fuel : Nat) : MS := mseq (li0 fuel) (mseq (li1 fuel) (mseq (li2 fuel) (mseq (li3 fuel) (mseq (li4 fuel) (mseq (li5 fuel) (mseq (li6 fuel) (mseq (li7 fuel) (mseq (li8 fuel) ((li9 fuel))))))))))
def lo0 (fuel : Nat) : MS := (mset 3 (mw (mcall 3 (F__law_walkers fuel) (mcons (mVar 1) (mcons (mC (.int 4)) (mcons (mC (.int 2)) mnil))))))
def lo1 (fuel : Nat) : MS := (mset 4 (mw (mN (mcons (mw (m2 (mVar 3) (mC (.int 1)) ixV)) mnil) lenV)))
def lo2 (fuel : Nat) : MS := (mIf (mb (mw (m2 (mw (mN (mcons (mw (mlst (mcons (mw (mcall 1 F_are_walkers (mcons (mVar 3) mnil))) (mcons (mw (mcallK 1 p0 F_are_walkers (mcons (mVar 3) mnil))) mnil)))) mnil) reprV)) (mC (.str "[True, True]")) (eqv true)))) (mret (me (mC (.bool false)))) mnext)
def lo3 (fuel : Nat) : MS := mfor (mrng1 (mcons (mC (.int 4)) mnil)) (mgN 5) (l_in fuel)
def lo4 (fuel : Nat) : MS := (mpar 13 14 (mcons (mw (m2 (mw (mlst (mcons (mC .none) (mcons (mC (.int 0)) (mcons (mtup (mcons (mw (m1 (mC (.int 1)) ineg)) (mcons (mC (.int 2)) mnil))) (mcons (mtup (mcons (mC (.int 2)) (mcons (mC (.int 4)) mnil))) (mcons (mw (mlst (mcons (mC (.int 1)) (mcons (mC (.int 2)) mnil)))) mnil))))))) (mw (mcall 2 F__law_take (mcons (mVar 1) (mcons (mC (.int 5)) mnil)))) ixV)) (mcons (mw (m2 (mw (mlst (mcons (mw (m1 (mC (.int 1)) ineg)) (mcons (mC (.int 41)) (mcons (mw (m2 (mC (.int 10)) (mC (.int 20)) ipow)) mnil))))) (mw (mcall 2 F__law_take (mcons (mVar 1) (mcons (mC (.int 3)) mnil)))) ixV)) mnil)))
def lo5 (fuel : Nat) : MS := (mIf (mb (mw (m2 (mw (mcall 4 (F__law_caught fuel) (mcons (mC (.int 1)) (mcons (mVar 3) (mcons (mVar 6) (mcons (mVar 13) mnil)))))) (mtup (mcons (mC (.int 2)) (mcons (mw (mN (mcons (mVar 13) mnil) reprV)) mnil))) (eqv true)))) (mret (me (mC (.bool false)))) mnext)
def lo6 (fuel : Nat) : MS := (mIf (mb (mw (m2 (mw (mcall 4 (F__law_caught fuel) (mcons (mC (.int 2)) (mcons (mVar 3) (mcons (mVar 6) (mcons (mVar 14) mnil)))))) (mtup (mcons (mC (.int 3)) (mcons (mw (mN (mcons (mVar 14) mnil) reprV)) mnil))) (eqv true)))) (mret (me (mC (.bool false)))) mnext)
def l_out (fuel : Nat) : MS := mseq (lo0 fuel) (mseq (lo1 fuel) (mseq (lo2 fuel) (mseq (lo3 fuel) (mseq (lo4 fuel) (mseq (lo5 fuel) ((lo6 fuel)))))))
theorem law_eq (fuel : Nat) : m_law fuel = mseq (mset 1 (mwM (mcall 2 F__law_pool (mcons (mVar 0) (mcons (mC (.int 400)) mnil))))) (mseq (mfor (mrng1 (mcons (mC (.int 4)) mnil)) (mgN 2) (l_out fuel)) (mret (me (mC (.bool true))))) := rfl

/-! ### texts compared -/
theorem shaped_str {s : PySem.Str} (h : strOk s = true) : SeqAt.shaped (.str s) = true := by
  unfold SeqAt.shaped
  rw [PyData.canLay0, h]; rfl
theorem eqv_str {s : PySem.Str} (h : strOk s = true) (S : Sto) : eqv true (.dat (.str s)) (.dat (.str s)) S = some (.val (.dat (.bool false)), S) := by
  have e : PyData.eqv (.str s) (.str s) = true := by rw [PyData.eqv]; exact beq_self_eq_true s
  rw [eqv_dd, shaped_str h, e]; rfl
theorem eqv_cs {s : PySem.Str} (h : strOk s = true) (i : Int) (S : Sto) : eqv true (.dat (.tuple [.int i, .str s])) (.dat (.tuple [.int i, .str s])) S = some (.val (.dat (.bool false)), S) := by
  have e : PyData.eqv (.tuple [.int i, .str s]) (.tuple [.int i, .str s]) = true := by
    rw [PyData.eqv, PyData.eqvAll, PyData.eqvAll, PyData.eqvAll, PyData.eqv, PyData.eqv, beq_self_eq_true s, beq_self_eq_true i]; rfl
  have z : SeqAt.shaped (.tuple [.int i, .str s]) = true := by
    unfold SeqAt.shaped
    rw [PyData.canLay0, PyData.canLayAll0, PyData.canLayAll0, PyData.canLayAll0, PyData.canLay0, PyData.canLay0, h]; rfl
  rw [eqv_dd, z, e]; rfl
theorem rep_gd {k M : Nat} {d : PyData} (h : Gd k M d) (hk : k ≤ 64) (hM : M ≤ 1000000) (S : Sto) : reprV [.dat d] S = some (.val (.dat (.str d.shown)), S) := by
  unfold reprV
  simp only [pyOf_dat]
  rw [if_pos (h.rep hk hM)]
theorem shown_tt : (PyData.list [.bool true, .bool true]).shown = "[True, True]" := by decide +kernel
theorem shown_ff : (PyData.list [.bool false, .bool false]).shown = "[False, False]" := by decide +kernel
theorem rep_tt (S : Sto) : reprV [.dat (.list [.bool true, .bool true])] S = some (.val (.dat (.str "[True, True]")), S) := by
  have g : Gd 2 137 (.list [.bool true, .bool true]) := gd_two_l (by decide) (gd_bool true) (gd_bool true)
  rw [rep_gd g (by decide) (by decide), shown_tt]
theorem rep_ff (S : Sto) : reprV [.dat (.list [.bool false, .bool false])] S = some (.val (.dat (.str "[False, False]")), S) := by
  have g : Gd 2 137 (.list [.bool false, .bool false]) := gd_two_l (by decide) (gd_bool false) (gd_bool false)
  rw [rep_gd g (by decide) (by decide), shown_ff]
theorem eq_tt (S : Sto) : eqv true (.dat (.str "[True, True]")) (.dat (.str "[True, True]")) S = some (.val (.dat (.bool false)), S) := eqv_str (strOk_ofString _) S
theorem eq_ff (S : Sto) : eqv true (.dat (.str "[False, False]")) (.dat (.str "[False, False]")) S = some (.val (.dat (.bool false)), S) := eqv_str (strOk_ofString _) S
theorem aw_2 (x y : PyData) (S : Sto) : argw (.new [Vl.dat x, Vl.dat y]) S = some (.dat (.list [x, y]), S) := rfl
theorem settle_bounds (pl : List PyData) : ∀ (n : Nat) (bs : List Bool) (o : Int) (bs' : List Bool) (o' : Int), settleB pl n bs o = some (bs', o') → bs'.length = bs.length ∧ o ≤ o' ∧ o' ≤ o + n
  | 0, _, _, _, _, h => by cases h
  | n + 1, bs, o, bs', o', h => by
    have tl := turn_len pl bs o
    have tb : o ≤ (turnB pl bs o).2.1 ∧ (turnB pl bs o).2.1 ≤ o + 1 := by
      unfold turnB
      split
      · exact ⟨by show o ≤ o + 1; omega, by show o + 1 ≤ o + 1; omega⟩
      · split
        · exact ⟨Int.le_refl _, by show o ≤ o + 1; omega⟩
        · split
          · exact ⟨Int.le_refl _, by show o ≤ o + 1; omega⟩
          · exact ⟨Int.le_refl _, by show o ≤ o + 1; omega⟩
    rw [settleB] at h
    split at h
    · have ih := settle_bounds pl n _ _ bs' o' h
      refine ⟨ih.1.trans tl, by omega, by omega⟩
    · split at h
      · cases h
      · simp only [Option.some.injEq, Prod.mk.injEq] at h
        obtain ⟨rfl, rfl⟩ := h
        exact ⟨tl, by omega, by omega⟩
/-! ### what is held of the walkers, of the stands -/
structure WH (cs rows bi es : List PyData) (many : Nat) : Prop where
  wk : WkL 2 4 cs rows (bi ++ [.tuple es])
  es : es.length = cs.length + 1
  many : bi.length + 1 = many
theorem WH.le {cs rows bi es : List PyData} {many : Nat} (h : WH cs rows bi es many) : 1 ≤ many ∧ many ≤ 4 := by
  have a := h.many
  have b := h.wk.len
  have c := h.wk.br.hi
  simp at b
  omega
abbrev wD (cs rows bi es : List PyData) : PyData := wkD cs rows (bi ++ [.tuple es])
theorem WH.ok {cs rows bi es : List PyData} {many : Nat} (h : WH cs rows bi es many) : walkersB (wD cs rows bi es) = true := wk_ok h.wk (by decide) (by decide)
theorem WH.gd {cs rows bi es : List PyData} {many : Nat} (h : WH cs rows bi es many) : Gd 6 20169 (wD cs rows bi es) := gd_wk h.wk (by decide) (by decide)
theorem WH.manyD {cs rows bi es : List PyData} {many : Nat} (h : WH cs rows bi es many) : manyD (wD cs rows bi es) = many := by
  show ((bi ++ [PyData.tuple es]).length : Int) = many
  rw [← h.many]; simp
theorem wh_of {cs rows bk : List PyData} (h : WkL 2 4 cs rows bk) : ∃ bi es, bk = bi ++ [.tuple es] ∧ WH cs rows bi es bk.length := by
  have l := h.len
  have b := h.br.lo
  obtain ⟨bi, x, rfl⟩ := split_last (show 0 < bk.length by omega)
  obtain ⟨es, rfl, he, _⟩ := h.row x (by simp)
  exact ⟨bi, es, rfl, h, he, by simp⟩
structure SH (pl : List PyData) (bs : List Bool) (many : Nat) : Prop where
  hp : PlI many pl
  hb : bs.length = pl.length
theorem SH.ok {pl : List PyData} {bs : List Bool} {many : Nat} (h : SH pl bs many) (h1 : 1 ≤ many ∧ many ≤ 4) : standsB (many : Int) (.tuple (stD pl bs)) = true := st_ok h.hp h.hb h1.1 (by omega)
theorem SH.gd {pl : List PyData} {bs : List Bool} {many : Nat} (h : SH pl bs many) (h1 : many ≤ 4) : Gd 4 1701 (.tuple (stD pl bs)) := (gd_st h.hp h.hb (by omega)).1
theorem need_ok {cs rows bi es : List PyData} {many : Nat} {pl : List PyData} {bs : List Bool} (h : WH cs rows bi es many) (s : SH pl bs many) : needS (wD cs rows bi es) (.tuple (stD pl bs)) = none := by
  unfold needS
  rw [h.ok, if_pos rfl, h.manyD, s.ok h.le, if_pos rfl]
/-! ### what is caught -/
theorem cl_pool (xs : List Int) : (Ob.lst (intsV xs)).cl 1 = true := by simp [Ob.cl, intsV, Vl.cl]
theorem caught_bad {p : Ob} (hc : p.cl 1 = true) {bad odd : PyData} (gb : Gd 7 400000 bad) (go : Gd 7 400000 odd) (nb : walkersB bad = false) (w : Int) (h0 : 0 ≤ w) (h5 : w < 5) :
    F__law_caught 60 [.dat (.int w), .dat bad, .dat odd, .dat (.int (-1))] [p] = .ok (.val (.dat (.tuple [.int 0, .str bad.shown]))) [p] := by
  have nd : needS bad odd = some (3, bad) := by unfold needS; rw [nb]; rfl
  have hr := gb.rep (by decide) (by decide)
  have ob := gb.ok
  have lb := gb.lo8 (by decide)
  have oo := go.ok
  have lo := go.lo8 (by decide)
  have hw : w = 0 ∨ w = 1 ∨ w = 2 ∨ w = 3 ∨ w = 4 := by omega
  rcases hw with rfl | rfl | rfl | rfl | rfl
  · exact ev_caught0 p hc bad odd _ bad 60 3 (by decide) hr (ev_at_once_no p bad odd 60 3 bad ob lb oo lo nd)
  · exact ev_caught1 p hc bad odd _ bad 60 3 (by decide) hr (ev_stands_at_no p bad odd _ 60 3 bad ob lb oo lo nd)
  · exact ev_caught2 p hc bad odd _ bad 60 3 (by decide) hr (ev_outs_of_no p bad odd _ 60 3 bad ob lb oo lo nd)
  · exact ev_caught3 p hc bad odd _ bad 60 3 (by decide) hr (ev_about_no p 3 bad ob lb nb)
  · exact ev_caught4 p hc bad odd _ bad 60 3 (by decide) hr (ev_about_no p 4 bad ob lb nb)
theorem caught_odd {p : Ob} (hc : p.cl 1 = true) {wk odd : PyData} (gb : Gd 7 400000 wk) (go : Gd 7 400000 odd) (wk_ : walkersB wk = true) (no : standsB (manyD wk) odd = false) (w : Int) (h0 : 0 ≤ w) (h5 : w < 3) :
    F__law_caught 60 [.dat (.int w), .dat wk, .dat odd, .dat (.int (-1))] [p] = .ok (.val (.dat (.tuple [.int 1, .str odd.shown]))) [p] := by
  have nd : needS wk odd = some (4, odd) := by unfold needS; rw [wk_, no]; rfl
  have hr := go.rep (by decide) (by decide)
  have ob := gb.ok
  have lb := gb.lo8 (by decide)
  have oo := go.ok
  have lo := go.lo8 (by decide)
  have hw : w = 0 ∨ w = 1 ∨ w = 2 := by omega
  rcases hw with rfl | rfl | rfl
  · exact ev_caught0 p hc wk odd _ odd 60 4 (by decide) hr (ev_at_once_no p wk odd 60 4 odd ob lb oo lo nd)
  · exact ev_caught1 p hc wk odd _ odd 60 4 (by decide) hr (ev_stands_at_no p wk odd _ 60 4 odd ob lb oo lo nd)
  · exact ev_caught2 p hc wk odd _ odd 60 4 (by decide) hr (ev_outs_of_no p wk odd _ 60 4 odd ob lb oo lo nd)
end Qk68
/-! text LB68 -/
set_option Elab.async false
set_option linter.all false
set_option maxRecDepth 100000
set_option maxHeartbeats 4000000
set_option autoImplicit false
namespace Qk68
open PySem PySem.Spec Bk
open L2 (Key)
open PySem.PyData (strOk)
abbrev EL (sc : Vl) (a2 : Option Vl) (wk : PyData) (M : Int) (a5 a6 a7 a8 a9 a10 a11 a12 a13 a14 : Option Vl) : Ev := [some sc, some (.ref 0), a2, some (.dat wk), some (.dat (.int M)), a5, a6, a7, a8, a9, a10, a11, a12, a13, a14, none, none]
section
variable {sc : Vl} {a2 : Option Vl} {cs rows bi es : List PyData} {many : Nat} {M : Int} {a5 a6 a7 a8 a9 a10 a11 a12 a13 a14 : Option Vl}
theorem l0 (hM : M = many) (h4 : many ≤ 4) (wk : PyData) (S : Sto) (hp : PoolAt [] S) : ∃ pl bs S', li0 60 (EL sc a2 wk M a5 a6 a7 a8 a9 a10 a11 a12 a13 a14) S = .next (EL sc a2 wk M a5 (some (.dat (.tuple (stD pl bs)))) a7 a8 a9 a10 a11 a12 a13 a14) S' ∧ PoolAt [] S' ∧ SH pl bs many := by
  obtain ⟨pl, bs, S', e, p, h1, h2⟩ := ev_law_stands 60 (by decide) many (by omega) S hp
  rw [← hM] at e
  exact ⟨pl, bs, S', by simp -implicitDefEqProofs [-eqv_dd, EL, li0, e, argm], p, h1, h2⟩
theorem ends_of (i : Int) (h0 : 0 ≤ i) (h4 : i < 4) (S : Sto) : ∃ x : Int, 0 ≤ x ∧ x ≤ 12 ∧ ixV (.dat (.list [.tuple [.int 0, .int 1], .tuple [.int 0, .int 1], .tuple [.int 1, .int 2], .tuple [.int 1, .int 1]])) (.dat (.int i)) S = some (.val (.dat (mk12 x)), S) := by
  have hi : i = 0 ∨ i = 1 ∨ i = 2 ∨ i = 3 := by omega
  rcases hi with rfl | rfl | rfl | rfl
  · exact ⟨0, by decide, by decide, rfl⟩
  · exact ⟨0, by decide, by decide, rfl⟩
  · exact ⟨6, by decide, by decide, rfl⟩
  · exact ⟨12, by decide, by decide, rfl⟩
theorem st_const (e : PyData) : ∀ (pl : List PyData) (bs : List Bool), (stD pl bs).map (fun d => match d with
    | .tuple [_, w] => .tuple [e, w]
    | d => d) = stD (pl.map fun _ => e) bs
  | [], bs => by simp [stD]
  | p :: pl, [] => by simp [stD]
  | p :: pl, b :: bs => by
    have ih := st_const e pl bs
    show PyData.tuple [e, wayS b] :: (stD pl bs).map _ = PyData.tuple [e, wayS b] :: stD (pl.map fun _ => e) bs
    rw [ih]
theorem l1 (h4 : many ≤ 4) (wk : PyData) (k : Int) {pl : List PyData} {bs : List Bool} (s : SH pl bs many) (S : Sto) (hp : PoolAt [] S) : ∃ pl' bs' a7' S', li1 60 (EL sc a2 wk M (some (.dat (.int k))) (some (.dat (.tuple (stD pl bs)))) a7 a8 a9 a10 a11 a12 a13 a14) S = .next (EL sc a2 wk M (some (.dat (.int k))) (some (.dat (.tuple (stD pl' bs')))) a7' a8 a9 a10 a11 a12 a13 a14) S' ∧ PoolAt [] S' ∧ SH pl' bs' many := by
  have q : ∀ S : Sto, eqv false (.dat (.int k)) (.dat (.int 0)) S = some (.val (.dat (.bool (decide (k = 0)))), S) := fun S => by
    have : PyData.eqv (.int k) (.int 0) = decide (k = 0) := by
      rw [PyData.eqv]
      by_cases h : k = 0
      · subst h; rfl
      · rw [decide_eq_false h]; simpa using h
    rw [eqv_dd, this]
    rw [show (decide (k = 0) != false) = decide (k = 0) by simp]
    rfl
  by_cases hk : k = 0
  · subst hk
    have q0 : ∀ S : Sto, eqv false (.dat (.int 0)) (.dat (.int 0)) S = some (.val (.dat (.bool true)), S) := fun _ => rfl
    have ln : pl.length = many := s.hp.len
    obtain ⟨i, S1, e1, p1, h0, h1⟩ := ev_take [] S 4 hp (by omega) (by omega)
    obtain ⟨x, x0, x1, e2⟩ := ends_of i h0 h1 S1
    have aw4 : ∀ S : Sto, argw (.new [Vl.dat (.tuple [.int 0, .int 1]), Vl.dat (.tuple [.int 0, .int 1]), Vl.dat (.tuple [.int 1, .int 2]), Vl.dat (.tuple [.int 1, .int 1])]) S = some (.dat (.list [.tuple [.int 0, .int 1], .tuple [.int 0, .int 1], .tuple [.int 1, .int 2], .tuple [.int 1, .int 1]]), S) := fun _ => rfl
    have sl : (stD pl bs).length = many := by rw [stD_len s.hb, ln]
    have lc := dat_map (stD pl bs) (EL sc a2 wk M (some (.dat (.int 0))) (some (.dat (.tuple (stD pl bs)))) (some (.dat (mk12 x))) a8 a9 a10 a11 a12 a13 a14) (mgtup 2 (mgcons (mgN 15) (mgcons (mgN 16) mgnil))) myes (mtup (mcons (mVar 7) (mcons (mVar 16) mnil))) S1 (fun d => match d with
      | .tuple [_, w] => .tuple [mk12 x, w]
      | d => d) (fun d hd => by
        obtain ⟨p, w, rfl⟩ := stD_mem hd
        exact ⟨[some sc, some (.ref 0), a2, some (.dat wk), some (.dat (.int M)), some (.dat (.int 0)), some (.dat (.tuple (stD pl bs))), some (.dat (mk12 x)), a8, a9, a10, a11, a12, a13, a14, some (.dat p), some (.dat (wayS w))], by simp -implicitDefEqProofs [-eqv_dd, EL, itemsOf], rfl, by simp -implicitDefEqProofs [-eqv_dd, EL, toD2]⟩) (by omega)
    rw [st_const] at lc
    have aw : ∀ S : Sto, argw (.new ((stD (pl.map fun _ => mk12 x) bs).map Vl.dat)) S = some (.dat (.list (stD (pl.map fun _ => mk12 x) bs)), S) := argw_new _
    refine ⟨pl.map (fun _ => mk12 x), bs, some (.dat (mk12 x)), S1, ?_, p1, ⟨List.replicate many x, by rw [List.map_replicate, ← ln, List.map_const'], by simp, fun j hj => by rw [List.eq_of_mem_replicate hj]; exact ⟨x0, x1⟩, ?_⟩, by simpa using s.hb⟩
    · unfold li1
      simp -implicitDefEqProofs [-eqv_dd, EL, q0, e1, aw4, toD2, e2, wipeE, srcOf]
      simp -implicitDefEqProofs [-eqv_dd, EL, lc, aw, tupV_list, argm]
    · rw [List.pairwise_replicate]
      exact Or.inr (Int.le_refl _)
  · refine ⟨pl, bs, a7, S, ?_, hp, s⟩
    simp -implicitDefEqProofs [-eqv_dd, EL, li1, q, hk]
theorem l2 (h : WH cs rows bi es many) {pl : List PyData} {bs : List Bool} (s : SH pl bs many) (S : Sto) : li2 60 (EL sc a2 (wD cs rows bi es) M a5 (some (.dat (.tuple (stD pl bs)))) a7 a8 a9 a10 a11 a12 a13 a14) S = .next (EL sc a2 (wD cs rows bi es) M a5 (some (.dat (.tuple (stD pl bs)))) a7 a8 a9 a10 a11 a12 a13 a14) S := by
  have g := h.gd
  have gs := s.gd h.le.2
  have e := ev_are_stands (wD cs rows bi es) (.tuple (stD pl bs)) S g.ok (g.lo8 (by decide)) gs.ok
  rw [h.ok, if_pos rfl, h.manyD, s.ok h.le] at e
  have q : p10 [Vl.dat (.tuple (stD pl bs)), Vl.dat (wD cs rows bi es)] = [Vl.dat (wD cs rows bi es), Vl.dat (.tuple (stD pl bs))] := rfl
  generalize wD cs rows bi es = wk at e q
  simp -implicitDefEqProofs [-eqv_dd, EL, li2, e, q, aw_2, rep_tt, eq_tt]
theorem l34 (h : WH cs rows bi es many) {pl : List PyData} {bs : List Bool} (s : SH pl bs many) (S : Sto) (hp : PoolAt [] S) : ∃ a8', (li3 60 (EL sc a2 (wD cs rows bi es) M a5 (some (.dat (.tuple (stD pl bs)))) a7 a8 a9 a10 a11 a12 a13 a14) S).bind (li4 60) = .next (EL sc a2 (wD cs rows bi es) M a5 (some (.dat (.tuple (stD pl bs)))) a7 a8' a9 a10 a11 a12 a13 a14) S := by
  obtain ⟨xs, rfl, hx⟩ := hp
  have hc := cl_pool xs
  have ln : pl.length = many := s.hp.len
  have l0 : 0 < pl.length := by have := h.le; omega
  have l4 : pl.length ≤ 4 := by have := h.le; omega
  obtain ⟨bs', o', e1, e2⟩ := both_settle pl bs s.hp.plb l0 l4 s.hb
  obtain ⟨hl', o0, o60⟩ := settle_bounds pl 60 bs 0 bs' o' e1
  have g := h.gd
  have gs := s.gd h.le.2
  have r1 := ev_law_settled (.lst (intsV xs)) hc pl s.hp.plb l0 (by omega) 60 bs bs' 0 o' s.hb e2
  have r2 := ev_at_once_ok (.lst (intsV xs)) hc (wD cs rows bi es) pl bs bs' o' 60 s.hp.plb l0 (by omega) s.hb (hl'.trans s.hb) e1 g.ok (g.lo8 (by decide)) gs.ok (gs.lo8 (by decide)) (need_ok h s)
  have g1 : Gd 4 1701 (.tuple (stD pl bs')) := (gd_st s.hp (hl'.trans s.hb) (by omega)).1
  have g2 : Gd 5 3409 (.tuple [.int o', .tuple (stD pl bs')]) := gd_pair (by decide) ((gd_int (by omega)).mono (by decide) (by decide)) g1
  have g3 := gd_two_l (by decide) g2 g2
  have rp := rep_gd g3 (by decide) (by decide)
  have eq := eqv_str g3.so
  have q : p10 [Vl.dat (.tuple (stD pl bs)), Vl.dat (wD cs rows bi es)] = [Vl.dat (wD cs rows bi es), Vl.dat (.tuple (stD pl bs))] := rfl
  generalize (PyData.list [.tuple [.int o', .tuple (stD pl bs')], .tuple [.int o', .tuple (stD pl bs')]]).shown = tx at rp eq
  refine ⟨some (.dat (.tuple [.int o', .tuple (stD pl bs')])), ?_⟩
  generalize wD cs rows bi es = wk at r2 q
  generalize PyData.tuple [.int o', .tuple (stD pl bs')] = due at r1 r2 rp
  generalize PyData.tuple (stD pl bs) = st at r1 r2 q
  simp -implicitDefEqProofs [-eqv_dd, EL, li3, li4, r1, r2, q, aw_2, rp, eq]
end
end Qk68
/-! text LC68 -/
set_option Elab.async false
set_option linter.all false
set_option maxRecDepth 100000
set_option maxHeartbeats 4000000
set_option autoImplicit false
namespace Qk68
open PySem PySem.Spec Bk
open L2 (Key)
open PySem.PyData (strOk)
section
variable {sc : Vl} {a2 : Option Vl} {cs rows bi es : List PyData} {many : Nat} {M : Int} {a5 a6 a7 a8 a9 a10 a11 a12 a13 a14 : Option Vl}
theorem l5 (h : WH cs rows bi es many) {pl : List PyData} {bs : List Bool} (s : SH pl bs many) (S : Sto) (hp : PoolAt [] S) : ∃ bad odd S', li5 60 (EL sc a2 (wD cs rows bi es) M a5 (some (.dat (.tuple (stD pl bs)))) a7 a8 a9 a10 a11 a12 a13 a14) S = .next (EL sc a2 (wD cs rows bi es) M a5 (some (.dat (.tuple (stD pl bs)))) a7 a8 (some (.dat bad)) (some (.dat odd)) a11 a12 a13 a14) S' ∧ PoolAt [] S' ∧ walkersB bad = false ∧ standsB (many : Int) odd = false ∧ Gd 7 400000 bad ∧ Gd 7 400000 odd := by
  have ln : pl.length = many := s.hp.len
  have hle := h.le
  have hcl := h.wk.br.cut.len
  have hes := h.es
  have hm := h.many
  obtain ⟨bad, S1, e1, p1, m1⟩ := ev_bad_walkers cs rows bi es S hp (by omega) (by omega) (by omega)
  obtain ⟨di, p, b, es2, hp2, hd⟩ := st_split s.hb (show 0 < pl.length by omega)
  obtain ⟨odd, S2, e2, p2, m2⟩ := ev_bad_stands di p b S1 p1 (by omega)
  rw [← es2] at e2
  have gall := (gd_st s.hp s.hb (by omega)).2
  refine ⟨bad, odd, S2, ?_, p2, badW_no h.wk h.es bad m1, ?_, badW_gd (by decide) (by decide) h.wk h.es bad m1, ?_⟩
  · have e1' : F__law_bad_walkers [.ref 0, .dat (wD cs rows bi es)] S = _ := e1
    generalize wD cs rows bi es = wk at e1'
    generalize PyData.tuple (stD pl bs) = st at e2
    simp -implicitDefEqProofs [-eqv_dd, EL, li5, e1', e2]
  · have := oddS_no (s.hp.plb p hp2) (di := di) (b := b) odd m2
    rw [show di.length + 1 = many by omega] at this
    exact this
  · exact oddS_gd (by omega) (fun x hx => gall x (by rw [es2]; simp [hx])) (s.hp.gd p hp2) odd m2
theorem l67 (h : WH cs rows bi es many) (st : PyData) {bad odd : PyData} (gb : Gd 7 400000 bad) (go : Gd 7 400000 odd) (nb : walkersB bad = false) (no : standsB (many : Int) odd = false) (S : Sto) (hp : PoolAt [] S) : ∃ (w : Int) (a11' : Option Vl) (S' : Sto), (li6 60 (EL sc a2 (wD cs rows bi es) M a5 (some (.dat st)) a7 a8 (some (.dat bad)) (some (.dat odd)) a11 a12 a13 a14) S).bind (li7 60) = .next (EL sc a2 (wD cs rows bi es) M a5 (some (.dat st)) a7 a8 (some (.dat bad)) (some (.dat odd)) a11' (some (.dat (.int w))) a13 a14) S' ∧ PoolAt [] S' ∧ 0 ≤ w ∧ w < 3 := by
  obtain ⟨w, S1, e1, p1, h0, h1⟩ := ev_take [] S 3 hp (by omega) (by omega)
  have g3 := gd_two_l (by decide) gb go
  have rp := rep_gd g3 (by decide) (by decide)
  have eq := eqv_str g3.so
  have g := h.gd
  have f1 := ev_are_walkers bad S1 gb.ok
  rw [nb] at f1
  have f2 := ev_are_stands (wD cs rows bi es) odd S1 g.ok (g.lo8 (by decide)) go.ok
  rw [h.ok, if_pos rfl, h.manyD, no] at f2
  generalize (PyData.list [bad, odd]).shown = tx at rp eq
  refine ⟨w, some (.dat (.str tx)), S1, ?_, p1, h0, h1⟩
  generalize wD cs rows bi es = wk at f2
  simp -implicitDefEqProofs [-eqv_dd, EL, li6, li7, e1, aw_2, rp, eq, f1, f2, rep_ff, eq_ff]
theorem l8 (st : PyData) {wk bad odd : PyData} (gb : Gd 7 400000 bad) (go : Gd 7 400000 odd) (nb : walkersB bad = false) (S : Sto) (hp : PoolAt [] S) : ∃ S', li8 60 (EL sc a2 wk M a5 (some (.dat st)) a7 a8 (some (.dat bad)) (some (.dat odd)) a11 a12 a13 a14) S = .next (EL sc a2 wk M a5 (some (.dat st)) a7 a8 (some (.dat bad)) (some (.dat odd)) a11 a12 a13 a14) S' ∧ PoolAt [] S' := by
  obtain ⟨w, S1, e1, p1, h0, h1⟩ := ev_take [] S 5 hp (by omega) (by omega)
  refine ⟨S1, ?_, p1⟩
  obtain ⟨xs, rfl, hx⟩ := p1
  have c := caught_bad (cl_pool xs) gb go nb w h0 h1
  have rp := rep_gd gb (by decide) (by decide)
  have eq := eqv_cs gb.so 0
  generalize bad.shown = tx at c rp eq
  simp -implicitDefEqProofs [-eqv_dd, EL, li8, e1, neg1, c, rp, toD2, eq]
theorem l9 (h : WH cs rows bi es many) (st : PyData) {odd : PyData} (go : Gd 7 400000 odd) (no : standsB (many : Int) odd = false) (w : Int) (h0 : 0 ≤ w) (h1 : w < 3) (S : Sto) (hp : PoolAt [] S) : li9 60 (EL sc a2 (wD cs rows bi es) M a5 (some (.dat st)) a7 a8 a9 (some (.dat odd)) a11 (some (.dat (.int w))) a13 a14) S = .next (EL sc a2 (wD cs rows bi es) M a5 (some (.dat st)) a7 a8 a9 (some (.dat odd)) a11 (some (.dat (.int w))) a13 a14) S := by
  obtain ⟨xs, rfl, hx⟩ := hp
  have c := caught_odd (cl_pool xs) (h.gd.mono (by decide) (by decide)) go h.ok (by rw [h.manyD]; exact no) w h0 h1
  have rp := rep_gd go (by decide) (by decide)
  have eq := eqv_cs go.so 1
  generalize odd.shown = tx at c rp eq
  generalize wD cs rows bi es = wk at c
  simp -implicitDefEqProofs [-eqv_dd, EL, li9, neg1, c, rp, toD2, eq]
/-- what holds between two turns of the inner loop -/
def IIn (sc : Vl) (wk : PyData) (M : Int) (many : Nat) (i : Nat) (env : Ev) (S : Sto) : Prop := ∃ a2 a5 a6 a7 a8 a9 a10 a11 a12 a13 a14, env = EL sc a2 wk M a5 a6 a7 a8 a9 a10 a11 a12 a13 a14 ∧ PoolAt [] S ∧ (0 < i → ∃ pl bs, a6 = some (.dat (.tuple (stD pl bs))) ∧ SH pl bs many)
theorem turn_in (h : WH cs rows bi es many) (hM : M = many) (i : Nat) (k : Int) (env : Ev) (S : Sto) (hI : IIn sc (wD cs rows bi es) M many i env S) : ∃ env' S', mseq (fun env S => .next (List.set env 5 (some (.dat (.int k)))) S) (l_in 60) env S = .next env' S' ∧ IIn sc (wD cs rows bi es) M many (i + 1) env' S' := by
  obtain ⟨a2, a5, a6, a7, a8, a9, a10, a11, a12, a13, a14, rfl, hp, _⟩ := hI
  obtain ⟨pl, bs, S1, e0, p1, s1⟩ := l0 (sc := sc) (a2 := a2) (a5 := some (.dat (.int k))) (a6 := a6) (a7 := a7) (a8 := a8) (a9 := a9) (a10 := a10) (a11 := a11) (a12 := a12) (a13 := a13) (a14 := a14) hM h.le.2 (wD cs rows bi es) S hp
  obtain ⟨pl2, bs2, a7', S2, e1, p2, s2⟩ := l1 (sc := sc) (a2 := a2) (M := M) (a7 := a7) (a8 := a8) (a9 := a9) (a10 := a10) (a11 := a11) (a12 := a12) (a13 := a13) (a14 := a14) h.le.2 (wD cs rows bi es) k s1 S1 p1
  have e2 := l2 (sc := sc) (a2 := a2) (M := M) (a5 := some (.dat (.int k))) (a7 := a7') (a8 := a8) (a9 := a9) (a10 := a10) (a11 := a11) (a12 := a12) (a13 := a13) (a14 := a14) h s2 S2
  obtain ⟨a8', e34⟩ := l34 (sc := sc) (a2 := a2) (M := M) (a5 := some (.dat (.int k))) (a7 := a7') (a8 := a8) (a9 := a9) (a10 := a10) (a11 := a11) (a12 := a12) (a13 := a13) (a14 := a14) h s2 S2 p2
  obtain ⟨bad, odd, S3, e5, p3, nb, no, gb, go⟩ := l5 (sc := sc) (a2 := a2) (M := M) (a5 := some (.dat (.int k))) (a7 := a7') (a8 := a8') (a9 := a9) (a10 := a10) (a11 := a11) (a12 := a12) (a13 := a13) (a14 := a14) h s2 S2 p2
  obtain ⟨w, a11', S4, e67, p4, h0, h1⟩ := l67 (sc := sc) (a2 := a2) (M := M) (a5 := some (.dat (.int k))) (a7 := a7') (a8 := a8') (a11 := a11) (a12 := a12) (a13 := a13) (a14 := a14) h (.tuple (stD pl2 bs2)) gb go nb no S3 p3
  obtain ⟨S5, e8, p5⟩ := l8 (sc := sc) (a2 := a2) (M := M) (a5 := some (.dat (.int k))) (a7 := a7') (a8 := a8') (a11 := a11') (a12 := some (.dat (.int w))) (a13 := a13) (a14 := a14) (.tuple (stD pl2 bs2)) (wk := wD cs rows bi es) gb go nb S4 p4
  have e9 := l9 (sc := sc) (a2 := a2) (M := M) (a5 := some (.dat (.int k))) (a7 := a7') (a8 := a8') (a9 := some (.dat bad)) (a11 := a11') (a13 := a13) (a14 := a14) h (.tuple (stD pl2 bs2)) go no w h0 h1 S5 p5
  refine ⟨_, S5, ?_, a2, some (.dat (.int k)), some (.dat (.tuple (stD pl2 bs2))), a7', a8', some (.dat bad), some (.dat odd), a11', some (.dat (.int w)), a13, a14, rfl, p5, fun _ => ⟨pl2, bs2, rfl, s2⟩⟩
  rw [v_mseq]
  show (l_in 60) (EL sc a2 (wD cs rows bi es) M (some (.dat (.int k))) a6 a7 a8 a9 a10 a11 a12 a13 a14) S = _
  have assoc : ∀ (x : Fl) (f g : MS), (x.bind f).bind g = x.bind (mseq f g) := fun x f g => by cases x <;> rfl
  unfold l_in
  rw [v_mseq, e0, fl_next, v_mseq, e1, fl_next, v_mseq, e2, fl_next, v_mseq, ← assoc, e34, fl_next, v_mseq, e5, fl_next, v_mseq, ← assoc, e67, fl_next, v_mseq, e8, fl_next, e9]
end
end Qk68
/-! text LD68 -/
set_option Elab.async false
set_option linter.all false
set_option maxRecDepth 100000
set_option maxHeartbeats 4000000
set_option autoImplicit false
namespace Qk68
open PySem PySem.Spec Bk
open L2 (Key)
open PySem.PyData (strOk)
section
variable {sc : Vl} {a2 a3 a4 a5 a6 a7 a8 a9 a10 a11 a12 a13 a14 : Option Vl} {cs rows bi es : List PyData} {many : Nat} {M : Int}
theorem o012 (S : Sto) (hp : PoolAt [] S) : ∃ (cs rows bi es : List PyData) (many : Nat) (S' : Sto), ((lo0 60 [some sc, some (.ref 0), a2, a3, a4, a5, a6, a7, a8, a9, a10, a11, a12, a13, a14, none, none] S).bind (lo1 60)).bind (lo2 60) = .next (EL sc a2 (wD cs rows bi es) (many : Int) a5 a6 a7 a8 a9 a10 a11 a12 a13 a14) S' ∧ PoolAt [] S' ∧ WH cs rows bi es many := by
  obtain ⟨cs, rows, bk, S1, e1, p1, hw⟩ := ev_walkers 60 (by decide) 4 2 (by decide) (by decide) (by decide) S hp
  have e1' : F__law_walkers 60 [.ref 0, .dat (.int 4), .dat (.int 2)] S = .ok (.val (.dat (wkD cs rows bk))) S1 := e1
  obtain ⟨bi, es, rfl, h⟩ := wh_of hw
  refine ⟨cs, rows, bi, es, (bi ++ [PyData.tuple es]).length, S1, ?_, p1, h⟩
  have f1 := ev_are_walkers (wD cs rows bi es) S1 h.gd.ok
  rw [h.ok] at f1
  have q : p0 [Vl.dat (wD cs rows bi es)] = [Vl.dat (wD cs rows bi es)] := rfl
  have i1 : ∀ S, ixV (.dat (wD cs rows bi es)) (.dat (.int 1)) S = some (.val (.dat (.tuple (bi ++ [.tuple es]))), S) := fun S => ix_t1 _ _ S
  have ln := len_tup (bi ++ [.tuple es])
  generalize ((bi ++ [PyData.tuple es]).length : Int) = N at ln
  have e1'' : F__law_walkers 60 [.ref 0, .dat (.int 4), .dat (.int 2)] S = .ok (.val (.dat (wD cs rows bi es))) S1 := e1'
  generalize wD cs rows bi es = wk at f1 q i1 e1''
  simp -implicitDefEqProofs [-eqv_dd, EL, lo0, lo1, lo2, e1'', i1, ln, f1, q, aw_2, rep_tt, eq_tt]
def oddT : List PyData := [.none, .int 0, .tuple [.int (-1), .int 2], .tuple [.int 2, .int 4], .list [.int 1, .int 2]]
theorem oddT_ok : ∀ d ∈ oddT, timeB d = false ∧ Gd 7 400000 d := by
  intro d hd
  simp only [oddT, List.mem_cons, List.not_mem_nil, or_false] at hd
  rcases hd with rfl | rfl | rfl | rfl | rfl
  · exact ⟨rfl, gd_non.mono (by decide) (by decide)⟩
  · exact ⟨rfl, (gd_int (by decide)).mono (by decide) (by decide)⟩
  · exact ⟨by decide, (gd_fr (by decide) (by decide)).mono (by decide) (by decide)⟩
  · exact ⟨by decide, (gd_fr (by decide) (by decide)).mono (by decide) (by decide)⟩
  · exact ⟨rfl, (gd_two_l (by decide) (gd_int (by decide)) (gd_int (by decide))).mono (by decide) (by decide)⟩
def oddN : List PyData := [.int (-1), .int 41, .int 100000000000000000000]
structure NumD (d : PyData) : Prop where
  ex : ∃ i : Int, d = .int i ∧ ¬ (0 ≤ i ∧ i ≤ 40)
  rp : repC d = true
  so : strOk d.shown = true
theorem oddN_ok : ∀ d ∈ oddN, NumD d := by
  intro d hd
  simp only [oddN, List.mem_cons, List.not_mem_nil, or_false] at hd
  rcases hd with rfl | rfl | rfl
  · exact ⟨⟨_, rfl, by decide⟩, by decide +kernel, strOk_ofString _⟩
  · exact ⟨⟨_, rfl, by decide⟩, by decide +kernel, strOk_ofString _⟩
  · exact ⟨⟨_, rfl, by decide⟩, by decide +kernel, strOk_ofString _⟩
theorem o4 (wk : PyData) (S : Sto) (hp : PoolAt [] S) : ∃ (t n : PyData) (S' : Sto), lo4 60 (EL sc a2 wk M a5 a6 a7 a8 a9 a10 a11 a12 a13 a14) S = .next (EL sc a2 wk M a5 a6 a7 a8 a9 a10 a11 a12 (some (.dat t)) (some (.dat n))) S' ∧ PoolAt [] S' ∧ t ∈ oddT ∧ n ∈ oddN := by
  obtain ⟨i, S1, e1, p1, h0, h1⟩ := ev_take [] S 5 hp (by omega) (by omega)
  obtain ⟨j, S2, e2, p2, g0, g1⟩ := ev_take [] S1 3 p1 (by omega) (by omega)
  obtain ⟨x, rfl⟩ : ∃ x : Nat, i = x := ⟨i.toNat, by omega⟩
  obtain ⟨y, rfl⟩ : ∃ y : Nat, j = y := ⟨j.toNat, by omega⟩
  obtain ⟨t, ht⟩ := get_some (show x < oddT.length by show x < 5; omega)
  obtain ⟨n, hn⟩ := get_some (show y < oddN.length by show y < 3; omega)
  have f1 := ix_list ht
  have f2 := ix_list hn
  have aw5 : ∀ S : Sto, argw (.new [Vl.dat .none, Vl.dat (.int 0), Vl.dat (.tuple [.int (-1), .int 2]), Vl.dat (.tuple [.int 2, .int 4]), Vl.dat (.list [.int 1, .int 2])]) S = some (.dat (.list oddT), S) := fun _ => rfl
  have aw3 : ∀ S : Sto, argw (.new [Vl.dat (.int (-1)), Vl.dat (.int 41), Vl.dat (.int 100000000000000000000)]) S = some (.dat (.list oddN), S) := fun _ => rfl
  have pw : ∀ S : Sto, ipow (.dat (.int 10)) (.dat (.int 20)) S = some (.val (.dat (.int 100000000000000000000)), S) := fun S => by simp [ipow, powC]
  refine ⟨t, n, S2, ?_, p2, List.mem_of_getElem? ht, List.mem_of_getElem? hn⟩
  generalize ((x : Nat) : Int) = X at e1 f1
  generalize ((y : Nat) : Int) = Y at e2 f2
  simp -implicitDefEqProofs [-eqv_dd, EL, lo4, e1, e2, neg1, toD2, aw_2, aw5, f1, aw3, pw, f2]
theorem o56 (h : WH cs rows bi es many) {pl : List PyData} {bs : List Bool} (s : SH pl bs many) {t n : PyData} (ht : t ∈ oddT) (hn : n ∈ oddN) (S : Sto) (hp : PoolAt [] S) : (lo5 60 (EL sc a2 (wD cs rows bi es) M a5 (some (.dat (.tuple (stD pl bs)))) a7 a8 a9 a10 a11 a12 (some (.dat t)) (some (.dat n))) S).bind (lo6 60) = .next (EL sc a2 (wD cs rows bi es) M a5 (some (.dat (.tuple (stD pl bs)))) a7 a8 a9 a10 a11 a12 (some (.dat t)) (some (.dat n))) S := by
  obtain ⟨xs, rfl, hx⟩ := hp
  have hc := cl_pool xs
  obtain ⟨nt, gt⟩ := oddT_ok t ht
  obtain ⟨⟨i, rfl, hi⟩, rn, sn⟩ := oddN_ok n hn
  have g := h.gd
  have gs := s.gd h.le.2
  have c1 := ev_caught1 (.lst (intsV xs)) hc (wD cs rows bi es) (.tuple (stD pl bs)) t t 60 2 (by decide) (gt.rep (by decide) (by decide)) (ev_stands_at_time (.lst (intsV xs)) (wD cs rows bi es) (.tuple (stD pl bs)) t 60 g.ok (g.lo8 (by decide)) gs.ok (gs.lo8 (by decide)) gt.ok (gt.lo8 (by decide)) (need_ok h s) nt)
  have c2 := ev_caught2 (.lst (intsV xs)) hc (wD cs rows bi es) (.tuple (stD pl bs)) (.int i) (.int i) 60 1 (by decide) rn (ev_outs_of_number (.lst (intsV xs)) (wD cs rows bi es) (.tuple (stD pl bs)) 60 i g.ok (g.lo8 (by decide)) gs.ok (gs.lo8 (by decide)) (need_ok h s) hi)
  have k2 : kindI 2 = 2 := rfl
  have k1 : kindI 1 = 3 := rfl
  rw [k2] at c1
  rw [k1] at c2
  have r1 := rep_gd gt (by decide) (by decide)
  have r2 : ∀ S, reprV [.dat (.int i)] S = some (.val (.dat (.str (PyData.int i).shown)), S) := fun S => by
    unfold reprV
    simp only [pyOf_dat]
    rw [if_pos rn]
  have q1 := eqv_cs gt.so 2
  have q2 := eqv_cs sn 3
  generalize t.shown = tx at c1 r1 q1
  generalize (PyData.int i).shown = ty at c2 r2 q2
  generalize wD cs rows bi es = wk at c1 c2
  generalize PyData.tuple (stD pl bs) = st at c1 c2
  simp -implicitDefEqProofs [-eqv_dd, EL, lo5, lo6, c1, c2, r1, r2, toD2, q1, q2]
end
def IOut (sc : Vl) (env : Ev) (S : Sto) : Prop := ∃ a2 a3 a4 a5 a6 a7 a8 a9 a10 a11 a12 a13 a14, env = [some sc, some (.ref 0), a2, a3, a4, a5, a6, a7, a8, a9, a10, a11, a12, a13, a14, none, none] ∧ PoolAt [] S
theorem fl_assoc (x : Fl) (f g : MS) : (x.bind f).bind g = x.bind (mseq f g) := by cases x <;> rfl
theorem o3 {sc : Vl} {cs rows bi es : List PyData} {many : Nat} (h : WH cs rows bi es many) (env : Ev) (S : Sto) (hI : IIn sc (wD cs rows bi es) (many : Int) many 0 env S) : ∃ env' S', lo3 60 env S = .next env' S' ∧ IIn sc (wD cs rows bi es) (many : Int) many 4 env' S' := by
  obtain ⟨M, hM⟩ : ∃ M : Int, M = many := ⟨_, rfl⟩
  rw [← hM] at hI ⊢
  obtain ⟨env', S', e, hI'⟩ := loop_inv (rngV 0 4) (fun w => mseq (fun env S => .next (List.set env 5 (some w)) S) (l_in 60)) (fun i => IIn sc (wD cs rows bi es) M many i) (fun i w env S hw hI => by
    have hi := (List.getElem?_eq_some_iff.mp hw).1
    rw [rngV_len] at hi
    rw [rng_get hi] at hw
    cases hw
    exact turn_in h hM i i env S hI) 4 0 env S (by rw [rngV_len]) hI
  rw [rngV_len] at hI'
  refine ⟨env', S', ?_, hI'⟩
  unfold lo3
  rw [mfor_rng1 (S' := S) 4 (by decide) (by rfl)]
  exact e
theorem turn_out {sc : Vl} (w : Vl) (env : Ev) (S : Sto) (hI : IOut sc env S) : ∃ env' S', mseq (fun env S => .next (List.set env 2 (some w)) S) (l_out 60) env S = .next env' S' ∧ IOut sc env' S' := by
  obtain ⟨a2, a3, a4, a5, a6, a7, a8, a9, a10, a11, a12, a13, a14, rfl, hp⟩ := hI
  obtain ⟨cs, rows, bi, es, many, S1, e1, p1, h⟩ := o012 (sc := sc) (a2 := some w) (a3 := a3) (a4 := a4) (a5 := a5) (a6 := a6) (a7 := a7) (a8 := a8) (a9 := a9) (a10 := a10) (a11 := a11) (a12 := a12) (a13 := a13) (a14 := a14) S hp
  obtain ⟨env2, S2, e2, hI⟩ := o3 h (EL sc (some w) (wD cs rows bi es) (many : Int) a5 a6 a7 a8 a9 a10 a11 a12 a13 a14) S1 ⟨some w, a5, a6, a7, a8, a9, a10, a11, a12, a13, a14, rfl, p1, fun z => absurd z (by decide)⟩
  obtain ⟨b2, b5, b6, b7, b8, b9, b10, b11, b12, b13, b14, rfl, p2, st⟩ := hI
  obtain ⟨pl, bs, rfl, s⟩ := st (by decide)
  obtain ⟨M, hM⟩ : ∃ M : Int, M = many := ⟨_, rfl⟩
  rw [← hM] at e1 e2
  obtain ⟨t, n, S3, e4, p3, ht, hn⟩ := o4 (sc := sc) (a2 := b2) (M := M) (a5 := b5) (a6 := some (.dat (.tuple (stD pl bs)))) (a7 := b7) (a8 := b8) (a9 := b9) (a10 := b10) (a11 := b11) (a12 := b12) (a13 := b13) (a14 := b14) (wD cs rows bi es) S2 p2
  have e56 := o56 (sc := sc) (a2 := b2) (M := M) (a5 := b5) (a7 := b7) (a8 := b8) (a9 := b9) (a10 := b10) (a11 := b11) (a12 := b12) h s ht hn S3 p3
  refine ⟨_, S3, ?_, b2, some (.dat (wD cs rows bi es)), some (.dat (.int M)), b5, some (.dat (.tuple (stD pl bs))), b7, b8, b9, b10, b11, b12, some (.dat t), some (.dat n), rfl, p3⟩
  rw [v_mseq]
  show (l_out 60) [some sc, some (.ref 0), some w, a3, a4, a5, a6, a7, a8, a9, a10, a11, a12, a13, a14, none, none] S = _
  unfold l_out
  rw [v_mseq, ← fl_assoc, ← fl_assoc, e1, fl_next, v_mseq, e2, fl_next, v_mseq, e4, fl_next, v_mseq, e56]
theorem law_true (is : List Int) : F_law 60 [.ro (is.map .int)] [] = .ok (.val (.dat (.bool true))) [] := by
  obtain ⟨xs, e1, hx⟩ := ev_pool is 400 (by decide)
  have e1' : F__law_pool [.ro (is.map .int), .dat (.int 400)] [] = .ok (.new (intsV xs)) [] := e1
  have am : argm (.new (intsV xs)) ([] : Sto) = some (.ref 0, [.lst (intsV xs)]) := rfl
  obtain ⟨env', S', e2, hI⟩ := loop_inv (rngV 0 4) (fun w => mseq (fun env S => .next (List.set env 2 (some w)) S) (l_out 60)) (fun _ => IOut (.ro (is.map .int))) (fun i w env S hw hI => turn_out w env S hI) 4 0 [some (.ro (is.map .int)), some (.ref 0), none, none, none, none, none, none, none, none, none, none, none, none, none, none, none] [.lst (intsV xs)] (by rw [rngV_len]) ⟨none, none, none, none, none, none, none, none, none, none, none, none, none, rfl, xs, rfl, hx⟩
  obtain ⟨a2, a3, a4, a5, a6, a7, a8, a9, a10, a11, a12, a13, a14, rfl, ys, rfl, hy⟩ := hI
  have s1 : mset 1 (mwM (mcall 2 F__law_pool (mcons (mVar 0) (mcons (mC (.int 400)) mnil)))) (ev0 17 [.ro (is.map .int)]) [] = .next [some (.ro (is.map .int)), some (.ref 0), none, none, none, none, none, none, none, none, none, none, none, none, none, none, none] [.lst (intsV xs)] := by
    simp -implicitDefEqProofs [ev0, e1', am]
  have s2 : mfor (mrng1 (mcons (mC (.int 4)) mnil)) (mgN 2) (l_out 60) [some (.ro (is.map .int)), some (.ref 0), none, none, none, none, none, none, none, none, none, none, none, none, none, none, none] [.lst (intsV xs)] = .next [some (.ro (is.map .int)), some (.ref 0), a2, a3, a4, a5, a6, a7, a8, a9, a10, a11, a12, a13, a14, none, none] [.lst (intsV ys)] := by
    rw [mfor_rng1 (S' := [.lst (intsV xs)]) 4 (by decide) (by rfl)]
    exact e2
  have tr : trim 0 [.lst (intsV ys)] = [] := rfl
  unfold F_law trimF
  rw [v_runF, law_eq, v_mseq, s1, fl_next, v_mseq, s2, fl_next]
  show trimO 0 (.ok (.val (.dat (.bool true))) [.lst (intsV ys)]) = _
  rw [trimO_ok, tr]
  rfl
end Qk68
/-! text FN68 -/
set_option Elab.async false
set_option linter.all false
set_option maxRecDepth 100000
set_option maxHeartbeats 4000000
set_option autoImplicit false
namespace L2
open PySem PySem.Spec PyProof.Rows
theorem walk_ofW {l : PySem.W.OpenLaw} {n k : Nat} {q : Program} {loose : List Str} {XP : (Str → Option Value) → Heap → Prop} {YP : World → Heap → Prop} {d : DefRec} {CX : World → CXT} {x : Str}
    (hn : l.most = some n) (hn2 : n ≤ sizeLine) (hdf : d.params.defaults = []) (hr : Room k callerA)
    (F : ∀ (w : World) (mg : Str → Option Value) (fa : Addr) (h : Heap), YP w h → h.Ns mainGlobals mg → mg d.name = some (.ref fa) →
      ∃ (K : PySem.W.Frag) (fd : FuncData) (sp : Sp), K.In h ∧ (∀ (s : Shared) (u : Value), BindsTo s fd ⟨[u], []⟩ [(x, u)]) ∧
        (∀ (H : Hp) (a : Addr) (ns : List Int), ns.length ≤ n → Only H → SqL K H a (ns.map V.int) → sp [.ref a] H (fun v _ => v = .bl true) fun _ _ _ => False) ∧
        ∀ base : Heap, K.In base → base.Ns mainGlobals mg → FnG l.prog w K mg base (CX w) k fa fd [x] sp)
    (hCX : ∀ (w : World) (H : Hp) (s : Shared) (e : Value) (s' : Shared), CX w [] H s (fun _ _ _ => False) e s' → False) :
    PySem.W.WalkO q loose XP YP l.row.toRowW d [] (fun f vs => PySem.call f vs) := by
  refine Att.attach_call hn hdf fun w s₀ s₁ mg mb fa o pm cd doc a vs ns G Y ho hd hcd hmg hobj hints hlen hg => ?_
  obtain ⟨K, fd, sp, KX, hb, hsp, hF⟩ := F w mg fa _ Y G.T.g hmg
  exact law_callG KX G.T.g G.T.b G.T.builtins G.T.nolimit hg hobj hints (Nat.le_trans hlen hn2) hr hF hb (fun H hO hS => hsp H a ns hlen hO hS) fun H e s' => hCX w H s₁ e s'
end L2
namespace Qk68
open PySem PySem.Spec PyProof.Rows L2 Bk
theorem opt3 {α β γ δ : Type} {o : Option α} {f : α → β} {g : α → γ} {h : α → δ} {b : β} {c : γ} {d : δ} (h1 : o.map f = some b) (h2 : o.map g = some c) (h3 : o.map h = some d) : o.map (fun x => (f x, g x, h x)) = some (b, c, d) := by
  cases o with
  | none => cases h1
  | some x =>
    cases h1; cases h2; cases h3
    rfl
theorem run (w : World) : HandSHeadRun.RunEqI R (PySem.W.view R.prog [0, 99]) hk ob 6600 names w := by
  unfold HandSHeadRun.RunEqI
  exact opt3 (h_x w) (h_n w) (h_s w)
theorem dl_ints {K : PySem.W.Frag} {H : Hp} : ∀ ns : List Int, DlAll K H (ns.map V.int) (ns.map PyData.int)
  | [] => .nil
  | i :: r => .cons (.int i) (dl_ints r)
theorem promise (K : PySem.W.Frag) (H : Hp) (a : Addr) (ns : List Int) (hS : SqL K H a (ns.map V.int)) : spF (GG K) 1 (F_law 60) [.ref a] H (fun v _ => v = .bl true) fun _ _ _ => False := by
  have hv : Sx.vis ⟨[], [], [], H⟩ = H := funext fun b => hid_out (by simp)
  refine ⟨rfl, ⟨[], [], [], H⟩, [], [.ro (ns.map .int)], rfl, ⟨rfl, List.nodup_nil, fun b hb => by simp at hb, fun b hb => by simp at hb, fun n o b h1 h2 => by simp at h1⟩, .cons ⟨a, ns.map V.int, rfl, by rw [hv]; exact hS, dl_ints ns⟩ .nil, ?_⟩
  rw [law_true]
  intro t v f so r
  have r' : Dl (GG K).K t.vis v (.bool true) := r
  cases r'
  rfl
theorem facts {w : World} {h : Heap} {mg : Str → Option Value} {f : Addr} (Y : hk.says w h) (G : h.Ns mainGlobals mg) (hm : mg ("law" : Str) = some (.ref f)) :
    ∃ (K : PySem.W.Frag) (fd : FuncData) (sp : Sp), K.In h ∧ (∀ (s : Shared) (u : Value), BindsTo s fd ⟨[u], []⟩ [(("script" : Str), u)]) ∧
      (∀ (H : Hp) (a : Addr) (ns : List Int), ns.length ≤ 63 → Only H → SqL K H a (ns.map V.int) → sp [.ref a] H (fun v _ => v = .bl true) fun _ _ _ => False) ∧
      ∀ base : Heap, K.In base → base.Ns mainGlobals mg → FnG PP w K mg base (L2.CX PP w) 14 f fd ["script"] sp := by
  obtain ⟨K, KX, c, e, z⟩ := Y
  have B : BB K mg := ⟨⟨h, w, KX, G, c⟩⟩
  have Z : SupB K PP := supB_of e z rfl
  obtain ⟨fd, F⟩ := B.def_ 44 (d := dd_law) rfl
  have ef := hm.symm.trans (B.glo 39 (x := "law") rfl)
  cases ef
  have b := FunD.bindsA (ps := ["script"]) F fun _ _ _ _ _ _ us hl => match us, hl with | [_], _ => rfl
  refine ⟨K, fd, spF (GG K) 1 (F_law 60), KX, fun s v => b s [v] rfl, fun H a ns _ _ hS => promise K H a ns hS, fun base _ _ => ?_⟩
  have q : FnG PP w K mg base (L2.CX PP w) 14 (He.ga K "law") fd ["script"] (spF (GG K) 1 (runF 17 (m_law 60))) :=
    FunD.fnG F fs_law (fun vs H Q E h => h.1) fun cdv A outer s H vs Q E hgd hr h => run_ok (r_law B Z 60 _ cdv A outer s H E hgd hr) h
  exact q.imp fun vs H Q E ⟨hl, s, S, ws, e, so, r, p⟩ => ⟨hl, s, S, ws, e, so, r, postF_trim so p⟩
end Qk68
open PySem PySem.W PySem.Calls PyProof.Rows
theorem PySem.Challenge.cw_bucketsalong_k68_walkers_stands_and_what_holds : PySem.Challenge.rw_bucketsalong_k68_walkers_stands_and_what.Holds := by
  w_on; o_law
  refine HandSHeadRun.head_imp (r := OpenLaw.row PySem.Challenge.rw_bucketsalong_k68_walkers_stands_and_what) (q := view (OpenLaw.row PySem.Challenge.rw_bucketsalong_k68_walkers_stands_and_what).prog [0, 99]) (H := Qk68.hk) (ob := Qk68.ob) (M := 6600) (loose := Qk68.names) (d := HandSHeadRun.topDef (OpenLaw.row PySem.Challenge.rw_bucketsalong_k68_walkers_stands_and_what).prog 99) (kwd := []) Qk68.ob_eq Qk68.run
    (by kernel_rfl) (by kernel_rfl) (by kernel_rfl) (by rfl) (by first | assumption | decide +kernel) (by decide +kernel) ⟨rfl, rfl, rfl, rfl, rfl, by decide +kernel⟩ ?hw ?hc
  case hw => w_witness2
  case hc =>
    refine L2.walk_ofW (l := PySem.Challenge.rw_bucketsalong_k68_walkers_stands_and_what) (n := 63) (k := 14) (x := "script") (CX := fun w => L2.CX Qk68.PP w) rfl (by decide) (by kernel_rfl) ⟨rfl, by decide, by decide⟩ ?F (fun w H s e s' ⟨_, _, _, _, _, _, _, _, _, _, _, _, z⟩ => z)
    intro w mg fa h Y G hmg0
    have hmg : mg ("law" : PySem.Str) = some (.ref fa) := by
      have e : (HandSHeadRun.topDef (OpenLaw.row PySem.Challenge.rw_bucketsalong_k68_walkers_stands_and_what).prog 99).name = ("law" : PySem.Str) := by kernel_rfl
      rw [← e]
      exact hmg0
    exact Qk68.facts Y G hmg
